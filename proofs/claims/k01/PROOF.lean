import PyProof.Rows.All
import Wide.All
import OpenK.AllK
import Wide.FinOn
import HandS.ForMost
import HandS.Evl
import HandS.Wide
import HandS.IsInst
import HandS.TupMul
import HandS.TupAny
import HandS.TupLen
import HandS.Lambda
import HandS.Flow
import HandS.SortRule
import HandS.Iter
import HandS.Zip
import HandS.ExcOwn
import HandS.WordsExc
import HandS.Style
import HandS.AnyAll
import HandS.GenList
import HandS.ExcInit
import HandS.DictTup
import KE.KExcSuper
import KE.RegKSuper
import HandS.HeadWalk
import HandS.ExcField
import HandS.HeadHook4
import HandS.Defaults
import HandS.Words
import HandS.Head0
import HandS.Head1
import HandS.Head2
import HandS.HeadEnd
import PySem.Challenge.RW_tidemaker_k01_whole_for_ever
set_option Elab.async false
set_option linter.all false
set_option maxRecDepth 100000
set_option maxHeartbeats 4000000
section
namespace DL
open PySem PySem.Spec PyProof.Rows L2

inductive D where
  | non | bl (b : Bool) | int (i : Int) | str (s : Str) | tup (xs : List D) | lst (xs : List D) | scr (ns : List Int) | cell
  deriving Inhabited

mutual
/-- the value v stands for the data d, read in the part F of the heap that nobody writes; c: where the one shared list lies -/
inductive Dat (K : PySem.W.Frag) (c : Option Addr) (F : Hp) : D → V → Prop
  | non : Dat K c F .non .non
  | bl (b : Bool) : Dat K c F (.bl b) (.bl b)
  | int (i : Int) : Dat K c F (.int i) (.int i)
  | str (x : Str) : Dat K c F (.str x) (.str x)
  | tup {a : Addr} {xs : List V} {ds : List D} : SqT K F a xs → Dats K c F ds xs → Dat K c F (.tup ds) (.ref a)
  | lst {a : Addr} {xs : List V} {ds : List D} : F a = some (.lst xs) → Dats K c F ds xs → Dat K c F (.lst ds) (.ref a)
  | scr {a : Addr} {ns : List Int} : SqL K F a (ns.map V.int) → Dat K c F (.scr ns) (.ref a)
  | cell {a : Addr} : c = some a → Dat K c F .cell (.ref a)
inductive Dats (K : PySem.W.Frag) (c : Option Addr) (F : Hp) : List D → List V → Prop
  | nil : Dats K c F [] []
  | cons {d : D} {ds : List D} {v : V} {vs : List V} : Dat K c F d v → Dats K c F ds vs → Dats K c F (d :: ds) (v :: vs)
end

section
variable {K : PySem.W.Frag} {c : Option Addr} {F F' H : Hp}
mutual
theorem Dat.mono (e : Evl.Ex F F') : ∀ {d : D} {v : V}, Dat K c F d v → Dat K c F' d v
  | .non, _, h => by cases h; exact .non
  | .bl _, _, h => by cases h; exact .bl _
  | .int _, _, h => by cases h; exact .int _
  | .str _, _, h => by cases h; exact .str _
  | .tup ds, _, h => by
    cases h with
    | tup q r => exact .tup (Evl.ex_t e q) (Dats.mono e r)
  | .lst ds, _, h => by
    cases h with
    | lst q r => exact .lst (e _ _ q) (Dats.mono e r)
  | .scr _, _, h => by
    cases h with
    | scr q => exact .scr (Evl.ex_l e q)
  | .cell, _, h => by
    cases h with
    | cell q => exact .cell q
theorem Dats.mono (e : Evl.Ex F F') : ∀ {ds : List D} {vs : List V}, Dats K c F ds vs → Dats K c F' ds vs
  | [], _, h => by cases h; exact .nil
  | d :: ds, _, h => by
    cases h with
    | cons a b => exact .cons (Dat.mono e a) (Dats.mono e b)
end
theorem Dats.len : ∀ {ds : List D} {vs : List V}, Dats K c F ds vs → ds.length = vs.length
  | [], _, h => by cases h; rfl
  | d :: ds, _, h => by
    cases h with
    | cons a b => rw [List.length_cons, List.length_cons, Dats.len b]
theorem Dats.get : ∀ {ds : List D} {vs : List V} {i : Nat} {d : D}, Dats K c F ds vs → ds[i]? = some d → ∃ v, vs[i]? = some v ∧ Dat K c F d v
  | [], _, _, _, h, e => by simp at e
  | d :: ds, _, 0, _, h, e => by
    cases h with
    | cons a b =>
      simp at e
      subst e
      exact ⟨_, rfl, a⟩
  | d :: ds, _, i + 1, x, h, e => by
    cases h with
    | cons a b =>
      obtain ⟨v, q, r⟩ := Dats.get (i := i) (d := x) b (by simpa using e)
      exact ⟨v, by simpa using q, r⟩
theorem Dats.getV : ∀ {ds : List D} {vs : List V} {i : Nat} {v : V}, Dats K c F ds vs → vs[i]? = some v → ∃ d, ds[i]? = some d ∧ Dat K c F d v
  | [], _, _, _, h, e => by cases h; simp at e
  | d :: ds, _, 0, _, h, e => by
    cases h with
    | cons a b =>
      simp at e
      subst e
      exact ⟨_, rfl, a⟩
  | d :: ds, _, i + 1, x, h, e => by
    cases h with
    | cons a b =>
      obtain ⟨v, q, r⟩ := Dats.getV (i := i) (v := x) b (by simpa using e)
      exact ⟨v, by simpa using q, r⟩
theorem Dats.append : ∀ {ds es : List D} {vs us : List V}, Dats K c F ds vs → Dats K c F es us → Dats K c F (ds ++ es) (vs ++ us)
  | [], _, _, _, h, k => by cases h; exact k
  | d :: ds, _, _, _, h, k => by
    cases h with
    | cons a b => exact .cons a (Dats.append b k)
theorem Dats.take : ∀ {ds : List D} {vs : List V} (n : Nat), Dats K c F ds vs → Dats K c F (ds.take n) (vs.take n)
  | _, _, 0, _ => .nil
  | [], _, n + 1, h => by cases h; exact .nil
  | d :: ds, _, n + 1, h => by
    cases h with
    | cons a b => exact .cons a (Dats.take n b)
theorem Dats.drop : ∀ {ds : List D} {vs : List V} (n : Nat), Dats K c F ds vs → Dats K c F (ds.drop n) (vs.drop n)
  | _, _, 0, h => h
  | [], _, n + 1, h => by cases h; exact .nil
  | d :: ds, _, n + 1, h => by
    cases h with
    | cons a b => exact Dats.drop n b
theorem Dats.set : ∀ {ds : List D} {vs : List V} {d : D} {v : V} (n : Nat), Dats K c F ds vs → Dat K c F d v → Dats K c F (ds.set n d) (vs.set n v)
  | [], _, _, _, _, h, _ => by cases h; exact .nil
  | d :: ds, _, _, _, 0, h, k => by
    cases h with
    | cons a b => exact .cons k b
  | d :: ds, _, _, _, n + 1, h, k => by
    cases h with
    | cons a b => exact .cons a (Dats.set n b k)
theorem Dats.rev {ds : List D} {vs : List V} (h : Dats K c F ds vs) : Dats K c F ds.reverse vs.reverse := by
  induction ds generalizing vs with
  | nil => cases h; exact .nil
  | cons d ds ih =>
    cases h with
    | cons a b =>
      rw [List.reverse_cons, List.reverse_cons]
      exact (ih b).append (.cons a .nil)
theorem Dats.ints {ns : List Int} {vs : List V} (h : Dats K c F (ns.map D.int) vs) : vs = ns.map V.int := by
  induction ns generalizing vs with
  | nil => cases h; rfl
  | cons n ns ih =>
    cases h with
    | cons a b =>
      cases a
      rw [ih b] <;> rfl
theorem Dats.ofInts (ns : List Int) : Dats K c F (ns.map D.int) (ns.map V.int) := by
  induction ns with
  | nil => exact .nil
  | cons n ns ih => exact .cons (.int n) ih
theorem Dats.bools {bs : List Bool} {vs : List V} (h : Dats K c F (bs.map D.bl) vs) : vs = bs.map V.bl := by
  induction bs generalizing vs with
  | nil => cases h; rfl
  | cons n ns ih =>
    cases h with
    | cons a b =>
      cases a
      rw [ih b] <;> rfl
theorem Dats.nil_iff {vs : List V} (h : Dats K c F [] vs) : vs = [] := by cases h; rfl
theorem Dat.int_iff {i : Int} {v : V} (h : Dat K c F (.int i) v) : v = .int i := by cases h; rfl
theorem Dat.bl_iff {i : Bool} {v : V} (h : Dat K c F (.bl i) v) : v = .bl i := by cases h; rfl
theorem Dat.str_iff {i : Str} {v : V} (h : Dat K c F (.str i) v) : v = .str i := by cases h; rfl
theorem Dat.non_iff {v : V} (h : Dat K c F .non v) : v = .non := by cases h; rfl
theorem Dat.tup_iff {ds : List D} {v : V} (h : Dat K c F (.tup ds) v) : ∃ a xs, v = .ref a ∧ SqT K F a xs ∧ Dats K c F ds xs := by
  cases h with
  | tup q r => exact ⟨_, _, rfl, q, r⟩
theorem Dat.lst_iff {ds : List D} {v : V} (h : Dat K c F (.lst ds) v) : ∃ a xs, v = .ref a ∧ F a = some (.lst xs) ∧ Dats K c F ds xs := by
  cases h with
  | lst q r => exact ⟨_, _, rfl, q, r⟩
end


/-- what a call has met: the written part, the tables of code objects, where the shared list lies, the heap and its frozen part -/
structure En where
  K : PySem.W.Frag
  T : List (Addr × Str)
  ca : Option Addr
  H0 : Hp
  F0 : Hp
  C : Addr
abbrev noTbl (o : HO) : Prop := ∀ ps, o ≠ .tbl ps
/-- nothing but perhaps a table stood at p -/
def Fr0 (H : Hp) (p : Addr) : Prop := ∀ o, H p = some o → ¬ noTbl o
structure Glob (G : En) (c : List Int) (H F : Hp) : Prop where
  sub : ∀ a o, F a = some o → H a = some o ∧ noTbl o
  cell : ∀ a, G.ca = some a → H a = some (.lst (c.map V.int)) ∧ F a = none
  tabs : LamX.Tabs G.T H
  keep : ∀ a o, G.H0 a = some o → noTbl o → G.ca ≠ some a → H a = some o
  f0 : Evl.Ex G.F0 F
  fnew : ∀ a, F a ≠ none → G.F0 a = none → Fr0 G.H0 a
theorem Glob.ex {G : En} {c : List Int} {H F : Hp} (g : Glob G c H F) : Evl.Ex F H := fun a o h => (g.sub a o h).1
/-- from one state of an expression to a later one -/
structure Stp (G : En) (H F H' F' : Hp) : Prop where
  keep : ∀ a o, H a = some o → noTbl o → G.ca ≠ some a → H' a = some o
  f : Evl.Ex F F'
theorem Stp.refl {G : En} {H F : Hp} : Stp G H F H F := ⟨fun _ _ h _ _ => h, Evl.Ex.refl F⟩
theorem Stp.trans {G : En} {H F H1 F1 H2 F2 : Hp} (a : Stp G H F H1 F1) (b : Stp G H1 F1 H2 F2) : Stp G H F H2 F2 :=
  ⟨fun x o h n k => b.keep x o (a.keep x o h n k) n k, a.f.trans b.f⟩


inductive Sl where
  | un | d (x : D) | own (xs : List D) | dk (ks : List (List Int)) | tp (xs : List D)
  deriving Inhabited
def Sl.isOwn : Sl → Prop
  | .own _ => True
  | .dk _ => True
  | _ => False
structure DS where
  env : List Sl
  cel : List Int
def Own (G : En) (F : Hp) (p : Addr) : Prop := F p = none ∧ Fr0 G.H0 p ∧ G.ca ≠ some p
def dkO (ks : List (List Int)) : HO := .dT (ks.map fun k => (k.map Sum.inl, V.bl true))
def SlOk (G : En) (H F : Hp) : Sl → Option (Option V) → Prop
  | .un, _ => True
  | .d x, o => ∃ v, o = some (some v) ∧ Dat G.K G.ca F x v
  | .own xs, o => ∃ p vs, o = some (some (.ref p)) ∧ Own G F p ∧ H p = some (.lst vs) ∧ Dats G.K G.ca F xs vs
  | .dk ks, o => ∃ p, o = some (some (.ref p)) ∧ Own G F p ∧ H p = some (dkO ks)
  | .tp xs, o => ∃ p vs, o = some (some (.ref p)) ∧ F p = some (.tup vs) ∧ Dats G.K G.ca F xs vs
/-- no slot owns p -/
def Free (st : DS) (σ : L2.St) (p : Addr) : Prop := ∀ (i : Nat) (s : Sl), st.env[i]? = some s → s.isOwn → σ[i]? ≠ some (some (.ref p))
/-- the state: st says what the slots hold; P: lists of a comprehension under way, which nobody else knows -/
structure Rel (G : En) (P : Addr → Prop) (st : DS) (σ : L2.St) (H F : Hp) : Prop where
  g : Glob G st.cel H F
  len : st.env.length = σ.length
  slot : ∀ (i : Nat) (s : Sl), st.env[i]? = some s → SlOk G H F s σ[i]?
  dist : ∀ (i j : Nat) (s t : Sl) (p : Addr), st.env[i]? = some s → st.env[j]? = some t → s.isOwn → t.isOwn → σ[i]? = some (some (.ref p)) → σ[j]? = some (some (.ref p)) → i = j
  prot : ∀ p, P p → F p = none ∧ Free st σ p ∧ G.ca ≠ some p ∧ ∃ o, H p = some o ∧ noTbl o


inductive Vl where
  | d (x : D) | own (xs : List D) | tp (xs : List D)
def Vl.dat : Vl → D
  | .d x => x
  | .own xs => .lst xs
  | .tp xs => .tup xs
def VOk (G : En) (P : Addr → Prop) (st : DS) (σ : L2.St) (H F : Hp) : Vl → V → Prop
  | .d x, v => Dat G.K G.ca F x v
  | .own xs, v => ∃ p vs, v = .ref p ∧ Own G F p ∧ H p = some (.lst vs) ∧ Dats G.K G.ca F xs vs ∧ Free st σ p ∧ ¬ P p
  | .tp xs, v => ∃ p vs, v = .ref p ∧ F p = some (.tup vs) ∧ Dats G.K G.ca F xs vs


abbrev WV := DS → (Vl → DS → Prop) → Prop
abbrev WD := DS → (D → DS → Prop) → Prop
def tE (G : En) (w : WV) : TE := fun σ H Q => ∃ P st F Qd, Rel G P st σ H F ∧ w st Qd ∧
  ∀ r st' v H' F', Qd r st' → Rel G P st' σ H' F' → VOk G P st' σ H' F' r v → Stp G H F H' F' → Q v H'
def tD (G : En) (w : WD) : TE := fun σ H Q => ∃ P st F Qd, Rel G P st σ H F ∧ w st Qd ∧
  ∀ r st' v H' F', Qd r st' → Rel G P st' σ H' F' → Dat G.K G.ca F' r v → Stp G H F H' F' → Q v H'
def tT (G : En) (w : DS → (Bool → DS → Prop) → Prop) : TT := fun σ H Q => ∃ P st F Qd, Rel G P st σ H F ∧ w st Qd ∧
  ∀ b st' H' F', Qd b st' → Rel G P st' σ H' F' → Stp G H F H' F' → Q b H'
def tA (G : En) (n : Nat) (w : DS → (List D → DS → Prop) → Prop) : TA := fun σ H Q => ∃ P st F Qd, Rel G P st σ H F ∧ w st Qd ∧
  ∀ ds st' vs H' F', Qd ds st' → ds.length = n → Rel G P st' σ H' F' → Dats G.K G.ca F' ds vs → Stp G H F H' F' → Q vs H'

section
variable {G : En} {st st' : DS} {P : Addr → Prop} {σ : L2.St} {H H' F F' : Hp} {p : Addr}
theorem Glob.upF {c : List Int} {o : HO} (g : Glob G c H F) (hp : H p = some o) (ho : noTbl o) (hn : Fr0 G.H0 p) (hc : G.ca ≠ some p) (hF : F p = none) : Glob G c H (upd F p o) where
  sub := fun a u h => by
    by_cases e : a = p
    · subst e
      rw [upd_same] at h
      cases h
      exact ⟨hp, ho⟩
    · rw [upd_ne e] at h
      exact g.sub a u h
  cell := fun a h => by
    obtain ⟨h1, h2⟩ := g.cell a h
    refine ⟨h1, ?_⟩
    rw [upd_ne (fun e => hc (by rw [← e]; exact h))]
    exact h2
  tabs := g.tabs
  keep := g.keep
  f0 := g.f0.trans (Evl.Ex.new hF)
  fnew := fun a h h0 => by
    by_cases e : a = p
    · subst e
      exact hn
    · rw [upd_ne e] at h
      exact g.fnew a h h0
/-- a new object is laid -/
theorem Glob.new {c : List Int} {o : HO} (g : Glob G c H F) (hp : H p = none) : Glob G c (upd H p o) F where
  sub := fun a u h => by
    obtain ⟨h1, h2⟩ := g.sub a u h
    exact ⟨by rw [upd_ne (ne_of_none h1 hp)]; exact h1, h2⟩
  cell := fun a h => by
    obtain ⟨h1, h2⟩ := g.cell a h
    exact ⟨by rw [upd_ne (ne_of_none h1 hp)]; exact h1, h2⟩
  tabs := g.tabs.ext fun b u h => by
    rw [upd_ne (ne_of_none h hp)]
    exact h
  keep := fun a u h n k => by
    have q := g.keep a u h n k
    rw [upd_ne (ne_of_none q hp)]
    exact q
  f0 := g.f0
  fnew := g.fnew
theorem Glob.none0 {c : List Int} (g : Glob G c H F) (hp : H p = none) : F p = none := by
  cases e : F p with
  | none => rfl
  | some o =>
    have := (g.sub p o e).1
    rw [hp] at this
    cases this
theorem Glob.ca_ne {c : List Int} (g : Glob G c H F) (hp : H p = none) : G.ca ≠ some p := fun e => by
  have := (g.cell p e).1
  rw [hp] at this
  cases this
theorem Glob.fr0 {c : List Int} (g : Glob G c H F) (hp : H p = none) : Fr0 G.H0 p := fun o h n => by
  have q := g.keep p o h n (g.ca_ne hp)
  rw [hp] at q
  cases q
theorem noT_lst {xs : List V} : noTbl (.lst xs) := fun _ z => by cases z
theorem noT_tup {xs : List V} : noTbl (.tup xs) := fun _ z => by cases z
theorem noT_dk {ks : List (List Int)} : noTbl (dkO ks) := fun _ z => by cases z
theorem SlOk.mono {s : Sl} {o : Option (Option V)} (h : SlOk G H F s o) (hk : ∀ a u, H a = some u → noTbl u → G.ca ≠ some a → H' a = some u) (hf : Evl.Ex F F') (hn : ∀ p, s.isOwn → o = some (some (.ref p)) → F' p = none) : SlOk G H' F' s o := by
  cases s with
  | un => trivial
  | d x =>
    obtain ⟨v, e, q⟩ := h
    exact ⟨v, e, q.mono hf⟩
  | own xs =>
    obtain ⟨p, vs, e, o1, hp, q⟩ := h
    exact ⟨p, vs, e, ⟨hn p trivial e, o1.2⟩, hk _ _ hp (fun _ z => by cases z) o1.2.2, q.mono hf⟩
  | dk ks =>
    obtain ⟨p, e, o1, hp⟩ := h
    exact ⟨p, e, ⟨hn p trivial e, o1.2⟩, hk _ _ hp (fun _ z => by cases z) o1.2.2⟩
  | tp xs =>
    obtain ⟨p, vs, e, hp, q⟩ := h
    exact ⟨p, vs, e, hf _ _ hp, q.mono hf⟩
/-- the address of a slot that owns -/
theorem SlOk.addr {s : Sl} {o : Option (Option V)} (h : SlOk G H F s o) (hs : s.isOwn) : ∃ p u, o = some (some (.ref p)) ∧ Own G F p ∧ H p = some u ∧ noTbl u := by
  cases s with
  | un => exact hs.elim
  | d x => exact hs.elim
  | own xs =>
    obtain ⟨p, vs, e, o1, hp, q⟩ := h
    exact ⟨p, _, e, o1, hp, noT_lst⟩
  | dk ks =>
    obtain ⟨p, e, o1, hp⟩ := h
    exact ⟨p, _, e, o1, hp, noT_dk⟩
  | tp xs => exact hs.elim
/-- the frozen part has grown by p, which no slot owns -/
theorem Rel.upF {o : HO} (R : Rel G P st σ H F) (hp : H p = some o) (ho : noTbl o) (w : Own G F p) (fr : Free st σ p) (np : ¬ P p) : Rel G P st σ H (upd F p o) where
  g := R.g.upF hp ho w.2.1 w.2.2 w.1
  len := R.len
  slot := fun i s h => (R.slot i s h).mono (fun _ _ h _ _ => h) (Evl.Ex.new w.1) fun q hs e => by
    obtain ⟨q', u, e', w', _⟩ := (R.slot i s h).addr hs
    rw [e] at e'
    cases e'
    rw [upd_ne (fun z => fr i s h hs (by rw [e, z]))]
    exact w'.1
  dist := R.dist
  prot := fun q hq => by
    obtain ⟨h1, h2, h3, h4⟩ := R.prot q hq
    exact ⟨by rw [upd_ne (fun z => np (by rw [← z]; exact hq))]; exact h1, h2, h3, h4⟩
/-- a new object, not frozen -/
theorem Rel.new {o : HO} (R : Rel G P st σ H F) (hp : H p = none) : Rel G P st σ (upd H p o) F where
  g := R.g.new hp
  len := R.len
  slot := fun i s h => (R.slot i s h).mono (fun a u q _ _ => by rw [upd_ne (ne_of_none q hp)]; exact q) (Evl.Ex.refl F) fun q hs e => by
    obtain ⟨q', u, e', w', _⟩ := (R.slot i s h).addr hs
    rw [e] at e'
    cases e'
    exact w'.1
  dist := R.dist
  prot := fun q hq => by
    obtain ⟨h1, h2, h3, o, h4, h5⟩ := R.prot q hq
    exact ⟨h1, h2, h3, o, by rw [upd_ne (ne_of_none h4 hp)]; exact h4, h5⟩
theorem Rel.np (R : Rel G P st σ H F) (hp : H p = none) : ¬ P p := fun q => by
  obtain ⟨_, _, _, o, h4, _⟩ := R.prot p q
  rw [hp] at h4
  cases h4
theorem Rel.free (R : Rel G P st σ H F) (hp : H p = none) : Free st σ p := fun i s h hs e => by
  obtain ⟨q, u, e', _, hq, _⟩ := (R.slot i s h).addr hs
  rw [e] at e'
  cases e'
  rw [hp] at hq
  cases hq
theorem Rel.own (R : Rel G P st σ H F) (hp : H p = none) : Own G F p := ⟨R.g.none0 hp, R.g.fr0 hp, R.g.ca_ne hp⟩
theorem Rel.newF {o : HO} (R : Rel G P st σ H F) (hp : H p = none) (ho : noTbl o) : Rel G P st σ (upd H p o) (upd F p o) :=
  (R.new hp).upF upd_same ho (R.own hp) (R.free hp) (R.np hp)
theorem Stp.new {o : HO} (hp : H p = none) : Stp G H F (upd H p o) F := ⟨fun a u h _ _ => by rw [upd_ne (ne_of_none h hp)]; exact h, Evl.Ex.refl F⟩
theorem Stp.newF {o : HO} (hp : H p = none) (hF : F p = none) : Stp G H F (upd H p o) (upd F p o) := ⟨fun a u h _ _ => by rw [upd_ne (ne_of_none h hp)]; exact h, Evl.Ex.new hF⟩
/-- a value is frozen -/
theorem VOk.freeze {r : Vl} {v : V} (R : Rel G P st σ H F) (h : VOk G P st σ H F r v) : ∃ F', Rel G P st σ H F' ∧ Dat G.K G.ca F' r.dat v ∧ Evl.Ex F F' := by
  cases r with
  | d x => exact ⟨F, R, h, Evl.Ex.refl F⟩
  | own xs =>
    obtain ⟨p, vs, rfl, w, hp, q, fr, np⟩ := h
    refine ⟨upd F p (.lst vs), R.upF hp noT_lst w fr np, ?_, Evl.Ex.new w.1⟩
    exact .lst upd_same (q.mono (Evl.Ex.new w.1))
  | tp xs =>
    obtain ⟨p, vs, rfl, hp, q⟩ := h
    exact ⟨F, R, .tup (Evl.st_of hp) q, Evl.Ex.refl F⟩
end

section
variable {X : Cx} {G : En} {e : Expr}
theorem pe_imp {t u : TE} (h : PE X e t) (k : ∀ σ H Q, u σ H Q → t σ H Q) : PE X e u := ⟨fun pins s σ H Q I q => h.run pins s σ H Q I (k σ H Q q)⟩
theorem pt_imp {t u : TT} (h : PT X e t) (k : ∀ σ H Q, u σ H Q → t σ H Q) : PT X e u := ⟨fun pins s σ H Q I q => h.run pins s σ H Q I (k σ H Q q)⟩
theorem pw_imp {t u : TT} (h : PW X e t) (k : ∀ σ H Q, u σ H Q → t σ H Q) : PW X e u := ⟨fun wh pins s σ H Q I q => h.run wh pins s σ H Q I (k σ H Q q)⟩
theorem pa_imp {es : List Expr} {t u : TA} (h : PA X es t) (k : ∀ σ H Q, u σ H Q → t σ H Q) : PA X es u := ⟨fun pos pins s σ H Q I q => h.run pos pins s σ H Q I (k σ H Q q)⟩
theorem ps_imp {st : Stmt} {t u : TS} (h : PS X st t) (k : ∀ D σ H, u D σ H → t D σ H) : PS X st u := ⟨fun pins s σ H D I q => h.run pins s σ H D I (k D σ H q)⟩
theorem pss_imp {st : List Stmt} {t u : TS} (h : PSs X st t) (k : ∀ D σ H, u D σ H → t D σ H) : PSs X st u := ⟨fun pins s σ H D I q => h.run pins s σ H D I (k D σ H q)⟩
/-- a reading by values, then by data -/
def toD (w : WV) : WD := fun st Q => w st fun r st' => Q r.dat st'
def toB (w : WV) : DS → (Bool → DS → Prop) → Prop := fun st Q => w st fun r st' => ∃ b, r.dat = .bl b ∧ Q b st'
theorem pe_D {w : WV} (h : PE X e (tE G w)) : PE X e (tD G (toD w)) := pe_imp h fun σ H Q ⟨P, st, F, Qd, R, hw, k⟩ =>
  ⟨P, st, F, fun r st' => Qd r.dat st', R, hw, fun r st' v H' F' q R' o s => by
    obtain ⟨F2, R2, d, ex⟩ := o.freeze R'
    exact k _ st' v H' F2 q R2 d ⟨s.keep, s.f.trans ex⟩⟩
/-- data out -/
theorem tE_out {w : WV} {σ : L2.St} {H : Hp} {Q : VK} (h : tE G w σ H Q) : tE G w σ H Q := h
end
end DL
end
section
namespace DL
open PySem PySem.Spec PyProof.Rows L2

inductive Bi where
  | len | abs | int | max | min | sum | list | tuple | sorted
  deriving DecidableEq
/-- where an item goes -/
inductive Tg where
  | one (i : Nat) | two (i j : Nat) | three (i j k : Nat)
mutual
inductive E where
  | v (i : Nat) | k (d : D)
  | bin (o : Operator) (a b : E) | neg (a : E) | no (a : E)
  | cmp (o : CmpOp) (a b : E) | chn (o o' : CmpOp) (a b c : E) | isN (a : E) | ntN (a : E)
  | and (a b : E) | or (a b : E) | orT (a b : E) | ite (c a b : E)
  | call (f : Str) (as : Es) | callk (f : Str) (as ks : Es) | bi (f : Bi) (as : Es) | isi (T : Str) (a : E)
  | lenv (i : Nat) | ixv (i : Nat) (a : E)
  | ix (a i : E) | sl (a : E) (lo hi : Eo) | rev (a : E)
  | tup (as : Es) | lst (as : Es)
  | comp (t : Tg) (s : Src) (c : Eo) (e : E)
  | allg (i : Nat) (s : Src) (e : E)
  | refused (f : Str) (as : Es)
  | index (a b : E) | lrng (s : Src) | sset (a : E)
  | tpl (as : Es) | vtp (i : Nat) | calll (f : Str) (as : Es) (i : Nat) | callc (f g : Str) (as : Es)
inductive Es where
  | nil | cons (e : E) (es : Es)
inductive Eo where
  | no | yes (e : E)
inductive Src where
  | it (e : E) | r1 (a : E) | r2 (a b : E) | r3 (a b c : E) | zip (a b : E)
end
mutual
inductive S where
  | asg (i : Nat) (e : E) | par (is : List Nat) (es : Es) | unp (t : Tg) (e : E)
  | setv (i : Nat) (a e : E) | swp (i : Nat) (a b c d : E) | aug (i : Nat) (o : Operator) (e : E)
  | app (i : Nat) (e : E) | ext (i : Nat) (e : E) | ex (f : Str) (as : Es)
  | ret (e : E) | iff (c : E) (a b : Ss) | whl (c : E) (b : Ss) | fr (t : Tg) (s : Src) (b : Ss)
  | brk | rais (e : E) | newd (i : Nat) | dput (i : Nat) (a e : E) | skip
inductive Ss where
  | nil | cons (s : S) (r : Ss)
end


def DS.set (st : DS) (i : Nat) (s : Sl) : DS := { st with env := st.env.set i s }
def Vl.sl : Vl → Sl
  | .d x => .d x
  | .own xs => .own xs
  | .tp xs => .tp xs
def Sl.isSet : Sl → Prop
  | .un => False
  | _ => True
/-- a slot read; a list that it owned is frozen -/
def getV (i : Nat) : WD := fun st Q => match st.env[i]? with
  | some (.d x) => Q x st
  | some (.own xs) => Q (.lst xs) (st.set i (.d (.lst xs)))
  | some (.tp xs) => Q (.tup xs) st
  | _ => False
/-- what a slot of a comprehension's is behind it -/
def gone : Option Sl → Sl
  | some (.d x) => .d x
  | _ => .un
def putT : Tg → D → DS → Option DS
  | .one i, x, st => some (st.set i (.d x))
  | .two i j, .tup [x, y], st => some ((st.set i (.d x)).set j (.d y))
  | .three i j k, .tup [x, y, z], st => some (((st.set i (.d x)).set j (.d y)).set k (.d z))
  | _, _, _ => none
def Tg.slots : Tg → List Nat
  | .one i => [i]
  | .two i j => [i, j]
  | .three i j k => [i, j, k]


def small (n : Nat) : Prop := n ≤ 100000
def binD : Operator → D → D → (Vl → Prop) → Prop
  | .Add, .int i, .int j, Q => Q (.d (.int (i + j)))
  | .Sub, .int i, .int j, Q => Q (.d (.int (i - j)))
  | .Mult, .int i, .int j, Q => (CMul i j ∨ CMulW i j) ∧ Q (.d (.int (i * j)))
  | .FloorDiv, .int i, .int j, Q => CDivW i j ∧ Q (.d (.int (i / j)))
  | .Mod, .int i, .int j, Q => 0 < j ∧ Q (.d (.int (i % j)))
  | .Pow, .int i, .int j, Q => CPow i j ∧ Q (.d (.int (i ^ j.toNat)))
  | .Add, .tup xs, .tup ys, Q => xs.length + ys.length ≤ 100000 ∧ Q (.d (.tup (xs ++ ys)))
  | .Add, .lst xs, .lst ys, Q => xs.length + ys.length ≤ 100000 ∧ Q (.own (xs ++ ys))
  | .Mult, .tup xs, .int j, Q => xs ≠ [] ∧ 2 ≤ j ∧ j ≤ 1000 ∧ xs.length ≤ 1000 ∧ Q (.d (.tup (List.replicate j.toNat xs).flatten))
  | .Mult, .lst xs, .int j, Q => 0 ≤ j ∧ j ≤ 1000 ∧ xs.length ≤ 1000 ∧ Q (.own (List.replicate j.toNat xs).flatten)
  | _, _, _, _ => False
mutual
def D.py : D → PyData
  | .non => .none
  | .bl b => .bool b
  | .int i => .int i
  | .str s => .str s
  | .tup xs => .tuple (D.pys xs)
  | .lst xs => .list (D.pys xs)
  | .scr _ => .none
  | .cell => .none
def D.pys : List D → List PyData
  | [] => []
  | x :: xs => x.py :: D.pys xs
end
mutual
/-- no shared list within -/
def D.plain : D → Bool
  | .cell => false
  | .scr _ => false
  | .tup xs => D.plains xs
  | .lst xs => D.plains xs
  | _ => true
def D.plains : List D → Bool
  | [] => true
  | x :: xs => x.plain && D.plains xs
end
def D.flat : D → Bool
  | .non => true
  | .bl _ => true
  | .int _ => true
  | .str _ => true
  | _ => false
/-- equality as Python says it -/
def D.eqv (x y : D) : Bool := PyData.eqv x.py y.py
def D.shp (x : D) : Bool := x.plain && SeqAt.shaped x.py
def inD (x : D) (xs : List D) : Bool := xs.any fun y => D.eqv y x
def cmpD : CmpOp → D → D → (Bool → Prop) → Prop
  | .Lt, .int i, .int j, Q => Q (decide (i < j))
  | .LtE, .int i, .int j, Q => Q (decide (i ≤ j))
  | .Gt, .int i, .int j, Q => Q (decide (j < i))
  | .GtE, .int i, .int j, Q => Q (decide (j ≤ i))
  | .Eq, .int i, .int j, Q => Q (decide (i = j))
  | .NotEq, .int i, .int j, Q => Q (!decide (i = j))
  | .Eq, x, y, Q => x.shp = true ∧ y.shp = true ∧ Q (x.eqv y)
  | .NotEq, x, y, Q => x.shp = true ∧ y.shp = true ∧ Q (!x.eqv y)
  | .In, x, .lst ys, Q => x.flat = true ∧ ys.all D.flat = true ∧ Q (inD x ys)
  | .In, x, .tup ys, Q => x.flat = true ∧ ys.all D.flat = true ∧ Q (inD x ys)
  | .NotIn, x, .lst ys, Q => x.flat = true ∧ ys.all D.flat = true ∧ Q (!inD x ys)
  | .NotIn, x, .tup ys, Q => x.flat = true ∧ ys.all D.flat = true ∧ Q (!inD x ys)
  | _, _, _, _ => False
def D.items : D → Option (List D)
  | .tup xs => some xs
  | .lst xs => some xs
  | .scr ns => some (ns.map D.int)
  | _ => none
def D.kind : D → Bool
  | .tup _ => true
  | _ => false
def D.isNon : D → Bool
  | .non => true
  | _ => false
def D.truth : D → Option Bool
  | .non => some false
  | .bl b => some b
  | .int i => some (i != 0)
  | .tup xs => some (!xs.isEmpty)
  | .lst xs => some (!xs.isEmpty)
  | _ => none
def D.isA (T : Str) : D → Bool
  | .bl _ => T = "int" || T = "bool"
  | .int _ => T = "int"
  | .tup _ => T = "tuple"
  | _ => false
def D.ints : List D → Option (List Int)
  | [] => some []
  | .int i :: r => (D.ints r).map (i :: ·)
  | _ :: _ => none
def D.pairs : List D → Option (List (Int × Int))
  | [] => some []
  | .tup [.int i, .int j] :: r => (D.pairs r).map ((i, j) :: ·)
  | _ :: _ => none
def pairD (p : Int × Int) : D := .tup [.int p.1, .int p.2]
def ltP2 (p q : Int × Int) : Prop := p.1 < q.1 ∨ (p.1 = q.1 ∧ p.2 < q.2)
/-- a built-in, its arguments' data -/
def biD : Bi → List D → (Vl → Prop) → Prop
  | .len, ds, Q => ∃ x xs, ds = [x] ∧ x.items = some xs ∧ Q (.d (.int xs.length))
  | .abs, ds, Q => ∃ i, ds = [.int i] ∧ Q (.d (.int (if i < 0 then -i else i)))
  | .int, ds, Q => ∃ i, ds = [.int i] ∧ Q (.d (.int i))
  | .max, ds, Q => (∃ i j, ds = [.int i, .int j] ∧ Q (.d (.int (if j > i then j else i)))) ∨
      ∃ ns : List Int, ds = [.lst (ns.map D.int)] ∧ ∃ m, m ∈ ns ∧ (∀ y ∈ ns, y ≤ m) ∧ Q (.d (.int m))
  | .min, ds, Q => ∃ i j, ds = [.int i, .int j] ∧ Q (.d (.int (if j < i then j else i)))
  | .sum, ds, Q => ∃ ns : List Int, ds = [.lst (ns.map D.int)] ∧ Q (.d (.int ns.sum))
  | .list, ds, Q => ∃ x xs, ds = [x] ∧ x.items = some xs ∧ Q (.own xs)
  | .tuple, ds, Q => ∃ x xs, ds = [x] ∧ x.items = some xs ∧ Q (.d (.tup xs))
  | .sorted, ds, Q => ∃ ps : List (Int × Int), ds = [.lst (ps.map pairD)] ∧ ps.length ≤ 100000 ∧ ∀ qs : List (Int × Int), qs.Perm ps → qs.Pairwise (fun p q => ¬ ltP2 q p) → Q (.own (qs.map pairD))
def idxD (xs : List D) (i : Int) : Option D := atI xs i
def cutD (xs : List D) (lo hi : Option Int) : List D := (xs.drop (HT.sIx xs.length 0 lo)).take (HT.sIx xs.length xs.length hi - HT.sIx xs.length 0 lo)
def rngD (lo : Int) (c : Int) (n : Nat) : List D := (List.range n).map fun (i : Nat) => D.int (lo + (i : Int) * c)
def rngOk (i j : Int) : Prop := -(2 ^ 62) ≤ i ∧ i < 2 ^ 62 ∧ -(2 ^ 62) ≤ j ∧ j < 2 ^ 62


/-- what a def promises: arguments, the shared list ahead; the value and the shared list behind; the name of an argument refused -/
abbrev Spec := List D → List Int → (Vl → List Int → Prop) → (Str → List Int → Prop) → Prop
abbrev Tab := Str → Spec

/-- the slots of a comprehension: hidden ahead, gone behind -/
def hide (is : List Nat) (st : DS) : DS := { st with env := is.foldl (fun e i => e.set i .un) st.env }
def back (is : List Nat) (old : DS) (st : DS) : DS := { st with env := is.foldl (fun e i => e.set i (gone old.env[i]?)) st.env }

/-- over the items of a source: state, what follows -/
def wComp (t : Tg) (wc : DS → (Bool → DS → Prop) → Prop) (we : WD) : List D → List D → DS → (List D → DS → Prop) → Prop
  | [], acc, st, Q => Q acc st
  | x :: xs, acc, st, Q => ∃ st1, putT t x (hide t.slots st) = some st1 ∧ wc st1 fun b st2 =>
      if b = true then we st2 fun y st3 => acc.length < 100000 ∧ wComp t wc we xs (acc ++ [y]) st3 Q else wComp t wc we xs acc st2 Q
def wAll (i : Nat) (we : WD) : List D → DS → (Bool → DS → Prop) → Prop
  | [], st, Q => Q true st
  | x :: xs, st, Q => we ((hide [i] st).set i (.d x)) fun y st1 => ∃ b, y = .bl b ∧ if b = true then wAll i we xs st1 Q else Q false st1
mutual
def wpE (Sg : Tab) : E → DS → (Vl → DS → Prop) → Prop
  | .v i, st, Q => getV i st fun x st' => Q (.d x) st'
  | .k d, st, Q => Q (.d d) st
  | .bin o a b, st, Q => wpE Sg a st fun x st1 => wpE Sg b st1 fun y st2 => binD o x.dat y.dat fun z => Q z st2
  | .neg a, st, Q => wpE Sg a st fun x st1 => ∃ i, x.dat = .int i ∧ Q (.d (.int (-i))) st1
  | .no a, st, Q => wpE Sg a st fun x st1 => ∃ b, x.dat = .bl b ∧ Q (.d (.bl (!b))) st1
  | .cmp o a b, st, Q => wpE Sg a st fun x st1 => wpE Sg b st1 fun y st2 => cmpD o x.dat y.dat fun c => Q (.d (.bl c)) st2
  | .chn o o' a b c, st, Q => wpE Sg a st fun x st1 => wpE Sg b st1 fun y st2 => cmpD o x.dat y.dat fun r =>
      if r = true then wpE Sg c st2 fun z st3 => cmpD o' y.dat z.dat fun r' => Q (.d (.bl r')) st3 else Q (.d (.bl false)) st2
  | .isN a, st, Q => wpE Sg a st fun x st1 => Q (.d (.bl x.dat.isNon)) st1
  | .ntN a, st, Q => wpE Sg a st fun x st1 => Q (.d (.bl (!x.dat.isNon))) st1
  | .and a b, st, Q => wpE Sg a st fun x st1 => ∃ c, x.dat = .bl c ∧ if c = true then wpE Sg b st1 fun y st2 => Q (.d y.dat) st2 else Q (.d (.bl false)) st1
  | .or a b, st, Q => wpE Sg a st fun x st1 => ∃ c, x.dat = .bl c ∧ if c = true then Q (.d (.bl true)) st1 else wpE Sg b st1 fun y st2 => Q (.d y.dat) st2
  | .orT a b, st, Q => wpE Sg a st fun x st1 => ∃ c, x.dat.truth = some c ∧ if c = true then Q (.d x.dat) st1 else wpE Sg b st1 fun y st2 => Q (.d y.dat) st2
  | .ite c a b, st, Q => wpE Sg c st fun x st1 => ∃ r, x.dat = .bl r ∧ if r = true then wpE Sg a st1 fun y st2 => Q (.d y.dat) st2 else wpE Sg b st1 fun y st2 => Q (.d y.dat) st2
  | .call f as, st, Q => wpEs Sg as st fun ds st1 => Sg f ds st1.cel (fun r c => Q r { st1 with cel := c }) fun _ _ => False
  | .callk f as ks, st, Q => wpEs Sg as st fun ds st1 => wpEs Sg ks st1 fun es st2 => Sg f (ds ++ es) st2.cel (fun r c => Q r { st2 with cel := c }) fun _ _ => False
  | .bi f as, st, Q => wpEs Sg as st fun ds st1 => biD f ds fun r => Q r st1
  | .isi T a, st, Q => wpE Sg a st fun x st1 => x.dat.plain = true ∧ Q (.d (.bl (x.dat.isA T))) st1
  | .lenv i, st, Q => match st.env[i]? with
    | some (.d x) => ∃ xs, x.items = some xs ∧ Q (.d (.int xs.length)) st
    | some (.own xs) => Q (.d (.int xs.length)) st
    | some (.dk ks) => Q (.d (.int ks.length)) st
    | _ => False
  | .ixv i a, st, Q => (∃ s, st.env[i]? = some s ∧ s.isSet) ∧ wpE Sg a st fun x st1 => ∃ j, x.dat = .int j ∧ match st1.env[i]? with
    | some (.d .cell) => ∃ z, atI st1.cel j = some z ∧ Q (.d (.int z)) st1
    | some (.d y) => ∃ xs z, y.items = some xs ∧ atI xs j = some z ∧ Q (.d z) st1
    | some (.own xs) => ∃ z, atI xs j = some z ∧ Q (.d z) st1
    | some (.tp xs) => ∃ z, atI xs j = some z ∧ Q (.d z) st1
    | _ => False
  | .ix a b, st, Q => wpE Sg a st fun x st1 => wpE Sg b st1 fun y st2 => ∃ xs j z, x.dat.items = some xs ∧ y.dat = .int j ∧ atI xs j = some z ∧ Q (.d z) st2
  | .sl a lo hi, st, Q => wpE Sg a st fun x st1 => wpO Sg lo st1 fun l st2 => wpO Sg hi st2 fun h st3 => match x.dat with
    | .tup xs => Q (.d (.tup (cutD xs l h))) st3
    | .lst xs => Q (.own (cutD xs l h)) st3
    | .scr ns => Q (.own (cutD (ns.map D.int) l h)) st3
    | _ => False
  | .rev a, st, Q => wpE Sg a st fun x st1 => match x.dat with
    | .tup xs => Q (.d (.tup xs.reverse)) st1
    | .lst xs => Q (.own xs.reverse) st1
    | _ => False
  | .tup as, st, Q => wpEs Sg as st fun ds st1 => Q (.d (.tup ds)) st1
  | .tpl as, st, Q => wpEs Sg as st fun ds st1 => Q (.tp ds) st1
  | .vtp i, st, Q => match st.env[i]? with
    | some (.tp xs) => Q (.tp xs) st
    | _ => False
  | .calll f as i, st, Q => wpEs Sg as st fun ds st1 => ∃ xs, st1.env[i]? = some (.own xs) ∧ (∀ x, xs.head? = some x → ∃ a b c, x = .tup [a, b, c]) ∧
      Sg f (ds ++ [.lst xs]) st1.cel (fun r c => (∃ a b : List (Int × Int), r.dat = .tup [.lst (a.map pairD), .lst (b.map pairD)] ∧ a ≠ [] ∧ b ≠ []) ∧ Q r { st1 with cel := c }) fun _ _ => False
  | .callc f g as, st, Q => wpEs Sg as st fun ds st1 => Sg g ds st1.cel (fun r c => ∃ ns : List Int, r = .own (ns.map D.int) ∧
      Sg f [.cell] ns (fun r' _ => ∃ b, r' = .d (.bl b) ∧ Q (.d (.bl b)) { st1 with cel := c }) fun _ _ => False) fun _ _ => False
  | .lst as, st, Q => wpEs Sg as st fun ds st1 => Q (.own ds) st1
  | .comp t s c e, st, Q => wpI Sg s st fun xs st1 => wComp t (fun st Q => wpC Sg c st Q) (fun st Q => wpE Sg e st fun r st' => Q r.dat st') xs [] st1 fun acc st2 => Q (.own acc) (back t.slots st1 st2)
  | .allg i s e, st, Q => wpI Sg s st fun xs st1 => wAll i (fun st Q => wpE Sg e st fun r st' => Q r.dat st') xs st1 fun b st2 => Q (.d (.bl b)) (back [i] st1 st2)
  | .refused f as, st, Q => wpEs Sg as st fun ds st1 => Sg f ds st1.cel (fun _ c => Q (.d (.str "")) { st1 with cel := c }) fun n c => Q (.d (.str n)) { st1 with cel := c }
  | .index a b, st, Q => wpE Sg a st fun x st1 => (∃ xs, x.dat = .lst xs) ∧ wpE Sg b st1 fun y st2 => ∃ (bs : List Bool) (b : Bool) (j : Nat), x.dat = .lst (bs.map D.bl) ∧ y.dat = .bl b ∧ bs[j]? = some b ∧ (∀ m, m < j → bs[m]? ≠ some b) ∧ Q (.d (.int (j : Nat))) st2
  | .lrng s, st, Q => wpI Sg s st fun xs st1 => xs.length ≤ 100000 ∧ Q (.own xs) st1
  | .sset a, st, Q => wpE Sg a st fun x st1 => ∃ xs ns, x.dat.items = some xs ∧ D.ints xs = some ns ∧ ns.length < 64 ∧ ∀ out : List Int, out.Pairwise (· < ·) → (∀ k, k ∈ out ↔ k ∈ ns) → Q (.own (out.map D.int)) st1
def wpEs (Sg : Tab) : Es → DS → (List D → DS → Prop) → Prop
  | .nil, st, Q => Q [] st
  | .cons e es, st, Q => wpE Sg e st fun x st1 => wpEs Sg es st1 fun xs st2 => Q (x.dat :: xs) st2
def wpVs (Sg : Tab) : Es → DS → (List Vl → DS → Prop) → Prop
  | .nil, st, Q => Q [] st
  | .cons e es, st, Q => wpE Sg e st fun x st1 => wpVs Sg es st1 fun xs st2 => Q (x :: xs) st2
def wpO (Sg : Tab) : Eo → DS → (Option Int → DS → Prop) → Prop
  | .no, st, Q => Q none st
  | .yes e, st, Q => wpE Sg e st fun x st1 => ∃ i, x.dat = .int i ∧ Q (some i) st1
def wpC (Sg : Tab) : Eo → DS → (Bool → DS → Prop) → Prop
  | .no, st, Q => Q true st
  | .yes e, st, Q => wpE Sg e st fun x st1 => ∃ b, x.dat = .bl b ∧ Q b st1
def wpI (Sg : Tab) : Src → DS → (List D → DS → Prop) → Prop
  | .it e, st, Q => wpE Sg e st fun x st1 => ∃ xs, x.dat.items = some xs ∧ Q xs st1
  | .r1 a, st, Q => wpE Sg a st fun x st1 => ∃ j, x.dat = .int j ∧ rngOk 0 j ∧ Q (rngD 0 1 j.toNat) st1
  | .r2 a b, st, Q => wpE Sg a st fun x st1 => wpE Sg b st1 fun y st2 => ∃ i j, x.dat = .int i ∧ y.dat = .int j ∧ rngOk i j ∧ Q (rngD i 1 (j - i).toNat) st2
  | .r3 a b c, st, Q => wpE Sg a st fun x st1 => wpE Sg b st1 fun y st2 => wpE Sg c st2 fun z st3 => ∃ i j c n, [x.dat, y.dat, z.dat] = [.int i, .int j, .int c] ∧ RgC i j c n ∧ Q (rngD i c n) st3
  | .zip a b, st, Q => wpE Sg a st fun x st1 => wpE Sg b st1 fun y st2 => ∃ p q xs ys, [x.dat, y.dat] = [p, q] ∧ p.items = some xs ∧ q.items = some ys ∧ p.kind = q.kind ∧ Q (List.zipWith (fun a b => D.tup [a, b]) xs ys) st2
end


structure Nd where
  nx : DS → Prop
  rt : Vl → DS → Prop
  bk : DS → Prop := fun _ => False
  rs : Str → DS → Prop := fun _ _ => False
def wFor (t : Tg) (wb : Nd → DS → Prop) (N : Nd) : List D → DS → Prop
  | [], st => N.nx st
  | x :: xs, st => ∃ st1, putT t x st = some st1 ∧ wb { N with nx := wFor t wb N xs, bk := N.nx } st1
def setAll : List Nat → List Vl → DS → Option DS
  | [], [], st => some st
  | i :: is, r :: rs, st => setAll is rs (st.set i r.sl)
  | _, _, _ => none
/-- x[j] = y at slot i -/
def putAt (i : Nat) (j : D) (y : D) (st : DS) (Q : DS → Prop) : Prop := match st.env[i]?, j with
  | some (.own xs), .int j => ∃ m, ixN xs.length j = some m ∧ Q (st.set i (.own (xs.set m y)))
  | some (.d .cell), .int j => ∃ m z, ixN st.cel.length j = some m ∧ y = .int z ∧ Q { st with cel := st.cel.set m z }
  | _, _ => False
mutual
def wpS (Sg : Tab) : S → Nd → DS → Prop
  | .asg i e, N, st => wpE Sg e st fun r st1 => N.nx (st1.set i r.sl)
  | .par is es, N, st => wpVs Sg es st fun rs st1 => ∃ st2, setAll is rs st1 = some st2 ∧ N.nx st2
  | .unp t e, N, st => wpE Sg e st fun r st1 => ∃ st2, putT t r.dat st1 = some st2 ∧ N.nx st2
  | .setv i a e, N, st => (∃ s, st.env[i]? = some s ∧ s.isSet) ∧ wpE Sg e st fun y st1 => wpE Sg a st1 fun j st2 => putAt i j.dat y.dat st2 N.nx
  | .swp i a b c d, N, st => (∃ s, st.env[i]? = some s ∧ s.isSet) ∧ wpE Sg c st fun x st1 => wpE Sg d st1 fun y st2 => wpE Sg a st2 fun p st3 => putAt i p.dat x.dat st3 fun st4 => wpE Sg b st4 fun q st5 => putAt i q.dat y.dat st5 N.nx
  | .aug i o e, N, st => (∃ s, st.env[i]? = some s ∧ s.isSet) ∧ wpE Sg e st fun y st1 => ∃ a b, st1.env[i]? = some (.d (.int a)) ∧ y.dat = .int b ∧ match o with
    | .Add => N.nx (st1.set i (.d (.int (a + b))))
    | .Sub => N.nx (st1.set i (.d (.int (a - b))))
    | _ => False
  | .app i e, N, st => (∃ xs, st.env[i]? = some (.own xs)) ∧ wpE Sg e st fun y st1 => match st1.env[i]? with
    | some (.own xs) => xs.length < 100000 ∧ N.nx (st1.set i (.own (xs ++ [y.dat])))
    | _ => False
  | .ext i e, N, st => (∃ xs, st.env[i]? = some (.own xs)) ∧ wpE Sg e st fun y st1 => ∃ ys, y.dat = .lst ys ∧ match st1.env[i]? with
    | some (.own xs) => xs.length + ys.length ≤ 100000 ∧ N.nx (st1.set i (.own (xs ++ ys)))
    | _ => False
  | .ex f as, N, st => wpEs Sg as st fun ds st1 => Sg f ds st1.cel (fun _ c => N.nx { st1 with cel := c }) fun n c => N.rs n { st1 with cel := c }
  | .ret e, N, st => wpE Sg e st N.rt
  | .iff c a b, N, st => wpE Sg c st fun x st1 => ∃ r, x.dat = .bl r ∧ if r = true then wpSs Sg a N st1 else wpSs Sg b N st1
  | .whl c b, N, st => ∃ W : Nat → DS → Prop, (∃ m, W m st) ∧ ∀ m st, W m st → wpE Sg c st fun x st1 => ∃ r, x.dat = .bl r ∧
      if r = true then wpSs Sg b { N with nx := fun st2 => ∃ m', m' < m ∧ W m' st2, bk := N.nx } st1 else N.nx st1
  | .fr t s b, N, st => wpI Sg s st fun xs st1 => wFor t (fun N st => wpSs Sg b N st) N xs st1
  | .brk, N, st => N.bk st
  | .rais e, N, st => wpE Sg e st fun x st1 => ∃ n, x.dat = .str n ∧ n.length ≤ 1000 ∧ N.rs n st1
  | .newd i, N, st => N.nx (st.set i (.dk []))
  | .dput i a e, N, st => (∃ s, st.env[i]? = some s ∧ s.isSet) ∧ wpE Sg e st fun y st1 => wpE Sg a st1 fun k st2 => ∃ ds ns ks, k = .tp ds ∧ D.ints ds = some ns ∧ y.dat = .bl true ∧ st2.env[i]? = some (.dk ks) ∧ ks.length < 100000 ∧ N.nx (st2.set i (.dk (if ns ∈ ks then ks else ks ++ [ns])))
  | .skip, N, st => N.nx st
def wpSs (Sg : Tab) : Ss → Nd → DS → Prop
  | .nil, N, st => N.nx st
  | .cons s r, N, st => wpS Sg s { N with nx := fun st' => wpSs Sg r N st' } st
end
/-- a def's body keeps a promise -/
def Keeps (Sg : Tab) (n : Nat) (b : Ss) (sp : Spec) : Prop := ∀ ds c Q E, sp ds c Q E →
  wpSs Sg b { nx := fun st => Q (.d .non) st.cel, rt := fun r st => Q r st.cel, rs := fun s st => E s st.cel } ⟨ds.map Sl.d ++ List.replicate (n - ds.length) .un, c⟩
end DL
end
section
namespace DL
open PySem PySem.Spec PyProof.Rows L2

section
variable {G : En} {st st' : DS} {P : Addr → Prop} {σ : L2.St} {H H' F F' : Hp} {p : Addr}
theorem set_get {α : Type} {l : List α} {i j : Nat} {a b : α} (h : (l.set i a)[j]? = some b) : (j = i ∧ b = a ∧ i < l.length) ∨ (j ≠ i ∧ l[j]? = some b) := by
  by_cases e : j = i
  · subst e
    by_cases hl : j < l.length
    · rw [List.getElem?_set_self hl] at h
      exact .inl ⟨rfl, (Option.some.inj h).symm, hl⟩
    · rw [List.getElem?_eq_none (by rw [List.length_set]; omega)] at h
      cases h
  · rw [List.getElem?_set_ne (fun z => e z.symm)] at h
    exact .inr ⟨e, h⟩
/-- a slot's word is replaced, the slot stays -/
theorem Rel.word (R : Rel G P st σ H F) (i : Nat) (s : Sl) (hs : i < st.env.length → SlOk G H F s σ[i]?) (hn : ¬ s.isOwn) : Rel G P (st.set i s) σ H F where
  g := R.g
  len := by
    show (st.env.set i s).length = _
    rw [List.length_set]
    exact R.len
  slot := fun j t h => by
    have h' : (st.env.set i s)[j]? = some t := h
    rcases set_get h' with ⟨e1, e2, hl⟩ | ⟨_, e2⟩
    · subst e1
      subst e2
      exact hs hl
    · exact R.slot j t e2
  dist := fun j k t u q h1 h2 o1 o2 e1 e2 => by
    have h1' : (st.env.set i s)[j]? = some t := h1
    have h2' : (st.env.set i s)[k]? = some u := h2
    rcases set_get h1' with ⟨_, e, _⟩ | ⟨_, h1'⟩
    · subst e
      exact (hn o1).elim
    · rcases set_get h2' with ⟨_, e, _⟩ | ⟨_, h2'⟩
      · subst e
        exact (hn o2).elim
      · exact R.dist j k t u q h1' h2' o1 o2 e1 e2
  prot := fun q hq => by
    obtain ⟨h1, h2, h3, h4⟩ := R.prot q hq
    refine ⟨h1, fun j t h o e => ?_, h3, h4⟩
    have h' : (st.env.set i s)[j]? = some t := h
    rcases set_get h' with ⟨_, e2, _⟩ | ⟨_, e2⟩
    · subst e2
      exact hn o
    · exact h2 j t e2 o e
/-- a slot is stored -/
theorem Rel.store (R : Rel G P st σ H F) (i : Nat) (s : Sl) (v : Option V) (hs : SlOk G H F s (some v)) (hf : s.isOwn → ∀ p, v = some (.ref p) → Free st σ p ∧ ¬ P p) : Rel G P (st.set i s) (σ.set i v) H F where
  g := R.g
  len := by
    show (st.env.set i s).length = _
    rw [List.length_set, List.length_set]
    exact R.len
  slot := fun j t h => by
    have h' : (st.env.set i s)[j]? = some t := h
    rcases set_get h' with ⟨e1, e2, hl⟩ | ⟨ne, e2⟩
    · subst e1
      subst e2
      rw [List.getElem?_set_self (by rw [← R.len]; exact hl)]
      exact hs
    · rw [List.getElem?_set_ne (fun z => ne z.symm)]
      exact R.slot j t e2
  dist := fun j k t u q h1 h2 o1 o2 e1 e2 => by
    have h1' : (st.env.set i s)[j]? = some t := h1
    have h2' : (st.env.set i s)[k]? = some u := h2
    rcases set_get h1' with ⟨a1, b1, l1⟩ | ⟨n1, g1⟩
    · rcases set_get h2' with ⟨a2, _, _⟩ | ⟨n2, g2⟩
      · rw [a1, a2]
      · exfalso
        subst a1
        subst b1
        rw [List.getElem?_set_self (by rw [← R.len]; exact l1)] at e1
        rw [List.getElem?_set_ne (fun z => n2 z.symm)] at e2
        exact (hf o1 q (Option.some.inj e1)).1 k u g2 o2 e2
    · rcases set_get h2' with ⟨a2, b2, l2⟩ | ⟨n2, g2⟩
      · exfalso
        subst a2
        subst b2
        rw [List.getElem?_set_self (by rw [← R.len]; exact l2)] at e2
        rw [List.getElem?_set_ne (fun z => n1 z.symm)] at e1
        exact (hf o2 q (Option.some.inj e2)).1 j t g1 o1 e1
      · rw [List.getElem?_set_ne (fun z => n1 z.symm)] at e1
        rw [List.getElem?_set_ne (fun z => n2 z.symm)] at e2
        exact R.dist j k t u q g1 g2 o1 o2 e1 e2
  prot := fun q hq => by
    obtain ⟨h1, h2, h3, h4⟩ := R.prot q hq
    refine ⟨h1, fun j t h o e => ?_, h3, h4⟩
    have h' : (st.env.set i s)[j]? = some t := h
    rcases set_get h' with ⟨e1, e2, l1⟩ | ⟨n1, e2⟩
    · subst e1
      subst e2
      rw [List.getElem?_set_self (by rw [← R.len]; exact l1)] at e
      exact (hf o q (Option.some.inj e)).2 hq
    · rw [List.getElem?_set_ne (fun z => n1 z.symm)] at e
      exact h2 j t e2 o e
theorem Rel.storeD (R : Rel G P st σ H F) (i : Nat) {x : D} {v : V} (d : Dat G.K G.ca F x v) : Rel G P (st.set i (.d x)) (σ.set i (some v)) H F := R.store i (.d x) (some v) ⟨v, rfl, d⟩ fun z => z.elim
theorem Rel.storeV (R : Rel G P st σ H F) (i : Nat) {r : Vl} {v : V} (d : VOk G P st σ H F r v) : Rel G P (st.set i r.sl) (σ.set i (some v)) H F := by
  cases r with
  | d x => exact R.storeD i d
  | own xs =>
    obtain ⟨p, vs, rfl, w, hp, q, fr, np⟩ := d
    exact R.store i (.own xs) (some (.ref p)) ⟨p, vs, rfl, w, hp, q⟩ fun _ q e => by
      cases e
      exact ⟨fr, np⟩
  | tp xs =>
    obtain ⟨p, vs, rfl, hp, q⟩ := d
    exact R.store i (.tp xs) (some (.ref p)) ⟨p, vs, rfl, hp, q⟩ fun z => z.elim
/-- the slot reads -/
theorem Rel.get (R : Rel G P st σ H F) {i : Nat} {Q : D → DS → Prop} (h : getV i st Q) : ∃ x v st' F', σ[i]? = some (some v) ∧ Q x st' ∧ Rel G P st' σ H F' ∧ Dat G.K G.ca F' x v ∧ Evl.Ex F F' := by
  unfold getV at h
  split at h
  · rename_i x e
    obtain ⟨v, e2, d⟩ := R.slot i _ e
    exact ⟨x, v, st, F, e2, h, R, d, Evl.Ex.refl F⟩
  · rename_i xs e
    obtain ⟨p, vs, e2, w, hp, q⟩ := R.slot i _ e
    have ex : Evl.Ex F (upd F p (.lst vs)) := Evl.Ex.new w.1
    refine ⟨.lst xs, .ref p, st.set i (.d (.lst xs)), upd F p (.lst vs), e2, h, ?_, .lst upd_same (q.mono ex), ex⟩
    have d : Dat G.K G.ca (upd F p (.lst vs)) (.lst xs) (.ref p) := .lst upd_same (q.mono ex)
    -- first forget the slot, then freeze, then name it
    have R1 : Rel G P (st.set i .un) σ H F := R.word i .un (fun _ => trivial) fun z => z
    have fr : Free (st.set i .un) σ p := fun j s hj hs ej => by
      have hj' : (st.env.set i .un)[j]? = some s := hj
      rcases set_get hj' with ⟨_, e3, _⟩ | ⟨ne, hj'⟩
      · subst e3
        exact hs
      · exact ne (R.dist j i s _ p hj' e hs trivial ej e2)
    have R2 := (R1.upF hp noT_lst w fr fun z => (R.prot p z).2.1 i _ e trivial e2).word i (.d (.lst xs)) (fun _ => ⟨.ref p, e2, d⟩) fun z => z
    have e3 : (st.set i .un).set i (.d (.lst xs)) = st.set i (.d (.lst xs)) := by
      unfold DS.set
      simp
    rw [e3] at R2
    exact R2
  · rename_i xs e
    obtain ⟨p, vs, e2, hp, d⟩ := R.slot i _ e
    exact ⟨.tup xs, .ref p, st, F, e2, h, R, .tup (Evl.st_of hp) d, Evl.Ex.refl F⟩
  · exact h.elim
theorem Dat.hd {c : Option Addr} {K : PySem.W.Frag} {d : D} {v : V} {xs : List D} (h : Dat K c F d v) (e : d.items = some xs) : ∃ a vs, v = .ref a ∧ (SqL K F a vs ∨ SqT K F a vs) ∧ Dats K c F xs vs := by
  cases d with
  | tup ys =>
    cases e
    obtain ⟨a, vs, e, q, r⟩ := h.tup_iff
    exact ⟨a, vs, e, .inr q, r⟩
  | lst ys =>
    cases e
    obtain ⟨a, vs, e, q, r⟩ := h.lst_iff
    exact ⟨a, vs, e, .inl (Evl.sq_of q), r⟩
  | scr ns =>
    cases e
    cases h with
    | scr q => exact ⟨_, _, rfl, .inl q, Dats.ofInts ns⟩
  | _ => cases e
theorem Glob.l {c : List Int} {K : PySem.W.Frag} {a : Addr} {vs : List V} (g : Glob G c H F) (h : SqL K F a vs) : SqL K H a vs := Evl.ex_l g.ex h
theorem Glob.t {c : List Int} {K : PySem.W.Frag} {a : Addr} {vs : List V} (g : Glob G c H F) (h : SqT K F a vs) : SqT K H a vs := Evl.ex_t g.ex h
end

section
variable {X : Cx} {G : En} {Sg : Tab} {a b c e : Expr} {ia ib ic : E} {pos : Pos}
/-- operands, then an operation on values -/
theorem bin_imp {r : R2} {w : WV} (hw : ∀ st Q, w st Q → ∃ Q2 : D → D → DS → Prop, (wpE Sg ia st fun x st1 => wpE Sg ib st1 fun y st2 => Q2 x.dat y.dat st2) ∧
      ∀ P x y st2 σ vx vy H2 F2 K, Q2 x y st2 → Rel G P st2 σ H2 F2 → Dat G.K G.ca F2 x vx → Dat G.K G.ca F2 y vy →
        (∀ r v H' F', Q r st2 → Rel G P st2 σ H' F' → VOk G P st2 σ H' F' r v → Stp G H2 F2 H' F' → K v H') → r vx vy H2 K)
    (σ : L2.St) (H : Hp) (Q : VK) (h : tE G w σ H Q) : tOp r (tD G (toD (wpE Sg ia))) (tD G (toD (wpE Sg ib))) σ H Q := by
  obtain ⟨P, st, F, Qd, R, hq, k⟩ := h
  obtain ⟨Q2, h2, hk⟩ := hw st Qd hq
  refine ⟨P, st, F, fun x st1 => wpE Sg ib st1 fun y st2 => Q2 x y.dat st2, R, h2, fun x st1 v H1 F1 q1 R1 d1 s1 => ?_⟩
  refine ⟨P, st1, F1, fun y st2 => Q2 x y st2, R1, q1, fun y st2 u H2 F2 q2 R2 d2 s2 => ?_⟩
  exact hk P x y st2 σ v u H2 F2 Q q2 R2 (d1.mono s2.f) d2 fun r v' H' F' qr R' o' s' => k r st2 v' H' F' qr R' o' ((s1.trans s2).trans s')
theorem opr_or {f : Value → Value → Sem Value} {r r' : R2} (h : OpR X f r) (h' : OpR X f r') : OpR X f (fun x y H Q => r x y H Q ∨ r' x y H Q) := fun pins s σ H x y v u Q I rx ry q =>
  q.elim (h pins s σ H x y v u Q I rx ry) (h' pins s σ H x y v u Q I rx ry)
def rFalse : R2 := fun _ _ _ _ => False
theorem opr_false {f : Value → Value → Sem Value} : OpR X f rFalse := fun _ _ _ _ _ _ _ _ _ _ _ _ q => q.elim
/-- the operators that are served -/
def rBin (K : PySem.W.Frag) : Operator → R2
  | .Add => fun x y H Q => rI0 (fun i j => .int (i + j)) x y H Q ∨ rCatA K x y H Q ∨ rCat x y H Q
  | .Sub => rI0 fun i j => .int (i - j)
  | .Mult => fun x y H Q => rI CMul (fun i j => .int (i * j)) x y H Q ∨ rI CMulW (fun i j => .int (i * j)) x y H Q ∨ rRepT K x y H Q ∨ rRep x y H Q
  | .FloorDiv => rI CDivW fun i j => .int (i / j)
  | .Mod => rI (fun _ j => 0 < j) fun i j => .int (i % j)
  | .Pow => rI CPow fun i j => .int (i ^ j.toNat)
  | _ => rFalse
theorem opr_bin : ∀ o : Operator, OpR X (binaryOp o) (rBin X.K o)
  | .Add => opr_or op_add (opr_or op_catA op_cat)
  | .Sub => op_sub
  | .Mult => opr_or op_mul (opr_or op_mulW (opr_or op_repT op_rep))
  | .FloorDiv => op_fdivW
  | .Mod => op_mod
  | .Pow => op_pow
  | .MatMult => opr_false
  | .Div => opr_false
  | .LShift => opr_false
  | .RShift => opr_false
  | .BitOr => opr_false
  | .BitXor => opr_false
  | .BitAnd => opr_false
theorem sz {n : Nat} (h : n ≤ 100000) : n ≤ sizeLine := Evl.sz_of h
theorem Dats.flat_rep {K : PySem.W.Frag} {c : Option Addr} {F : Hp} {ds : List D} {vs : List V} (h : Dats K c F ds vs) : ∀ n : Nat, Dats K c F (List.replicate n ds).flatten (List.replicate n vs).flatten
  | 0 => .nil
  | n + 1 => by
    rw [List.replicate_succ, List.replicate_succ, List.flatten_cons, List.flatten_cons]
    exact h.append (Dats.flat_rep h n)
/-- the answer is data that the operation has not laid -/
theorem out_d {P : Addr → Prop} {st : DS} {σ : L2.St} {H F : Hp} {Q : Vl → DS → Prop} {K : VK} {x : D} {v : V} (R : Rel G P st σ H F) (k : ∀ r v H' F', Q r st → Rel G P st σ H' F' → VOk G P st σ H' F' r v → Stp G H F H' F' → K v H') (q : Q (.d x) st) (d : Dat G.K G.ca F x v) : K v H :=
  k (.d x) v H F q R d Stp.refl
/-- a new tuple, a new list -/
theorem out_t {P : Addr → Prop} {st : DS} {σ : L2.St} {H F : Hp} {Q : Vl → DS → Prop} {K : VK} {xs : List D} {vs : List V} {p : Addr} (R : Rel G P st σ H F) (k : ∀ r v H' F', Q r st → Rel G P st σ H' F' → VOk G P st σ H' F' r v → Stp G H F H' F' → K v H') (q : Q (.d (.tup xs)) st) (d : Dats G.K G.ca F xs vs)
    (hp : H p = none) : K (.ref p) (upd H p (.tup vs)) :=
  k (.d (.tup xs)) (.ref p) _ (upd F p (.tup vs)) q (R.newF hp noT_tup) (.tup (Evl.st_of upd_same) (d.mono (Evl.Ex.new (R.g.none0 hp)))) (Stp.newF hp (R.g.none0 hp))
theorem out_l {P : Addr → Prop} {st : DS} {σ : L2.St} {H F : Hp} {Q : Vl → DS → Prop} {K : VK} {xs : List D} {vs : List V} {p : Addr} (R : Rel G P st σ H F) (k : ∀ r v H' F', Q r st → Rel G P st σ H' F' → VOk G P st σ H' F' r v → Stp G H F H' F' → K v H') (q : Q (.own xs) st) (d : Dats G.K G.ca F xs vs)
    (hp : H p = none) : K (.ref p) (upd H p (.lst vs)) :=
  k (.own xs) (.ref p) _ F q (R.new hp) ⟨p, vs, rfl, R.own hp, upd_same, d, R.free hp, R.np hp⟩ (Stp.new hp)
theorem r_bin {o : Operator} (hK : X.K = G.K) (ha : PE X a (tE G (wpE Sg ia))) (hb : PE X b (tE G (wpE Sg ib))) : PE X (.BinOp a o b pos) (tE G (wpE Sg (.bin o ia ib))) := by
  refine pe_imp (pe_op (opr_bin o) (pe_D ha) (pe_D hb)) (bin_imp fun st Q h => ⟨fun x y st2 => binD o x y fun z => Q z st2, h, ?_⟩)
  intro P x y st2 σ vx vy H2 F2 K q R dx dy k
  rw [hK]
  unfold binD at q
  split at q
  · cases dx; cases dy
    exact .inl ⟨_, _, rfl, rfl, out_d R k q (.int _)⟩
  · cases dx; cases dy
    exact ⟨_, _, rfl, rfl, out_d R k q (.int _)⟩
  · cases dx; cases dy
    obtain ⟨c, q⟩ := q
    rcases c with c | c
    · exact .inl ⟨_, _, rfl, rfl, c, out_d R k q (.int _)⟩
    · exact .inr (.inl ⟨_, _, rfl, rfl, c, out_d R k q (.int _)⟩)
  · cases dx; cases dy
    exact ⟨_, _, rfl, rfl, q.1, out_d R k q.2 (.int _)⟩
  · cases dx; cases dy
    exact ⟨_, _, rfl, rfl, q.1, out_d R k q.2 (.int _)⟩
  · cases dx; cases dy
    exact ⟨_, _, rfl, rfl, q.1, out_d R k q.2 (.int _)⟩
  · rename_i xs ys
    obtain ⟨a1, vs, rfl, h1, d1⟩ := dx.tup_iff
    obtain ⟨a2, us, rfl, h2, d2⟩ := dy.tup_iff
    refine .inr (.inl ⟨a1, a2, vs, us, rfl, rfl, R.g.t h1, R.g.t h2, ?_, fun e => ?_, fun _ e => ?_, fun _ _ p hp => ?_⟩)
    · rw [← d1.len, ← d2.len]
      exact sz q.1
    · have e1 : xs = [] := by
        have := d1.len
        rw [e] at this
        exact List.length_eq_zero_iff.mp this
      subst e1
      exact out_d R k q.2 (by exact dy)
    · have e1 : ys = [] := by
        have := d2.len
        rw [e] at this
        exact List.length_eq_zero_iff.mp this
      subst e1
      have q2 := q.2
      rw [List.append_nil] at q2
      exact out_d R k q2 dx
    · exact out_t R k q.2 (d1.append d2) hp
  · obtain ⟨a1, vs, rfl, h1, d1⟩ := dx.lst_iff
    obtain ⟨a2, us, rfl, h2, d2⟩ := dy.lst_iff
    refine .inr (.inr ⟨a1, a2, vs, us, rfl, rfl, R.g.ex _ _ h1, R.g.ex _ _ h2, ?_, fun p hp => ?_⟩)
    · rw [← d1.len, ← d2.len]
      exact sz q.1
    · exact out_l R k q.2 (d1.append d2) hp
  · rename_i xs j
    cases dy
    obtain ⟨a1, vs, rfl, h1, d1⟩ := dx.tup_iff
    obtain ⟨q1, q2, q3, q4, q5⟩ := q
    refine .inr (.inr (.inl ⟨a1, _, vs, rfl, rfl, R.g.t h1, fun e => q1 ?_, q2, q3, by rw [← d1.len]; exact q4, fun p hp => ?_⟩))
    · have := d1.len
      rw [e] at this
      exact List.length_eq_zero_iff.mp this
    · exact out_t R k q5 (d1.flat_rep _) hp
  · rename_i xs j
    cases dy
    obtain ⟨a1, vs, rfl, h1, d1⟩ := dx.lst_iff
    obtain ⟨q1, q2, q3, q4⟩ := q
    refine .inr (.inr (.inr ⟨a1, _, vs, rfl, rfl, R.g.ex _ _ h1, by omega, by omega, ?_, fun p hp => ?_⟩))
    · rw [← d1.len, sizeLine_eq]
      have a1 : xs.length * j.toNat ≤ 1000 * 1000 := Nat.mul_le_mul (by omega) (by omega)
      omega
    · exact out_l R k q4 (d1.flat_rep _) hp
  · exact q.elim
end
end DL
end
section
namespace DL
open PySem PySem.Spec PyProof.Rows L2

section
variable {X : Cx} {G : En} {Sg : Tab} {a b c e : Expr} {ia ib ic : E} {es : List Expr} {ias : Es} {pos : Pos}

theorem r_v {i : Nat} {x : Str} (hN : X.N[i]? = some x) (hv : Vis X.env.scope x) (hd : (x == ("__debug__" : Str)) = false) (hcd : (x == ("__classdict__" : Str)) = false) : PE X (.Name x pos) (tE G (wpE Sg (.v i))) := by
  refine pe_imp (pe_var hN hv hd hcd) fun σ H Q ⟨P, st, F, Qd, R, hq, k⟩ => ?_
  obtain ⟨y, v, st', F', e1, q, R', d, ex⟩ := R.get hq
  exact ⟨v, e1, k (.d y) st' v H F' q R' d ⟨fun _ _ h _ _ => h, ex⟩⟩
theorem r_c {d : D} {v : V} (h : PE X e (tC v)) (hd : ∀ F, Dat G.K G.ca F d v) : PE X e (tE G (wpE Sg (.k d))) :=
  pe_imp h fun σ H Q ⟨P, st, F, Qd, R, hq, k⟩ => k (.d d) st v H F hq R (hd F) Stp.refl
theorem r_glob {x : Str} {d : D} {v : V} {u : Value} (hg : Gl X x) (hm : X.mg x = some u) (r : RelV v u) (hd : ∀ F, Dat G.K G.ca F d v) (hdb : (x == ("__debug__" : Str)) = false) : PE X (.Name x pos) (tE G (wpE Sg (.k d))) := r_c (pe_glob hg hm r hdb) hd


theorem un_imp {t : TE} {w : WV} {r : V → Hp → VK → Prop} (hw : ∀ st Q, w st Q → ∃ Q2 : D → DS → Prop, (wpE Sg ia st fun x st1 => Q2 x.dat st1) ∧
      ∀ P x st2 σ vx H2 F2 K, Q2 x st2 → Rel G P st2 σ H2 F2 → Dat G.K G.ca F2 x vx →
        (∀ r v H' F', Q r st2 → Rel G P st2 σ H' F' → VOk G P st2 σ H' F' r v → Stp G H2 F2 H' F' → K v H') → r vx H2 K)
    (σ : L2.St) (H : Hp) (Q : VK) (h : tE G w σ H Q) : tD G (toD (wpE Sg ia)) σ H fun x H1 => r x H1 Q := by
  obtain ⟨P, st, F, Qd, R, hq, k⟩ := h
  obtain ⟨Q2, h2, hk⟩ := hw st Qd hq
  exact ⟨P, st, F, Q2, R, h2, fun x st1 v H1 F1 q1 R1 d1 s1 => hk P x st1 σ v H1 F1 Q q1 R1 d1 fun r v' H' F' qr R' o' s' => k r st1 v' H' F' qr R' o' (s1.trans s')⟩
theorem r_neg (ha : PE X a (tE G (wpE Sg ia))) : PE X (.UnaryOp .USub a pos) (tE G (wpE Sg (.neg ia))) := by
  refine pe_imp (pe_un un_neg (pe_D ha)) (un_imp (t := tC .non) fun st Q h => ⟨fun x st1 => ∃ i, x = .int i ∧ Q (.d (.int (-i))) st1, h, ?_⟩)
  intro P x st2 σ vx H2 F2 K q R dx k
  obtain ⟨i, rfl, q⟩ := q
  cases dx
  exact ⟨i, rfl, out_d R k q (.int _)⟩
theorem r_no (ha : PE X a (tE G (wpE Sg ia))) : PE X (.UnaryOp .Not a pos) (tE G (wpE Sg (.no ia))) := by
  refine pe_imp (pe_not (pe_D ha)) (un_imp (t := tC .non) (r := fun x H1 Q => ∃ c, x = .bl c ∧ Q (.bl (!c)) H1) fun st Q h => ⟨fun x st1 => ∃ i, x = .bl i ∧ Q (.d (.bl (!i))) st1, h, ?_⟩)
  intro P x st2 σ vx H2 F2 K q R dx k
  obtain ⟨i, rfl, q⟩ := q
  cases dx
  exact ⟨i, rfl, out_d R k q (.bl _)⟩
theorem nonB {K : PySem.W.Frag} {ca : Option Addr} {F : Hp} {x : D} {v : V} (d : Dat K ca F x v) : decide (v = V.non) = x.isNon := by
  cases d <;> rfl
theorem r_isN {j : Nat} {p' : Pos} (ha : PE X a (tE G (wpE Sg ia))) : PE X (.Compare a [.Is] [.Constant .none j p'] pos) (tE G (wpE Sg (.isN ia))) := by
  refine pe_imp (pe_cmp (pc_isN (pe_D ha)) rfl) (un_imp (t := tC .non) (r := fun x H1 Q => Q (.bl (decide (x = .non))) H1) fun st Q h => ⟨fun x st1 => Q (.d (.bl x.isNon)) st1, h, ?_⟩)
  intro P x st2 σ vx H2 F2 K q R dx k
  rw [nonB dx]
  exact out_d R k q (.bl _)
theorem nonB2 {K : PySem.W.Frag} {ca : Option Addr} {F : Hp} {x : D} {v : V} (d : Dat K ca F x v) : (!decide (v = V.non)) = !x.isNon := by
  cases d <;> rfl
theorem r_ntN {j : Nat} {p' : Pos} (ha : PE X a (tE G (wpE Sg ia))) : PE X (.Compare a [.IsNot] [.Constant .none j p'] pos) (tE G (wpE Sg (.ntN ia))) := by
  refine pe_imp (pe_cmp (pc_notN (pe_D ha)) rfl) (un_imp (t := tC .non) (r := fun x H1 Q => Q (.bl (!decide (x = .non))) H1) fun st Q h => ⟨fun x st1 => Q (.d (.bl (!x.isNon))) st1, h, ?_⟩)
  intro P x st2 σ vx H2 F2 K q R dx k
  rw [nonB2 dx]
  exact out_d R k q (.bl _)


mutual
theorem Dat.dp {K : PySem.W.Frag} {ca : Option Addr} {F : Hp} : ∀ {d : D} {v : V}, Dat K ca F d v → d.plain = true → Dp K F v d.py
  | .non, _, h, _ => by cases h; exact .non
  | .bl _, _, h, _ => by cases h; exact .bl _
  | .int _, _, h, _ => by cases h; exact .int _
  | .str _, _, h, _ => by cases h; exact .str _
  | .tup ds, _, h, p => by
    cases h with
    | tup q r => exact .tup q (Dats.dp r p)
  | .lst ds, _, h, p => by
    cases h with
    | lst q r => exact .lst (Evl.sq_of q) (Dats.dp r p)
  | .scr _, _, _, p => by cases p
  | .cell, _, _, p => by cases p
theorem Dats.dp {K : PySem.W.Frag} {ca : Option Addr} {F : Hp} : ∀ {ds : List D} {vs : List V}, Dats K ca F ds vs → D.plains ds = true → DpAll K F vs (D.pys ds)
  | [], _, h, _ => by cases h; exact .nil
  | d :: ds, _, h, p => by
    cases h with
    | cons a b =>
      have p' : (d.plain && D.plains ds) = true := p
      rw [Bool.and_eq_true] at p'
      exact .cons (Dat.dp a p'.1) (Dats.dp b p'.2)
end
mutual
theorem dp_mono {K : PySem.W.Frag} {F F' : Hp} (e : Evl.Ex F F') : ∀ {d : PyData} {v : V}, Dp K F v d → Dp K F' v d
  | _, _, .non => .non
  | _, _, .bl b => .bl b
  | _, _, .int i => .int i
  | _, _, .str s => .str s
  | _, _, .lst q r => .lst (Evl.ex_l e q) (dps_mono e r)
  | _, _, .tup q r => .tup (Evl.ex_t e q) (dps_mono e r)
theorem dps_mono {K : PySem.W.Frag} {F F' : Hp} (e : Evl.Ex F F') : ∀ {ds : List PyData} {vs : List V}, DpAll K F vs ds → DpAll K F' vs ds
  | _, _, .nil => .nil
  | _, _, .cons a b => .cons (dp_mono e a) (dps_mono e b)
end
def rCmp (K : PySem.W.Frag) : CmpOp → R2
  | .Lt => rI0 fun i j => .bl (decide (i < j))
  | .LtE => rI0 fun i j => .bl (decide (i ≤ j))
  | .Gt => rI0 fun i j => .bl (decide (j < i))
  | .GtE => rI0 fun i j => .bl (decide (j ≤ i))
  | .Eq => fun x y H Q => rEq x y H Q ∨ rEqD K x y H Q
  | .NotEq => fun x y H Q => rNe x y H Q ∨ rNeD K x y H Q
  | .In => rIn K false
  | .NotIn => rIn K true
  | _ => rFalse
theorem opr_cmp (hu : X.A.units + 64 < cLine) : ∀ o : CmpOp, OpR X (compareOp o) (rCmp X.K o)
  | .Lt => op_lt
  | .LtE => op_le
  | .Gt => op_gt
  | .GtE => op_ge
  | .Eq => opr_or op_eq (op_eqD hu)
  | .NotEq => opr_or op_ne (op_neD hu)
  | .In => op_in_seq
  | .NotIn => op_notIn_seq
  | .Is => opr_false
  | .IsNot => opr_false
theorem shp_plain {x : D} (h : x.shp = true) : x.plain = true ∧ SeqAt.shaped x.py = true := by
  unfold D.shp at h
  rwa [Bool.and_eq_true] at h
theorem flat_v {K : PySem.W.Frag} {ca : Option Addr} {F : Hp} {x : D} {v : V} (d : Dat K ca F x v) (h : x.flat = true) : flatV v = true := by
  cases d <;> first | rfl | cases h
theorem flat_vs {K : PySem.W.Frag} {ca : Option Addr} {F : Hp} : ∀ {xs : List D} {vs : List V}, Dats K ca F xs vs → xs.all D.flat = true → vs.all flatV = true
  | [], _, h, _ => by cases h; rfl
  | x :: xs, _, h, p => by
    cases h with
    | cons a b =>
      rw [List.all_cons, Bool.and_eq_true] at p
      rw [List.all_cons, flat_v a p.1, flat_vs b p.2]
      rfl
theorem eqv_v {K : PySem.W.Frag} {ca : Option Addr} {F : Hp} {x y : D} {v u : V} (d : Dat K ca F x v) (d2 : Dat K ca F y u) (h : x.flat = true) (h2 : y.flat = true) : eqV v u = D.eqv x y := by
  cases d <;> cases d2 <;> first | (cases h; done) | (cases h2; done) | (simp [eqV, D.eqv, D.py, PyData.eqv]; done) | skip
  all_goals (first | rfl | (simp only [eqV, D.eqv, D.py, PyData.eqv]; done) | skip)
theorem in_v {K : PySem.W.Frag} {ca : Option Addr} {F : Hp} {x : D} {v : V} (d : Dat K ca F x v) (h : x.flat = true) : ∀ {xs : List D} {vs : List V}, Dats K ca F xs vs → xs.all D.flat = true → inV v vs = inD x xs
  | [], _, q, _ => by cases q; rfl
  | y :: ys, _, q, p => by
    cases q with
    | cons a b =>
      rw [List.all_cons, Bool.and_eq_true] at p
      have ih := in_v d h b p.2
      unfold inV inD at ih ⊢
      rw [List.any_cons, List.any_cons, ih, eqv_v a d p.1 h]
theorem cmp_run {o : CmpOp} {x y : D} {Qb : Bool → Prop} (h : cmpD o x y Qb) {P : Addr → Prop} {st : DS} {σ : L2.St} {vx vy : V} {H2 F2 : Hp} {K : VK} (R : Rel G P st σ H2 F2) (dx : Dat G.K G.ca F2 x vx) (dy : Dat G.K G.ca F2 y vy) (k : ∀ b, Qb b → K (.bl b) H2) : rCmp G.K o vx vy H2 K := by
  unfold cmpD at h
  split at h
  · cases dx; cases dy; exact ⟨_, _, rfl, rfl, k _ h⟩
  · cases dx; cases dy; exact ⟨_, _, rfl, rfl, k _ h⟩
  · cases dx; cases dy; exact ⟨_, _, rfl, rfl, k _ h⟩
  · cases dx; cases dy; exact ⟨_, _, rfl, rfl, k _ h⟩
  · rename_i i j
    cases dx; cases dy
    refine .inl ⟨rfl, ?_⟩
    have e : decide (V.int i = V.int j) = decide (i = j) := by simp
    rw [e]
    exact k _ h
  · rename_i i j
    cases dx; cases dy
    refine .inl ⟨rfl, ?_⟩
    have e : decide (V.int i = V.int j) = decide (i = j) := by simp
    rw [e]
    exact k _ h
  · obtain ⟨h1, h2, h3⟩ := h
    obtain ⟨p1, s1⟩ := shp_plain h1
    obtain ⟨p2, s2⟩ := shp_plain h2
    exact .inr ⟨_, _, dp_mono R.g.ex (dx.dp p1), dp_mono R.g.ex (dy.dp p2), s1, s2, k _ h3⟩
  · obtain ⟨h1, h2, h3⟩ := h
    obtain ⟨p1, s1⟩ := shp_plain h1
    obtain ⟨p2, s2⟩ := shp_plain h2
    exact .inr ⟨_, _, dp_mono R.g.ex (dx.dp p1), dp_mono R.g.ex (dy.dp p2), s1, s2, k _ h3⟩
  · obtain ⟨h1, h2, h3⟩ := h
    obtain ⟨a1, us, rfl, q, r⟩ := dy.lst_iff
    refine ⟨a1, us, rfl, .inl (R.g.l (Evl.sq_of q)), flat_v dx h1, flat_vs r h2, ?_⟩
    rw [if_neg Bool.false_ne_true, in_v dx h1 r h2]
    exact k _ h3
  · obtain ⟨h1, h2, h3⟩ := h
    obtain ⟨a1, us, rfl, q, r⟩ := dy.tup_iff
    refine ⟨a1, us, rfl, .inr (R.g.t q), flat_v dx h1, flat_vs r h2, ?_⟩
    rw [if_neg Bool.false_ne_true, in_v dx h1 r h2]
    exact k _ h3
  · obtain ⟨h1, h2, h3⟩ := h
    obtain ⟨a1, us, rfl, q, r⟩ := dy.lst_iff
    refine ⟨a1, us, rfl, .inl (R.g.l (Evl.sq_of q)), flat_v dx h1, flat_vs r h2, ?_⟩
    rw [if_pos rfl, in_v dx h1 r h2]
    exact k _ h3
  · obtain ⟨h1, h2, h3⟩ := h
    obtain ⟨a1, us, rfl, q, r⟩ := dy.tup_iff
    refine ⟨a1, us, rfl, .inr (R.g.t q), flat_v dx h1, flat_vs r h2, ?_⟩
    rw [if_pos rfl, in_v dx h1 r h2]
    exact k _ h3
  · exact h.elim
theorem r_cmp {o : CmpOp} (hK : X.K = G.K) (hu : X.A.units + 64 < cLine) (hm : behindInMarks o b = false) (ha : PE X a (tE G (wpE Sg ia))) (hb : PE X b (tE G (wpE Sg ib))) : PE X (.Compare a [o] [b] pos) (tE G (wpE Sg (.cmp o ia ib))) := by
  refine pe_imp (pe_cmpR (opr_cmp hu o) (pe_D ha) (pe_D hb) hm) (bin_imp fun st Q h => ⟨fun x y st2 => cmpD o x y fun z => Q (.d (.bl z)) st2, h, ?_⟩)
  intro P x y st2 σ vx vy H2 F2 K q R dx dy k
  rw [hK]
  exact cmp_run q R dx dy fun b hb => out_d R k hb (.bl b)
theorem toT {t : TE} {w : WV} (h : ∀ σ H Q, tE G w σ H Q → t σ H Q) (σ : L2.St) (H : Hp) (Q : Bool → Hp → Prop) (q : tT G (toB w) σ H Q) : tTest t σ H Q := by
  obtain ⟨P, st, F, Qd, R, hq, k⟩ := q
  refine h σ H _ ⟨P, st, F, fun r st' => ∃ b, r.dat = .bl b ∧ Qd b st', R, hq, fun r st' v H' F' q R' o s => ?_⟩
  obtain ⟨b, e, q⟩ := q
  cases r with
  | d x =>
    have e' : x = .bl b := e
    subst e'
    cases o
    exact ⟨b, rfl, k b st' H' F' q R' s⟩
  | own xs => cases e
  | tp xs => cases e
theorem rt_cmp {o : CmpOp} (hK : X.K = G.K) (hu : X.A.units + 64 < cLine) (hm : behindInMarks o b = false) (ha : PE X a (tE G (wpE Sg ia))) (hb : PE X b (tE G (wpE Sg ib))) : PT X (.Compare a [o] [b] pos) (tT G (toB (wpE Sg (.cmp o ia ib)))) := by
  refine pt_imp (pt_cmpR (opr_cmp hu o) (pe_D ha) (pe_D hb) hm) (toT (bin_imp fun st Q h => ⟨fun x y st2 => cmpD o x y fun z => Q (.d (.bl z)) st2, h, ?_⟩))
  intro P x y st2 σ vx vy H2 F2 K q R dx dy k
  rw [hK]
  exact cmp_run q R dx dy fun b hb => out_d R k hb (.bl b)
theorem rt_isN {j : Nat} {p' : Pos} (ha : PE X a (tE G (wpE Sg ia))) : PT X (.Compare a [.Is] [.Constant .none j p'] pos) (tT G (toB (wpE Sg (.isN ia)))) := by
  refine pt_imp (pt_cmp (pc_isN (pe_D ha)) rfl) (toT (un_imp (t := tC .non) (r := fun x H1 Q => Q (.bl (decide (x = .non))) H1) fun st Q h => ⟨fun x st1 => Q (.d (.bl x.isNon)) st1, h, ?_⟩))
  intro P x st2 σ vx H2 F2 K q R dx k
  rw [nonB dx]
  exact out_d R k q (.bl _)
theorem rt_ntN {j : Nat} {p' : Pos} (ha : PE X a (tE G (wpE Sg ia))) : PT X (.Compare a [.IsNot] [.Constant .none j p'] pos) (tT G (toB (wpE Sg (.ntN ia)))) := by
  refine pt_imp (pt_cmp (pc_notN (pe_D ha)) rfl) (toT (un_imp (t := tC .non) (r := fun x H1 Q => Q (.bl (!decide (x = .non))) H1) fun st Q h => ⟨fun x st1 => Q (.d (.bl (!x.isNon))) st1, h, ?_⟩))
  intro P x st2 σ vx H2 F2 K q R dx k
  rw [nonB2 dx]
  exact out_d R k q (.bl _)
theorem chn_imp {o o' : CmpOp} (hK : X.K = G.K) (σ : L2.St) (H : Hp) (Q : VK) (h : tE G (wpE Sg (.chn o o' ia ib ic)) σ H Q) :
    tChain (rCmp X.K o) (rCmp X.K o') (tD G (toD (wpE Sg ia))) (tD G (toD (wpE Sg ib))) (tD G (toD (wpE Sg ic))) σ H Q := by
  obtain ⟨P, st, F, Qd, R, hq, k⟩ := h
  refine ⟨P, st, F, fun x st1 => wpE Sg ib st1 fun y st2 => cmpD o x y.dat fun r => if r = true then wpE Sg ic st2 fun z st3 => cmpD o' y.dat z.dat fun r' => Qd (.d (.bl r')) st3 else Qd (.d (.bl false)) st2, R, hq, fun x st1 v H1 F1 q1 R1 d1 s1 => ?_⟩
  refine ⟨P, st1, F1, fun y st2 => cmpD o x y fun r => if r = true then wpE Sg ic st2 fun z st3 => cmpD o' y z.dat fun r' => Qd (.d (.bl r')) st3 else Qd (.d (.bl false)) st2, R1, q1, fun y st2 u H2 F2 q2 R2 d2 s2 => ?_⟩
  rw [hK]
  refine cmp_run q2 R2 (d1.mono s2.f) d2 fun b hb => ⟨b, rfl, ?_⟩
  cases b with
  | true =>
    rw [if_pos rfl] at hb ⊢
    refine ⟨P, st2, F2, fun z st3 => cmpD o' y z fun r' => Qd (.d (.bl r')) st3, R2, hb, fun z st3 w H3 F3 q3 R3 d3 s3 => ?_⟩
    refine cmp_run q3 R3 (d2.mono s3.f) d3 fun b hb => ?_
    exact k (.d (.bl b)) st3 _ H3 F3 hb R3 (.bl b) ((s1.trans s2).trans s3)
  | false =>
    rw [if_neg Bool.false_ne_true] at hb ⊢
    exact k (.d (.bl false)) st2 _ H2 F2 hb R2 (.bl false) (s1.trans s2)
theorem r_chn {o o' : CmpOp} (hK : X.K = G.K) (hu : X.A.units + 64 < cLine) (hm : lastMarks [o, o'] [b, c] = false) (ha : PE X a (tE G (wpE Sg ia))) (hb : PE X b (tE G (wpE Sg ib))) (hc : PE X c (tE G (wpE Sg ic))) :
    PE X (.Compare a [o, o'] [b, c] pos) (tE G (wpE Sg (.chn o o' ia ib ic))) := pe_imp (pe_chain (opr_cmp hu o) (opr_cmp hu o') (pe_D ha) (pe_D hb) (pe_D hc) hm) (chn_imp hK)
theorem rt_chn {o o' : CmpOp} (hK : X.K = G.K) (hu : X.A.units + 64 < cLine) (hm : lastMarks [o, o'] [b, c] = false) (ha : PE X a (tE G (wpE Sg ia))) (hb : PE X b (tE G (wpE Sg ib))) (hc : PE X c (tE G (wpE Sg ic))) :
    PT X (.Compare a [o, o'] [b, c] pos) (tT G (toB (wpE Sg (.chn o o' ia ib ic)))) := pt_imp (pt_chain (opr_cmp hu o) (opr_cmp hu o') (pe_D ha) (pe_D hb) (pe_D hc) hm) (toT (chn_imp hK))


theorem tru_v {K : PySem.W.Frag} {ca : Option Addr} {F : Hp} {x : D} {v : V} {k : Bool} (d : Dat K ca F x v) (h : x.truth = some k) : TruV K v F k := by
  cases d with
  | non => cases h; rfl
  | bl b => cases h; rfl
  | int i => cases h; rfl
  | str s => cases h
  | tup q r =>
    rename_i ds
    cases h
    exact .inr (.inl ⟨_, q, by cases r <;> rfl⟩)
  | lst q r =>
    cases h
    exact .inl ⟨_, Evl.sq_of q, by cases r <;> rfl⟩
  | scr q => cases h
  | cell q => cases h
theorem tru_mono {K : PySem.W.Frag} {F F' : Hp} {v : V} {k : Bool} (e : Evl.Ex F F') (h : TruV K v F k) : TruV K v F' k := by
  cases v with
  | ref p =>
    rcases h with ⟨xs, q, r⟩ | ⟨xs, q, r⟩ | ⟨kvs, q, r⟩
    · exact .inl ⟨xs, Evl.ex_l e q, r⟩
    · exact .inr (.inl ⟨xs, Evl.ex_t e q, r⟩)
    · exact .inr (.inr ⟨kvs, e _ _ q, r⟩)
  | _ => exact h
theorem r_and {rest : List Expr} (ha : PE X a (tE G (wpE Sg ia))) (hb : PE X (.BoolOp .And (b :: rest) pos) (tE G (wpE Sg ib))) : PE X (.BoolOp .And (a :: b :: rest) pos) (tE G (wpE Sg (.and ia ib))) := by
  refine pe_imp (pe_and (pe_D ha) (pe_D hb)) fun σ H Q ⟨P, st, F, Qd, R, hq, k⟩ => ?_
  refine ⟨P, st, F, fun x st1 => ∃ c, x = .bl c ∧ if c = true then wpE Sg ib st1 fun y st2 => Qd (.d y.dat) st2 else Qd (.d (.bl false)) st1, R, hq, fun x st1 v H1 F1 q1 R1 d1 s1 => ?_⟩
  obtain ⟨c, rfl, q1⟩ := q1
  cases d1
  refine ⟨c, rfl, ?_⟩
  cases c with
  | true =>
    rw [if_pos rfl] at q1 ⊢
    exact ⟨P, st1, F1, fun y st2 => Qd (.d y) st2, R1, q1, fun y st2 w H2 F2 q2 R2 d2 s2 => k (.d y) st2 w H2 F2 q2 R2 d2 (s1.trans s2)⟩
  | false =>
    rw [if_neg Bool.false_ne_true] at q1 ⊢
    exact k (.d (.bl false)) st1 _ H1 F1 q1 R1 (.bl false) s1
theorem r_orT {rest : List Expr} (hK : X.K = G.K) (ha : PE X a (tE G (wpE Sg ia))) (hb : PE X (.BoolOp .Or (b :: rest) pos) (tE G (wpE Sg ib))) : PE X (.BoolOp .Or (a :: b :: rest) pos) (tE G (wpE Sg (.orT ia ib))) := by
  refine pe_imp (pe_orT (pe_D ha) (pe_D hb)) fun σ H Q ⟨P, st, F, Qd, R, hq, k⟩ => ?_
  refine ⟨P, st, F, fun x st1 => ∃ c, x.truth = some c ∧ if c = true then Qd (.d x) st1 else wpE Sg ib st1 fun y st2 => Qd (.d y.dat) st2, R, hq, fun x st1 v H1 F1 q1 R1 d1 s1 => ?_⟩
  obtain ⟨c, e, q1⟩ := q1
  refine ⟨c, by rw [hK]; exact tru_mono R1.g.ex (tru_v d1 e), ?_⟩
  cases c with
  | true =>
    rw [if_pos rfl] at q1 ⊢
    exact k (.d x) st1 _ H1 F1 q1 R1 d1 s1
  | false =>
    rw [if_neg Bool.false_ne_true] at q1 ⊢
    exact ⟨P, st1, F1, fun y st2 => Qd (.d y) st2, R1, q1, fun y st2 w H2 F2 q2 R2 d2 s2 => k (.d y) st2 w H2 F2 q2 R2 d2 (s1.trans s2)⟩
/-- tests -/
theorem rw_and1 (ha : PT X a (tT G (toB (wpE Sg ia)))) : PW X (.BoolOp .And [a] pos) (tT G (toB (wpE Sg ia))) := pw_and1 ha
theorem rw_or1 (ha : PT X a (tT G (toB (wpE Sg ia)))) : PW X (.BoolOp .Or [a] pos) (tT G (toB (wpE Sg ia))) := pw_or1 ha
theorem rw_and {rest : List Expr} (ha : PT X a (tT G (toB (wpE Sg ia)))) (hb : PW X (.BoolOp .And (b :: rest) pos) (tT G (toB (wpE Sg ib)))) : PW X (.BoolOp .And (a :: b :: rest) pos) (tT G (toB (wpE Sg (.and ia ib)))) := by
  refine pw_imp (pw_and ha hb) fun σ H Q ⟨P, st, F, Qd, R, hq, k⟩ => ?_
  refine ⟨P, st, F, fun c st1 => if c = true then wpE Sg ib st1 fun y st2 => ∃ b, y.dat = .bl b ∧ Qd b st2 else ∃ b, D.bl false = .bl b ∧ Qd b st1, R, hq, fun c st1 H1 F1 q1 R1 s1 => ?_⟩
  cases c with
  | true =>
    rw [if_pos rfl] at q1 ⊢
    exact ⟨P, st1, F1, Qd, R1, q1, fun b st2 H2 F2 q2 R2 s2 => k b st2 H2 F2 q2 R2 (s1.trans s2)⟩
  | false =>
    rw [if_neg Bool.false_ne_true] at q1 ⊢
    obtain ⟨b, e, q1⟩ := q1
    cases e
    exact k false st1 H1 F1 q1 R1 s1
theorem rw_or {rest : List Expr} (ha : PT X a (tT G (toB (wpE Sg ia)))) (hb : PW X (.BoolOp .Or (b :: rest) pos) (tT G (toB (wpE Sg ib)))) : PW X (.BoolOp .Or (a :: b :: rest) pos) (tT G (toB (wpE Sg (.or ia ib)))) := by
  refine pw_imp (pw_or ha hb) fun σ H Q ⟨P, st, F, Qd, R, hq, k⟩ => ?_
  refine ⟨P, st, F, fun c st1 => if c = true then ∃ b, D.bl true = .bl b ∧ Qd b st1 else wpE Sg ib st1 fun y st2 => ∃ b, y.dat = .bl b ∧ Qd b st2, R, hq, fun c st1 H1 F1 q1 R1 s1 => ?_⟩
  cases c with
  | true =>
    rw [if_pos rfl] at q1 ⊢
    obtain ⟨b, e, q1⟩ := q1
    cases e
    exact k true st1 H1 F1 q1 R1 s1
  | false =>
    rw [if_neg Bool.false_ne_true] at q1 ⊢
    exact ⟨P, st1, F1, Qd, R1, q1, fun b st2 H2 F2 q2 R2 s2 => k b st2 H2 F2 q2 R2 (s1.trans s2)⟩
theorem rt_no (ha : PT X a (tT G (toB (wpE Sg ia)))) : PT X (.UnaryOp .Not a pos) (tT G (toB (wpE Sg (.no ia)))) := by
  refine pt_imp (pt_not ha) fun σ H Q ⟨P, st, F, Qd, R, hq, k⟩ => ?_
  refine ⟨P, st, F, fun c st1 => ∃ b, D.bl (!c) = .bl b ∧ Qd b st1, R, hq, fun c st1 H1 F1 q1 R1 s1 => ?_⟩
  obtain ⟨b, e, q1⟩ := q1
  cases e
  exact k _ st1 H1 F1 q1 R1 s1
theorem rt_val (ha : PE X e (tE G (wpE Sg ia))) (he : ∀ whole, isTrue e X.env whole = (do let v ← whole; standAt e.pos; holding [v] (truthy v))) : PT X e (tT G (toB (wpE Sg ia))) :=
  pt_imp (pt_val ha he) fun σ H Q q => toT (fun _ _ _ h => h) σ H Q q
theorem r_ite (hc : PT X c (tT G (toB (wpE Sg ic)))) (ha : PE X a (tE G (wpE Sg ia))) (hb : PE X b (tE G (wpE Sg ib))) : PE X (.IfExp c a b pos) (tE G (wpE Sg (.ite ic ia ib))) := by
  refine pe_imp (pe_ifExp hc (pe_D ha) (pe_D hb)) fun σ H Q ⟨P, st, F, Qd, R, hq, k⟩ => ?_
  refine ⟨P, st, F, fun c st1 => if c = true then wpE Sg ia st1 fun y st2 => Qd (.d y.dat) st2 else wpE Sg ib st1 fun y st2 => Qd (.d y.dat) st2, R, hq, fun c st1 H1 F1 q1 R1 s1 => ?_⟩
  cases c with
  | true =>
    rw [if_pos rfl] at q1 ⊢
    exact ⟨P, st1, F1, fun y st2 => Qd (.d y) st2, R1, q1, fun y st2 w H2 F2 q2 R2 d2 s2 => k (.d y) st2 w H2 F2 q2 R2 d2 (s1.trans s2)⟩
  | false =>
    rw [if_neg Bool.false_ne_true] at q1 ⊢
    exact ⟨P, st1, F1, fun y st2 => Qd (.d y) st2, R1, q1, fun y st2 w H2 F2 q2 R2 d2 s2 => k (.d y) st2 w H2 F2 q2 R2 d2 (s1.trans s2)⟩


theorem ra_nil : PA X [] (tA G 0 (wpEs Sg .nil)) := pa_imp pa_nil fun σ H Q ⟨P, st, F, Qd, R, hq, k⟩ => k [] st [] H F hq rfl R .nil Stp.refl
theorem ra_cons {n : Nat} (ha : PE X e (tE G (wpE Sg ia))) (hr : PA X es (tA G n (wpEs Sg ias))) (hs : starEach (e :: es) X.env = (false, eval e X.env) :: starEach es X.env) : PA X (e :: es) (tA G (n + 1) (wpEs Sg (.cons ia ias))) := by
  refine pa_imp (pa_cons (pe_D ha) hr hs) fun σ H Q ⟨P, st, F, Qd, R, hq, k⟩ => ?_
  refine ⟨P, st, F, fun x st1 => wpEs Sg ias st1 fun xs st2 => Qd (x :: xs) st2, R, hq, fun x st1 v H1 F1 q1 R1 d1 s1 => ?_⟩
  exact ⟨P, st1, F1, fun xs st2 => Qd (x :: xs) st2, R1, q1, fun xs st2 vs H2 F2 q2 hn R2 d2 s2 => k (x :: xs) st2 (v :: vs) H2 F2 q2 (by rw [List.length_cons, hn]) R2 (.cons (d1.mono s2.f) d2) (s1.trans s2)⟩
/-- arguments, then something with their values -/
theorem args_imp {w : WV} {n : Nat} {r : List V → Hp → VK → Prop} (hw : ∀ st Q, w st Q → ∃ Q2 : List D → DS → Prop, wpEs Sg ias st Q2 ∧
      ∀ P xs st2 σ vs H2 F2 K, Q2 xs st2 → xs.length = n → Rel G P st2 σ H2 F2 → Dats G.K G.ca F2 xs vs →
        (∀ r v H' F', Q r st2 → Rel G P st2 σ H' F' → VOk G P st2 σ H' F' r v → Stp G H2 F2 H' F' → K v H') → r vs H2 K)
    (σ : L2.St) (H : Hp) (Q : VK) (h : tE G w σ H Q) : tA G n (wpEs Sg ias) σ H fun xs H1 => r xs H1 Q := by
  obtain ⟨P, st, F, Qd, R, hq, k⟩ := h
  obtain ⟨Q2, h2, hk⟩ := hw st Qd hq
  exact ⟨P, st, F, Q2, R, h2, fun x st1 v H1 F1 q1 hn R1 d1 s1 => hk P x st1 σ v H1 F1 Q q1 hn R1 d1 fun r v' H' F' qr R' o' s' => k r st1 v' H' F' qr R' o' (s1.trans s')⟩
theorem r_tup {j n : Nat} (hl : n ≤ 1000) (h : PA X es (tA G n (wpEs Sg ias))) : PE X (.Tuple es j pos) (tE G (wpE Sg (.tup ias))) := by
  refine pe_imp (pe_tup h) (args_imp (r := fun xs H1 Q => xs.length ≤ sizeLine ∧ ∀ p, H1 p = none → Q (.ref p) (upd H1 p (.tup xs))) fun st Q h => ⟨fun xs st1 => Q (.d (.tup xs)) st1, h, ?_⟩)
  intro P xs st2 σ vs H2 F2 K q hn R d k
  exact ⟨by rw [← d.len]; exact sz (by omega), fun p hp => out_t R k q d hp⟩
theorem r_lst {n : Nat} (hl : n ≤ 1000) (h : PA X es (tA G n (wpEs Sg ias))) : PE X (.List es pos) (tE G (wpE Sg (.lst ias))) := by
  refine pe_imp (pe_lst h) (args_imp (r := fun xs H1 Q => xs.length ≤ sizeLine ∧ ∀ p, H1 p = none → Q (.ref p) (upd H1 p (.lst xs))) fun st Q h => ⟨fun xs st1 => Q (.own xs) st1, h, ?_⟩)
  intro P xs st2 σ vs H2 F2 K q hn R d k
  exact ⟨by rw [← d.len]; exact sz (by omega), fun p hp => out_l R k q d hp⟩


def rIxA (K : PySem.W.Frag) : R2 := fun x y H Q => rIxL K x y H Q ∨ rIxT K x y H Q
theorem ixA : IxR X (rIxA X.K) := fun value slice pins s σ H x y v u Q I rx ry q hs => q.elim (fun q => ix_list value slice pins s σ H x y v u Q I rx ry q hs) fun q => ix_tup value slice pins s σ H x y v u Q I rx ry q hs
theorem atI_dat {K : PySem.W.Frag} {ca : Option Addr} {F : Hp} {xs : List D} {vs : List V} {j : Int} {z : D} (d : Dats K ca F xs vs) (h : atI xs j = some z) : ∃ v, atI vs j = some v ∧ Dat K ca F z v := by
  unfold atI at h ⊢
  rw [← d.len]
  cases e : ixN xs.length j with
  | none =>
    rw [e] at h
    cases h
  | some m =>
    rw [e] at h
    exact d.get (i := m) h
theorem atI_int {ns : List Int} {j z : Int} (h : atI ns j = some z) : atI (ns.map V.int) j = some (.int z) := by
  unfold atI at h ⊢
  rw [List.length_map]
  cases e : ixN ns.length j with
  | none =>
    rw [e] at h
    cases h
  | some m =>
    rw [e] at h
    have h' : ns[m]? = some z := h
    show (ns.map V.int)[m]? = some (.int z)
    rw [List.getElem?_map, h'] <;> rfl
theorem r_ix (hK : X.K = G.K) (hs : PlainIx b) (ha : PE X a (tE G (wpE Sg ia))) (hb : PE X b (tE G (wpE Sg ib))) : PE X (.Subscript a b pos) (tE G (wpE Sg (.ix ia ib))) := by
  refine pe_imp (pe_ix ixA (pe_D ha) (pe_D hb) hs) (bin_imp fun st Q h => ⟨fun x y st2 => ∃ xs j z, x.items = some xs ∧ y = .int j ∧ atI xs j = some z ∧ Q (.d z) st2, h, ?_⟩)
  intro P x y st2 σ vx vy H2 F2 K q R dx dy k
  obtain ⟨xs, j, z, e1, rfl, e3, q⟩ := q
  cases dy
  rw [hK]
  obtain ⟨a1, vs, rfl, h1, d1⟩ := dx.hd e1
  obtain ⟨w, h2, d2⟩ := atI_dat d1 e3
  rcases h1 with h1 | h1
  · exact .inl ⟨a1, vs, j, w, rfl, rfl, R.g.l h1, h2, out_d R k q d2⟩
  · exact .inr ⟨a1, vs, j, w, rfl, rfl, R.g.t h1, h2, out_d R k q d2⟩
/-- x[i], x a slot, which is not frozen by it -/
theorem SlOk.set {s : Sl} {H F : Hp} {o : Option (Option V)} (h : SlOk G H F s o) (hs : s.isSet) : ∃ v, o = some (some v) := by
  cases s with
  | un => exact hs.elim
  | d x => obtain ⟨v, e, _⟩ := h; exact ⟨v, e⟩
  | own xs => obtain ⟨p, vs, e, _⟩ := h; exact ⟨_, e⟩
  | dk ks => obtain ⟨p, e, _⟩ := h; exact ⟨_, e⟩
  | tp xs => obtain ⟨p, vs, e, _⟩ := h; exact ⟨_, e⟩
theorem r_ixv {i : Nat} {x : Str} {px : Pos} (hK : X.K = G.K) (hN : X.N[i]? = some x) (hv : Vis X.env.scope x) (hd : (x == ("__debug__" : Str)) = false) (hcd : (x == ("__classdict__" : Str)) = false) (hs : PlainIx b) (hb : PE X b (tE G (wpE Sg ib))) :
    PE X (.Subscript (.Name x px) b pos) (tE G (wpE Sg (.ixv i ib))) := by
  refine pe_imp (pe_ix ixA (pe_var hN hv hd hcd) (pe_D hb) hs) fun σ H Q ⟨P, st, F, Qd, R, ⟨⟨s, e0, hset⟩, hq⟩, k⟩ => ?_
  obtain ⟨v, ev⟩ := (R.slot i s e0).set hset
  refine ⟨v, ev, P, st, F, fun y st1 => ∃ j, y = .int j ∧ match st1.env[i]? with
      | some (.d .cell) => ∃ z, atI st1.cel j = some z ∧ Qd (.d (.int z)) st1
      | some (.d y) => ∃ xs z, y.items = some xs ∧ atI xs j = some z ∧ Qd (.d z) st1
      | some (.own xs) => ∃ z, atI xs j = some z ∧ Qd (.d z) st1
      | some (.tp xs) => ∃ z, atI xs j = some z ∧ Qd (.d z) st1
      | _ => False, R, hq, fun y st1 u H1 F1 q1 R1 d0 s1 => ?_⟩
  obtain ⟨j, rfl, h⟩ := q1
  cases d0
  have same : ∀ {w : V}, σ[i]? = some (some w) → w = v := fun {w} e => by
    rw [ev] at e
    cases e
    rfl
  rw [hK]
  split at h
  · rename_i e
    obtain ⟨v', e1, d⟩ := R1.slot i _ e
    have e1' := same e1
    subst e1'
    obtain ⟨z, e2, q⟩ := h
    cases d with
    | cell hc =>
      obtain ⟨h1, _⟩ := R1.g.cell _ hc
      exact .inl ⟨_, _, j, _, rfl, rfl, Evl.sq_of h1, atI_int e2, k (.d (.int z)) st1 _ H1 F1 q R1 (.int z) s1⟩
  · rename_i y _ e
    obtain ⟨v', e1, d⟩ := R1.slot i _ e
    have e1' := same e1
    subst e1'
    obtain ⟨xs, z, e2, e3, q⟩ := h
    obtain ⟨a1, vs, rfl, h1, d1⟩ := d.hd e2
    obtain ⟨w, h2, d2⟩ := atI_dat d1 e3
    rcases h1 with h1 | h1
    · exact .inl ⟨a1, vs, j, w, rfl, rfl, R1.g.l h1, h2, k (.d z) st1 _ H1 F1 q R1 d2 s1⟩
    · exact .inr ⟨a1, vs, j, w, rfl, rfl, R1.g.t h1, h2, k (.d z) st1 _ H1 F1 q R1 d2 s1⟩
  · rename_i xs e
    obtain ⟨p, vs, e1, w, hp, d⟩ := R1.slot i _ e
    have e1' := same e1
    subst e1'
    obtain ⟨z, e3, q⟩ := h
    obtain ⟨u, h2, d2⟩ := atI_dat d e3
    exact .inl ⟨p, vs, j, u, rfl, rfl, Evl.sq_of hp, h2, k (.d z) st1 _ H1 F1 q R1 d2 s1⟩
  · rename_i xs e
    obtain ⟨p, vs, e1, hp, d⟩ := R1.slot i _ e
    have e1' := same e1
    subst e1'
    obtain ⟨z, e3, q⟩ := h
    obtain ⟨u, h2, d2⟩ := atI_dat d e3
    exact .inr ⟨p, vs, j, u, rfl, rfl, R1.g.t (Evl.st_of hp), h2, k (.d z) st1 _ H1 F1 q R1 d2 s1⟩
  · exact h.elim


def tO (G : En) (w : DS → (Option Int → DS → Prop) → Prop) : TO := fun σ H Q => ∃ P st F Qd, Rel G P st σ H F ∧ w st Qd ∧ ∀ o st' H' F', Qd o st' → Rel G P st' σ H' F' → Stp G H F H' F' → Q o H'
theorem po_imp {o : Option Expr} {t u : TO} (h : PO X o t) (k : ∀ σ H Q, u σ H Q → t σ H Q) : PO X o u := ⟨fun pins s σ H Q I q => h.run pins s σ H Q I (k σ H Q q)⟩
theorem ro_no : PO X none (tO G (wpO Sg .no)) := po_imp po_none fun σ H Q ⟨P, st, F, Qd, R, hq, k⟩ => k none st H F hq R Stp.refl
theorem ro_yes (h : PE X e (tE G (wpE Sg ia))) : PO X (some e) (tO G (wpO Sg (.yes ia))) := po_imp (po_some (pe_D h)) fun σ H Q ⟨P, st, F, Qd, R, hq, k⟩ =>
  ⟨P, st, F, fun x st1 => ∃ i, x = .int i ∧ Qd (some i) st1, R, hq, fun x st1 v H1 F1 q1 R1 d1 s1 => by
    obtain ⟨i, rfl, q⟩ := q1
    cases d1
    exact ⟨i, rfl, k (some i) st1 H1 F1 q R1 s1⟩⟩
theorem SlR_or {r r' : V → Option Int → Option Int → Hp → VK → Prop} (h : SlR X r) (h' : SlR X r') : SlR X (fun x lo hi H Q => r x lo hi H Q ∨ r' x lo hi H Q) := h.or h'
theorem Dats.cut {K : PySem.W.Frag} {ca : Option Addr} {F : Hp} {xs : List D} {vs : List V} (lo hi : Option Int) (d : Dats K ca F xs vs) : Dats K ca F (cutD xs lo hi) (cutV vs lo hi) := by
  unfold cutD cutV
  rw [d.len]
  exact (d.drop _).take _
theorem cut_all {α : Type} {vs : List α} {n : Nat} (hn : n = vs.length) {lo hi : Option Int} (h : HT.sIx n 0 lo = 0 ∧ HT.sIx n n hi = n) : (vs.drop (HT.sIx n 0 lo)).take (HT.sIx n n hi - HT.sIx n 0 lo) = vs := by
  rw [h.1, h.2, List.drop_zero, Nat.sub_zero, hn, List.take_length]
theorem r_sl {lo hi : Option Expr} {il ih : Eo} {p2 : Pos} (hK : X.K = G.K) (ha : PE X a (tE G (wpE Sg ia))) (hl : PO X lo (tO G (wpO Sg il))) (hh : PO X hi (tO G (wpO Sg ih))) : PE X (.Subscript a (.Slice lo hi none p2) pos) (tE G (wpE Sg (.sl ia il ih))) := by
  refine pe_imp (pe_slice (SlR_or sl_list sl_tupA) (pe_D ha) hl hh) fun σ H Q ⟨P, st, F, Qd, R, hq, k⟩ => ?_
  refine ⟨P, st, F, fun x st1 => wpO Sg il st1 fun l st2 => wpO Sg ih st2 fun h st3 => match x with
    | .tup xs => Qd (.d (.tup (cutD xs l h))) st3
    | .lst xs => Qd (.own (cutD xs l h)) st3
    | .scr ns => Qd (.own (cutD (ns.map D.int) l h)) st3
    | _ => False, R, hq, fun x st1 v H1 F1 q1 R1 d1 s1 => ?_⟩
  refine ⟨P, st1, F1, _, R1, q1, fun l st2 H2 F2 q2 R2 s2 => ⟨P, st2, F2, _, R2, q2, fun h st3 H3 F3 q3 R3 s3 => ?_⟩⟩
  have d3 := (d1.mono s2.f).mono s3.f
  have S := (s1.trans s2).trans s3
  rw [hK]
  split at q3
  · obtain ⟨a1, vs, rfl, h1, dd⟩ := d3.tup_iff
    refine .inr ⟨a1, vs, rfl, R3.g.t h1, fun e => ?_, fun _ p hp => out_t R3 (fun r v H' F' q R' o s => k r st3 v H' F' q R' o (S.trans s)) q3 (dd.cut l h) hp⟩
    rw [← dd.len] at e
    have e2 : cutD _ l h = _ := cut_all rfl e
    rw [e2] at q3
    exact k (.d (.tup _)) st3 _ H3 F3 q3 R3 d3 S
  · obtain ⟨a1, vs, rfl, h1, dd⟩ := d3.lst_iff
    exact .inl ⟨a1, vs, rfl, R3.g.l (Evl.sq_of h1), fun p hp => out_l R3 (fun r v H' F' q R' o s => k r st3 v H' F' q R' o (S.trans s)) q3 (dd.cut l h) hp⟩
  · rename_i ns
    cases d3 with
    | scr h1 => exact .inl ⟨_, _, rfl, R3.g.l h1, fun p hp => out_l R3 (fun r v H' F' q R' o s => k r st3 v H' F' q R' o (S.trans s)) q3 ((Dats.ofInts ns).cut l h) hp⟩
  · exact q3.elim


/-- a built-in by its reading -/
theorem r_fn {f : Bi} {n : Nat} {r : List V → Hp → VK → Prop} (hp : PE X e (tCB r (tA G n (wpEs Sg ias)))) (hr : ∀ P xs st σ vs H F K (Q : Vl → DS → Prop), biD f xs (fun z => Q z st) → Rel G P st σ H F → Dats G.K G.ca F xs vs →
      (∀ r v H' F', Q r st → Rel G P st σ H' F' → VOk G P st σ H' F' r v → Stp G H F H' F' → K v H') → r vs H K) : PE X e (tE G (wpE Sg (.bi f ias))) := by
  refine pe_imp hp (args_imp fun st Q h => ⟨fun xs st1 => biD f xs fun z => Q z st1, h, ?_⟩)
  intro P xs st2 σ vs H2 F2 K q hn R d k
  exact hr P xs st2 σ vs H2 F2 K Q q R d k
theorem ds1 {K : PySem.W.Frag} {ca : Option Addr} {F : Hp} {x : D} {vs : List V} (d : Dats K ca F [x] vs) : ∃ v, vs = [v] ∧ Dat K ca F x v := by
  cases d with
  | cons a b =>
    cases b
    exact ⟨_, rfl, a⟩
theorem ds2 {K : PySem.W.Frag} {ca : Option Addr} {F : Hp} {x y : D} {vs : List V} (d : Dats K ca F [x, y] vs) : ∃ v u, vs = [v, u] ∧ Dat K ca F x v ∧ Dat K ca F y u := by
  cases d with
  | cons a b =>
    obtain ⟨u, rfl, c⟩ := ds1 b
    exact ⟨_, u, rfl, a, c⟩
abbrev Args1 (X : Cx) (G : En) (Sg : Tab) (ias : Es) (e : Expr) (n : Nat) : Prop := PA X [e] (tA G n (wpEs Sg ias)) ∧ starEach [e] X.env = (false, eval e X.env) :: starEach [] X.env
section
variable {n : Nat} {p : Pos}
theorem r_len (hK : X.K = G.K) (hg : Gl X "len") (hm : X.mg "len" = none) (h : PA X (e :: es) (tA G n (wpEs Sg ias))) (he : starEach (e :: es) X.env = (false, eval e X.env) :: starEach es X.env) (hpl : (backTo pos (starEach es X.env)).any (·.1) = false) :
    PE X (.Call (.Name "len" p) (e :: es) [] pos) (tE G (wpE Sg (.bi .len ias))) := by
  refine r_fn (pe_callB call_len_seq hg hm boot_len h (by decide) (by decide) he hpl) fun P xs st σ vs H F K Q q R d k => ?_
  obtain ⟨x, ys, rfl, e1, q⟩ := q
  obtain ⟨v, rfl, g⟩ := ds1 d
  obtain ⟨a, us, rfl, h1, dd⟩ := g.hd e1
  rw [hK]
  refine ⟨a, us, rfl, h1.imp R.g.l R.g.t, ?_⟩
  rw [← dd.len]
  exact out_d R k q (.int _)
theorem r_abs (hg : Gl X "abs") (hm : X.mg "abs" = none) (h : PA X (e :: es) (tA G n (wpEs Sg ias))) (he : starEach (e :: es) X.env = (false, eval e X.env) :: starEach es X.env) (hpl : (backTo pos (starEach es X.env)).any (·.1) = false) :
    PE X (.Call (.Name "abs" p) (e :: es) [] pos) (tE G (wpE Sg (.bi .abs ias))) := by
  refine r_fn (pe_callB call_abs hg hm (by decide +kernel) h (by decide) (by decide) he hpl) fun P xs st σ vs H F K Q q R d k => ?_
  obtain ⟨i, rfl, q⟩ := q
  obtain ⟨v, rfl, g⟩ := ds1 d
  cases g
  exact ⟨i, rfl, out_d R k q (.int _)⟩
theorem r_int (hg : Gl X "int") (hm : X.mg "int" = none) (h : PA X (e :: es) (tA G n (wpEs Sg ias))) (he : starEach (e :: es) X.env = (false, eval e X.env) :: starEach es X.env) (hpl : (backTo pos (starEach es X.env)).any (·.1) = false) :
    PE X (.Call (.Name "int" p) (e :: es) [] pos) (tE G (wpE Sg (.bi .int ias))) := by
  refine r_fn (pe_callTy call_int1 hg hm (by decide +kernel) h (by decide) (by decide) he hpl) fun P xs st σ vs H F K Q q R d k => ?_
  obtain ⟨i, rfl, q⟩ := q
  obtain ⟨v, rfl, g⟩ := ds1 d
  cases g
  exact .inl ⟨i, rfl, out_d R k q (.int _)⟩
theorem r_max (hK : X.K = G.K) (hc : X.calm = true) (hg : Gl X "max") (hm : X.mg "max" = none) (h : PA X (e :: es) (tA G n (wpEs Sg ias))) (he : starEach (e :: es) X.env = (false, eval e X.env) :: starEach es X.env) (hpl : (backTo pos (starEach es X.env)).any (·.1) = false) :
    PE X (.Call (.Name "max" p) (e :: es) [] pos) (tE G (wpE Sg (.bi .max ias))) := by
  refine r_fn (pe_callB (CallR.or (call_max2 hc) (cr_max hc)) hg hm (by decide +kernel) h (by decide) (by decide) he hpl) fun P xs st σ vs H F K Q q R d k => ?_
  rcases q with ⟨i, j, rfl, q⟩ | ⟨ns, rfl, m, h1, h2, q⟩
  · obtain ⟨v, u, rfl, g, g2⟩ := ds2 d
    cases g
    cases g2
    exact .inl ⟨i, j, rfl, out_d R k q (.int _)⟩
  · obtain ⟨v, rfl, g⟩ := ds1 d
    obtain ⟨a, us, rfl, hl, dd⟩ := g.lst_iff
    have e2 := dd.ints
    subst e2
    rw [hK]
    refine .inr ⟨a, ns, rfl, R.g.l (Evl.sq_of hl), List.length_pos_of_mem h1, fun m' g1 g2 => ?_⟩
    have e3 : m' = m := Int.le_antisymm (h2 m' g1) (g2 m h1)
    rw [e3]
    exact out_d R k q (.int _)
theorem r_min (hc : X.calm = true) (hg : Gl X "min") (hm : X.mg "min" = none) (h : PA X (e :: es) (tA G n (wpEs Sg ias))) (he : starEach (e :: es) X.env = (false, eval e X.env) :: starEach es X.env) (hpl : (backTo pos (starEach es X.env)).any (·.1) = false) :
    PE X (.Call (.Name "min" p) (e :: es) [] pos) (tE G (wpE Sg (.bi .min ias))) := by
  refine r_fn (pe_callB (call_min2 hc) hg hm (by decide +kernel) h (by decide) (by decide) he hpl) fun P xs st σ vs H F K Q q R d k => ?_
  obtain ⟨i, j, rfl, q⟩ := q
  obtain ⟨v, u, rfl, g, g2⟩ := ds2 d
  cases g
  cases g2
  exact ⟨i, j, rfl, out_d R k q (.int _)⟩
theorem r_sum (hK : X.K = G.K) (hc : X.calm = true) (hg : Gl X "sum") (hm : X.mg "sum" = none) (h : PA X (e :: es) (tA G n (wpEs Sg ias))) (he : starEach (e :: es) X.env = (false, eval e X.env) :: starEach es X.env) (hpl : (backTo pos (starEach es X.env)).any (·.1) = false) :
    PE X (.Call (.Name "sum" p) (e :: es) [] pos) (tE G (wpE Sg (.bi .sum ias))) := by
  refine r_fn (pe_callB (cr_sum hc) hg hm (by decide +kernel) h (by decide) (by decide) he hpl) fun P xs st σ vs H F K Q q R d k => ?_
  obtain ⟨ns, rfl, q⟩ := q
  obtain ⟨v, rfl, g⟩ := ds1 d
  obtain ⟨a, us, rfl, hl, dd⟩ := g.lst_iff
  have e2 := dd.ints
  subst e2
  rw [hK]
  exact ⟨a, ns, rfl, R.g.l (Evl.sq_of hl), out_d R k q (.int _)⟩
theorem r_list (hK : X.K = G.K) (hg : Gl X "list") (hm : X.mg "list" = none) (h : PA X (e :: es) (tA G n (wpEs Sg ias))) (he : starEach (e :: es) X.env = (false, eval e X.env) :: starEach es X.env) (hpl : (backTo pos (starEach es X.env)).any (·.1) = false) :
    PE X (.Call (.Name "list" p) (e :: es) [] pos) (tE G (wpE Sg (.bi .list ias))) := by
  refine r_fn (pe_callTy call_list_of hg hm (by decide +kernel) h (by decide) (by decide) he hpl) fun P xs st σ vs H F K Q q R d k => ?_
  obtain ⟨x, ys, rfl, e1, q⟩ := q
  obtain ⟨v, rfl, g⟩ := ds1 d
  obtain ⟨a, us, rfl, h1, dd⟩ := g.hd e1
  rw [hK]
  exact ⟨a, us, rfl, h1.imp R.g.l R.g.t, fun l hl => out_l R k q dd hl⟩
theorem r_tuple (hK : X.K = G.K) (hg : Gl X "tuple") (hm : X.mg "tuple" = none) (h : PA X (e :: es) (tA G n (wpEs Sg ias))) (he : starEach (e :: es) X.env = (false, eval e X.env) :: starEach es X.env) (hpl : (backTo pos (starEach es X.env)).any (·.1) = false) :
    PE X (.Call (.Name "tuple" p) (e :: es) [] pos) (tE G (wpE Sg (.bi .tuple ias))) := by
  refine r_fn (pe_callTy call_tuple_of hg hm (by decide +kernel) h (by decide) (by decide) he hpl) fun P xs st σ vs H F K Q q R d k => ?_
  obtain ⟨x, ys, rfl, e1, q⟩ := q
  obtain ⟨v, rfl, g⟩ := ds1 d
  obtain ⟨a, us, rfl, h1, dd⟩ := g.hd e1
  rw [hK]
  refine ⟨a, us, rfl, ?_⟩
  rcases h1 with h1 | h1
  · exact .inl ⟨R.g.l h1, fun l hl => out_t R k q dd hl⟩
  · exact .inr ⟨R.g.t h1, out_d R k q (.tup h1 dd)⟩
end
end
end DL
end
section
namespace DL
open PySem PySem.Spec PyProof.Rows L2

/-- J walks the data xs, read in F -/
structure ItOk (G : En) (xs : List D) (F : Hp) (J : It) : Prop where
  stop : ∀ (i : Nat) (P : Addr → Prop) (st : DS) (σ : L2.St) (H F1 : Hp), Evl.Ex F F1 → Rel G P st σ H F1 → xs.length ≤ i → J.stop i H
  go : ∀ (i : Nat) (x : D) (P : Addr → Prop) (st : DS) (σ : L2.St) (H F1 : Hp), Evl.Ex F F1 → Rel G P st σ H F1 → xs[i]? = some x → J.go i H
  yld : ∀ (i : Nat) (x : D) (P : Addr → Prop) (st : DS) (σ : L2.St) (H F1 : Hp) (v : V) (H' : Hp), Evl.Ex F F1 → Rel G P st σ H F1 → xs[i]? = some x → J.yld i H v H' → ∃ F2, Rel G P st σ H' F2 ∧ Dat G.K G.ca F2 x v ∧ Stp G H F1 H' F2
def tI (G : En) (w : DS → (List D → DS → Prop) → Prop) : TI := fun σ H R => ∃ P st F Qd, Rel G P st σ H F ∧ w st Qd ∧
  ∀ xs st' H' F' J, Qd xs st' → Rel G P st' σ H' F' → ItOk G xs F' J → Stp G H F H' F' → R J H'
section
variable {X : Cx} {G : En} {Sg : Tab} {a b c e tg : Expr} {ia ib ic : E} {es : List Expr} {ias : Es} {pos : Pos}
theorem pi_imp {t u : TI} (h : PI X tg e t) (k : ∀ σ H Q, u σ H Q → t σ H Q) : PI X tg e u := ⟨fun pins s σ H Q I q => h.run pins s σ H Q I (k σ H Q q)⟩
def iSeq (K : PySem.W.Frag) (tl : TE) : TI := fun σ H R => tl σ H fun x H1 => ∃ a, x = .ref a ∧ (((∃ xs, SqL K H1 a xs) ∧ R (Itl K a) H1) ∨ ((∃ xs, SqT K H1 a xs) ∧ R (Itt K a) H1))
theorem pi_seq {l : Expr} {tl : TE} (hl : PE X l tl) : PI X tg l (iSeq X.K tl) := by
  constructor
  intro pins s σ H R I h
  refine thn (hl.run pins s σ H _ I h) fun v s1 hh => ?_
  obtain ⟨x, H1, J, rx, a, rfl, q⟩ := hh
  cases rx
  have fp : ∀ b ∈ [s1.heap.objs.size], FpOk X pins H1 b := fun b hb => by
    rw [List.mem_singleton.mp hb]
    exact J.fpOk (Nat.le_refl _) (J.hok.fresh (Nat.le_refl _))
  rcases q with ⟨⟨xs, hq⟩, q⟩ | ⟨⟨xs, hq⟩, q⟩
  · obtain ⟨its, rv, p, _⟩ := J.list hq
    refine wpAny_pyIter_list p.isList ⟨s1.heap.objs.size, [s1.heap.objs.size], _, _, H1, rfl, J.kept (t' := s1.toks) fun b o z => Heap.get?_push_of_some _ z, turn_list a _, ?_, fp, q⟩
    exact ⟨_, Heap.get?_push_size _ rfl, rfl, rfl⟩
  · obtain ⟨its, rv, p, _⟩ := J.tuple hq
    refine wpAny_pyIter_tuple (show s1.heap.IsTuple a its.toArray from p) ⟨s1.heap.objs.size, [s1.heap.objs.size], _, _, H1, rfl, J.kept (t' := s1.toks) fun b o z => Heap.get?_push_of_some _ z, turn_tuple a _, ?_, fp, q⟩
    exact ⟨_, Heap.get?_push_size _ rfl, rfl, rfl⟩
theorem it_list {xs : List D} {F : Hp} {p : Addr} {vs : List V} (hs : SqL G.K F p vs) (d : Dats G.K G.ca F xs vs) : ItOk G xs F (Itl G.K p) where
  stop := fun i P st σ H F1 ex R h => ⟨vs, R.g.l (Evl.ex_l ex hs), by rw [← d.len]; exact h⟩
  go := fun i x P st σ H F1 ex R h => by
    obtain ⟨v, e, _⟩ := d.get h
    exact ⟨vs, v, R.g.l (Evl.ex_l ex hs), e⟩
  yld := fun i x P st σ H F1 v H' ex R h y => by
    obtain ⟨rfl, y⟩ := y
    obtain ⟨u, e, du⟩ := d.get h
    have e2 := y vs (R.g.l (Evl.ex_l ex hs))
    rw [e] at e2
    cases e2
    exact ⟨F1, R, du.mono ex, Stp.refl⟩
theorem it_tup {xs : List D} {F : Hp} {p : Addr} {vs : List V} (hs : SqT G.K F p vs) (d : Dats G.K G.ca F xs vs) : ItOk G xs F (Itt G.K p) where
  stop := fun i P st σ H F1 ex R h => ⟨vs, R.g.t (Evl.ex_t ex hs), by rw [← d.len]; exact h⟩
  go := fun i x P st σ H F1 ex R h => by
    obtain ⟨v, e, _⟩ := d.get h
    exact ⟨vs, v, R.g.t (Evl.ex_t ex hs), e⟩
  yld := fun i x P st σ H F1 v H' ex R h y => by
    obtain ⟨rfl, y⟩ := y
    obtain ⟨u, e, du⟩ := d.get h
    have e2 := y vs (R.g.t (Evl.ex_t ex hs))
    rw [e] at e2
    cases e2
    exact ⟨F1, R, du.mono ex, Stp.refl⟩
theorem ri_it (hK : X.K = G.K) (ha : PE X a (tE G (wpE Sg ia))) : PI X tg a (tI G (wpI Sg (.it ia))) := by
  refine pi_imp (pi_seq (pe_D ha)) fun σ H Q ⟨P, st, F, Qd, R, hq, k⟩ => ?_
  refine ⟨P, st, F, fun x st1 => ∃ xs, x.items = some xs ∧ Qd xs st1, R, hq, fun x st1 v H1 F1 q1 R1 d1 s1 => ?_⟩
  obtain ⟨xs, e, q⟩ := q1
  obtain ⟨p, vs, rfl, h1, d2⟩ := d1.hd e
  rw [hK]
  refine ⟨p, rfl, ?_⟩
  rcases h1 with h1 | h1
  · exact .inl ⟨⟨vs, R1.g.l h1⟩, k xs st1 H1 F1 _ q R1 (it_list h1 d2) s1⟩
  · exact .inr ⟨⟨vs, R1.g.t h1⟩, k xs st1 H1 F1 _ q R1 (it_tup h1 d2) s1⟩
theorem rng_get {lo c : Int} {n i : Nat} {x : D} (h : (rngD lo c n)[i]? = some x) : i < n ∧ x = .int (lo + (i : Int) * c) := by
  unfold rngD at h
  rw [List.getElem?_map] at h
  cases e : (List.range n)[i]? with
  | none =>
    rw [e] at h
    cases h
  | some m =>
    rw [e] at h
    obtain ⟨h1, h2⟩ := List.getElem?_eq_some_iff.mp e
    rw [List.getElem_range] at h2
    rw [List.length_range] at h1
    subst h2
    exact ⟨h1, (Option.some.inj h).symm⟩
theorem rng_len (lo c : Int) (n : Nat) : (rngD lo c n).length = n := by
  unfold rngD
  rw [List.length_map, List.length_range]
theorem it_rng {F : Hp} (lo : Int) (n : Nat) : ItOk G (rngD lo 1 n) F (Itr lo n) where
  stop := fun i P st σ H F1 ex R h => by
    rw [rng_len] at h
    exact h
  go := fun i x P st σ H F1 ex R h => (rng_get h).1
  yld := fun i x P st σ H F1 v H' ex R h y => by
    obtain ⟨rfl, rfl⟩ := y
    obtain ⟨_, rfl⟩ := rng_get h
    rw [Int.mul_one]
    exact ⟨F1, R, .int _, Stp.refl⟩
theorem it_rngC {F : Hp} (lo c : Int) (n : Nat) : ItOk G (rngD lo c n) F (Itc lo c n) where
  stop := fun i P st σ H F1 ex R h => by
    rw [rng_len] at h
    exact h
  go := fun i x P st σ H F1 ex R h => (rng_get h).1
  yld := fun i x P st σ H F1 v H' ex R h y => by
    obtain ⟨rfl, rfl⟩ := y
    obtain ⟨_, rfl⟩ := rng_get h
    exact ⟨F1, R, .int _, Stp.refl⟩
theorem noStar1 (h : starEach [e] X.env = (false, eval e X.env) :: starEach [] X.env) : starEach [e] X.env = [(false, eval e X.env)] := h
theorem ri_r1 {p : Pos} (hg : Gl X "range") (hm : X.mg "range" = none) (ha : PE X a (tE G (wpE Sg ia))) (hs : starEach [a] X.env = [(false, eval a X.env)]) : PI X tg (.Call (.Name "range" p) [a] [] pos) (tI G (wpI Sg (.r1 ia))) := by
  refine pi_imp (pi_range1 hg hm (ra_cons ha ra_nil hs) hs) fun σ H Q ⟨P, st, F, Qd, R, hq, k⟩ => ?_
  refine ⟨P, st, F, fun xs st1 => ∃ j, xs = [.int j] ∧ rngOk 0 j ∧ Qd (rngD 0 1 j.toNat) st1, R, ?_, fun xs st1 vs H1 F1 q1 hn R1 d1 s1 => ?_⟩
  · have hq' : wpE Sg ia st fun x st1 => ∃ j, x.dat = .int j ∧ rngOk 0 j ∧ Qd (rngD 0 1 j.toNat) st1 := hq
    show wpE Sg ia st fun x st1 => ∃ j, [x.dat] = [.int j] ∧ rngOk 0 j ∧ Qd (rngD 0 1 j.toNat) st1
    have e : (fun (x : Vl) (st1 : DS) => ∃ j, [x.dat] = [D.int j] ∧ rngOk 0 j ∧ Qd (rngD 0 1 j.toNat) st1) = fun x st1 => ∃ j, x.dat = .int j ∧ rngOk 0 j ∧ Qd (rngD 0 1 j.toNat) st1 := by
      funext x st1
      simp
    rw [e]
    exact hq'
  · obtain ⟨j, rfl, o, q⟩ := q1
    obtain ⟨v, rfl, g⟩ := ds1 d1
    cases g
    exact ⟨j, rfl, o.2.2.1, o.2.2.2, k _ st1 H1 F1 _ q R1 (it_rng 0 _) s1⟩
theorem ri_r2 {p : Pos} (hg : Gl X "range") (hm : X.mg "range" = none) (ha : PE X a (tE G (wpE Sg ia))) (hb : PE X b (tE G (wpE Sg ib))) (hs : starEach [a, b] X.env = (false, eval a X.env) :: starEach [b] X.env) (hs2 : starEach [b] X.env = [(false, eval b X.env)]) :
    PI X tg (.Call (.Name "range" p) [a, b] [] pos) (tI G (wpI Sg (.r2 ia ib))) := by
  refine pi_imp (pi_range2 hg hm (ra_cons ha (ra_cons hb ra_nil hs2) hs) (by rw [hs, hs2]) hs2) fun σ H Q ⟨P, st, F, Qd, R, hq, k⟩ => ?_
  refine ⟨P, st, F, fun xs st1 => ∃ x y, xs = [x, y] ∧ ∃ i j, x = .int i ∧ y = .int j ∧ rngOk i j ∧ Qd (rngD i 1 (j - i).toNat) st1, R, ?_, fun xs st1 vs H1 F1 q1 hn R1 d1 s1 => ?_⟩
  · have e : (fun (xs : List D) (st1 : DS) => ∃ x y, xs = [x, y] ∧ ∃ i j, x = .int i ∧ y = .int j ∧ rngOk i j ∧ Qd (rngD i 1 (j - i).toNat) st1) = fun xs st1 => ∃ i j, xs = [.int i, .int j] ∧ rngOk i j ∧ Qd (rngD i 1 (j - i).toNat) st1 := by
      funext xs st1
      apply propext
      constructor
      · rintro ⟨x, y, rfl, i, j, rfl, rfl, h⟩
        exact ⟨i, j, rfl, h⟩
      · rintro ⟨i, j, rfl, h⟩
        exact ⟨_, _, rfl, i, j, rfl, rfl, h⟩
    rw [e]
    show wpE Sg ia st fun x st1 => wpE Sg ib st1 fun y st2 => ∃ i j, [x.dat, y.dat] = [.int i, .int j] ∧ rngOk i j ∧ Qd (rngD i 1 (j - i).toNat) st2
    have e2 : (fun (x : Vl) (st1 : DS) => wpE Sg ib st1 fun y st2 => ∃ i j, [x.dat, y.dat] = [D.int i, .int j] ∧ rngOk i j ∧ Qd (rngD i 1 (j - i).toNat) st2) = fun x st1 => wpE Sg ib st1 fun y st2 => ∃ i j, x.dat = .int i ∧ y.dat = .int j ∧ rngOk i j ∧ Qd (rngD i 1 (j - i).toNat) st2 := by
      funext x st1
      congr 1
      funext y st2
      simp [and_assoc]
    rw [e2]
    exact hq
  · obtain ⟨x, y, rfl, i, j, rfl, rfl, o, q⟩ := q1
    obtain ⟨v, u, rfl, g, g2⟩ := ds2 d1
    cases g
    cases g2
    exact ⟨i, j, rfl, o, k _ st1 H1 F1 _ q R1 (it_rng i _) s1⟩

theorem ri_r3 {p : Pos} (hg : Gl X "range") (hm : X.mg "range" = none) (ha : PA X [a, b, c] (tA G 3 (wpEs Sg (.cons ia (.cons ib (.cons ic .nil)))))) (hs : starEach [a, b, c] X.env = (false, eval a X.env) :: starEach [b, c] X.env) (hpl : (backTo pos (starEach [b, c] X.env)).any (·.1) = false) :
    PI X tg (.Call (.Name "range" p) [a, b, c] [] pos) (tI G (wpI Sg (.r3 ia ib ic))) := by
  refine pi_imp (pi_range3 hg hm ha hs hpl) fun σ H Q ⟨P, st, F, Qd, R, hq, k⟩ => ?_
  refine ⟨P, st, F, fun ds st1 => ∃ i j c n, ds = [.int i, .int j, .int c] ∧ RgC i j c n ∧ Qd (rngD i c n) st1, R, hq, fun xs st1 vs H1 F1 q1 hn R1 d1 s1 => ?_⟩
  obtain ⟨i, j, c, n, rfl, o, q⟩ := q1
  cases d1 with
  | cons g1 d1 =>
    obtain ⟨v, u, rfl, g2, g3⟩ := ds2 d1
    cases g1
    cases g2
    cases g3
    exact ⟨i, j, c, n, rfl, o, k _ st1 H1 F1 _ q R1 (it_rngC i c n) s1⟩
theorem zip_get {α β γ : Type} {f : α → β → γ} {xs : List α} {ys : List β} {i : Nat} {z : γ} (h : (List.zipWith f xs ys)[i]? = some z) : ∃ x y, xs[i]? = some x ∧ ys[i]? = some y ∧ z = f x y := by
  rw [List.getElem?_zipWith] at h
  cases e1 : xs[i]? with
  | none =>
    rw [e1] at h
    cases ys[i]? <;> cases h
  | some x =>
    cases e2 : ys[i]? with
    | none =>
      rw [e1, e2] at h
      cases h
    | some y =>
      rw [e1, e2] at h
      exact ⟨x, y, rfl, rfl, (Option.some.inj h).symm⟩
/-- a zip's iterator, its two sources each a list or a tuple -/
structure ZipIt (K : PySem.W.Frag) (A B : Hp → List V → Prop) (J : It) : Prop where
  go : ∀ i H xs ys x y, A H xs → B H ys → xs[i]? = some x → ys[i]? = some y → J.go i H
  stop : ∀ i H xs ys, A H xs → B H ys → xs.length ≤ i ∨ ys.length ≤ i → J.stop i H
  yld : ∀ i H v H' xs ys, J.yld i H v H' → A H xs → B H ys → ∃ T x y, v = .ref T ∧ H T = none ∧ H' = upd H T (.tup [x, y]) ∧ xs[i]? = some x ∧ ys[i]? = some y
theorem zipLL {K : PySem.W.Frag} {p q : Addr} : ZipIt K (fun H xs => SqL K H p xs) (fun H xs => SqL K H q xs) (Itz K p q) where
  go := fun i H xs ys x y a b e1 e2 => ⟨xs, ys, x, y, a, b, e1, e2⟩
  stop := fun i H xs ys a b e => ⟨xs, ys, a, b, e⟩
  yld := fun i H v H' xs ys ⟨T, x, y, e1, e2, e3, f1, f2⟩ a b => ⟨T, x, y, e1, e2, e3, f1 xs a, f2 ys b⟩
theorem zipTT {K : PySem.W.Frag} {p q : Addr} : ZipIt K (fun H xs => SqT K H p xs) (fun H xs => SqT K H q xs) (RZ.ItzT K p q) where
  go := fun i H xs ys x y a b e1 e2 => ⟨xs, ys, x, y, a, b, e1, e2⟩
  stop := fun i H xs ys a b e => ⟨xs, ys, a, b, e⟩
  yld := fun i H v H' xs ys ⟨T, x, y, e1, e2, e3, f1, f2⟩ a b => ⟨T, x, y, e1, e2, e3, f1 xs a, f2 ys b⟩
theorem it_zip {A B : Hp → List V → Prop} {J : It} (Z : ZipIt G.K A B J) {xs ys : List D} {F : Hp} {vs us : List V} (hA : ∀ P st σ H F1, Evl.Ex F F1 → Rel G P st σ H F1 → A H vs) (hB : ∀ P st σ H F1, Evl.Ex F F1 → Rel G P st σ H F1 → B H us) (d1 : Dats G.K G.ca F xs vs) (d2 : Dats G.K G.ca F ys us) :
    ItOk G (List.zipWith (fun a b => D.tup [a, b]) xs ys) F J where
  stop := fun i P st σ H F1 ex R h => Z.stop i H vs us (hA P st σ H F1 ex R) (hB P st σ H F1 ex R) (by
    rw [List.length_zipWith, d1.len, d2.len] at h
    omega)
  go := fun i x P st σ H F1 ex R h => by
    obtain ⟨y, z, h1, h2, rfl⟩ := zip_get h
    obtain ⟨v, e1, _⟩ := d1.get h1
    obtain ⟨u, e2, _⟩ := d2.get h2
    exact Z.go i H vs us v u (hA P st σ H F1 ex R) (hB P st σ H F1 ex R) e1 e2
  yld := fun i x P st σ H F1 v H' ex R h y => by
    obtain ⟨x1, x2, h1, h2, rfl⟩ := zip_get h
    obtain ⟨T, y1, y2, rfl, hT, rfl, e1, e2⟩ := Z.yld i H v H' vs us y (hA P st σ H F1 ex R) (hB P st σ H F1 ex R)
    obtain ⟨w1, f1, g1⟩ := d1.get h1
    obtain ⟨w2, f2, g2⟩ := d2.get h2
    rw [e1] at f1
    cases f1
    rw [e2] at f2
    cases f2
    have hF := R.g.none0 hT
    exact ⟨upd F1 T (.tup [y1, y2]), R.newF hT noT_tup, .tup (Evl.st_of upd_same) (.cons ((g1.mono ex).mono (Evl.Ex.new hF)) (.cons ((g2.mono ex).mono (Evl.Ex.new hF)) .nil)), Stp.newF hT hF⟩
theorem kindT {x : D} {xs : List D} (h : x.items = some xs) (k : x.kind = true) {K : PySem.W.Frag} {ca : Option Addr} {F : Hp} {v : V} (d : Dat K ca F x v) : ∃ a vs, v = .ref a ∧ SqT K F a vs ∧ Dats K ca F xs vs := by
  cases x with
  | tup ys =>
    cases h
    exact d.tup_iff
  | _ => cases k
theorem kindL {x : D} {xs : List D} (h : x.items = some xs) (k : x.kind = false) {K : PySem.W.Frag} {ca : Option Addr} {F : Hp} {v : V} (d : Dat K ca F x v) : ∃ a vs, v = .ref a ∧ SqL K F a vs ∧ Dats K ca F xs vs := by
  cases x with
  | lst ys =>
    cases h
    obtain ⟨a, vs, e, q, r⟩ := d.lst_iff
    exact ⟨a, vs, e, Evl.sq_of q, r⟩
  | scr ns =>
    cases h
    cases d with
    | scr q => exact ⟨_, _, rfl, q, Dats.ofInts ns⟩
  | tup ys => cases k
  | _ => cases h
theorem ri_zip {p tpos : Pos} {elts : List Expr} {kk : Nat} (hK : X.K = G.K) (hg : Gl X "zip") (hm : X.mg "zip" = none) (ha : PA X [a, b] (tA G 2 (wpEs Sg (.cons ia (.cons ib .nil))))) (hs : starEach [a, b] X.env = (false, eval a X.env) :: starEach [b] X.env) (hpl : (backTo pos (starEach [b] X.env)).any (·.1) = false) :
    PI X (.Tuple elts kk tpos) (.Call (.Name "zip" p) [a, b] [] pos) (tI G (wpI Sg (.zip ia ib))) := by
  refine pi_imp (RZ.pi_zipA hg hm ha hs hpl) fun σ H Q ⟨P, st, F, Qd, R, hq, k⟩ => ?_
  refine ⟨P, st, F, fun ds st2 => ∃ p q xs ys, ds = [p, q] ∧ p.items = some xs ∧ q.items = some ys ∧ p.kind = q.kind ∧ Qd (List.zipWith (fun a b => D.tup [a, b]) xs ys) st2, R, hq, fun xs st1 vs H1 F1 q1 hn R1 d1 s1 => ?_⟩
  obtain ⟨x, y, xs, ys, rfl, e1, e2, ek, q⟩ := q1
  obtain ⟨v, u, rfl, g, g2⟩ := ds2 d1
  rw [hK]
  cases hk : x.kind with
  | true =>
    obtain ⟨p1, vs1, rfl, h1, dd1⟩ := kindT e1 hk g
    obtain ⟨p2, vs2, rfl, h2, dd2⟩ := kindT e2 (ek ▸ hk) g2
    exact ⟨p1, p2, vs1, vs2, rfl, .inr ⟨R1.g.t h1, R1.g.t h2, k _ st1 H1 F1 _ q R1 (it_zip zipTT (fun P st σ H F1 ex R => R.g.t (Evl.ex_t ex h1)) (fun P st σ H F1 ex R => R.g.t (Evl.ex_t ex h2)) dd1 dd2) s1⟩⟩
  | false =>
    obtain ⟨p1, vs1, rfl, h1, dd1⟩ := kindL e1 hk g
    obtain ⟨p2, vs2, rfl, h2, dd2⟩ := kindL e2 (ek ▸ hk) g2
    exact ⟨p1, p2, vs1, vs2, rfl, .inl ⟨R1.g.l h1, R1.g.l h2, k _ st1 H1 F1 _ q R1 (it_zip zipLL (fun P st σ H F1 ex R => R.g.l (Evl.ex_l ex h1)) (fun P st σ H F1 ex R => R.g.l (Evl.ex_l ex h2)) dd1 dd2) s1⟩⟩


/-- a target's reading, by data -/
structure TgOk (G : En) (t : Tg) (g : TG) : Prop where
  run : ∀ (P : Addr → Prop) (st st1 : DS) (σ : L2.St) (H F : Hp) (x : D) (v : V) (Q : L2.St → Hp → Prop), Rel G P st σ H F → Dat G.K G.ca F x v → putT t x st = some st1 → (∀ σ', Rel G P st1 σ' H F → (∀ i, i ∉ t.slots → σ'[i]? = σ[i]?) → Q σ' H) → g v σ H Q
theorem tg_one (i : Nat) : TgOk G (.one i) (gName i) where
  run := fun P st st1 σ H F x v Q R d e k => by
    cases e
    exact k _ (R.storeD i d) fun j hj => List.getElem?_set_ne fun z => hj (List.mem_singleton.mpr z.symm)
theorem putT_two {i j : Nat} {x : D} {st st1 : DS} (h : putT (.two i j) x st = some st1) : ∃ a b, x = .tup [a, b] ∧ st1 = (st.set i (.d a)).set j (.d b) := by
  match x, h with
  | .tup [a, b], h => exact ⟨a, b, rfl, (Option.some.inj h).symm⟩
theorem putT_three {i j k : Nat} {x : D} {st st1 : DS} (h : putT (.three i j k) x st = some st1) : ∃ a b c, x = .tup [a, b, c] ∧ st1 = ((st.set i (.d a)).set j (.d b)).set k (.d c) := by
  match x, h with
  | .tup [a, b, c], h => exact ⟨a, b, c, rfl, (Option.some.inj h).symm⟩
theorem tg_two (i j : Nat) : TgOk G (.two i j) (gTup G.K 2 (gCons (gName i) (gCons (gName j) gNil))) where
  run := fun P st st1 σ H F x v Q R d e k => by
    obtain ⟨a, b, rfl, rfl⟩ := putT_two e
    obtain ⟨p, vs, rfl, hs, dd⟩ := d.tup_iff
    obtain ⟨u, w, rfl, g1, g2⟩ := ds2 dd
    refine ⟨p, [u, w], rfl, R.g.t hs, rfl, u, [w], rfl, w, [], rfl, rfl, k _ ((R.storeD i g1).storeD j g2) fun m hm => ?_⟩
    have h1 : m ≠ i := fun z => hm (by rw [z]; exact List.mem_cons_self)
    have h2 : m ≠ j := fun z => hm (by rw [z]; exact List.mem_cons_of_mem _ (List.mem_singleton.mpr rfl))
    rw [List.getElem?_set_ne (fun z => h2 z.symm), List.getElem?_set_ne (fun z => h1 z.symm)]
theorem tg_three (i j l : Nat) : TgOk G (.three i j l) (gTup G.K 3 (gCons (gName i) (gCons (gName j) (gCons (gName l) gNil)))) where
  run := fun P st st1 σ H F x v Q R d e k => by
    obtain ⟨a, b, c, rfl, rfl⟩ := putT_three e
    obtain ⟨p, vs, rfl, hs, dd⟩ := d.tup_iff
    cases dd with
    | cons g1 dd =>
      obtain ⟨u, w, rfl, g2, g3⟩ := ds2 dd
      refine ⟨p, _, rfl, R.g.t hs, rfl, _, [u, w], rfl, u, [w], rfl, w, [], rfl, rfl, k _ (((R.storeD i g1).storeD j g2).storeD l g3) fun m hm => ?_⟩
      have h1 : m ≠ i := fun z => hm (by rw [z]; exact List.mem_cons_self)
      have h2 : m ≠ j := fun z => hm (by rw [z]; exact List.mem_cons_of_mem _ List.mem_cons_self)
      have h3 : m ≠ l := fun z => hm (by rw [z]; exact List.mem_cons_of_mem _ (List.mem_cons_of_mem _ (List.mem_singleton.mpr rfl)))
      rw [List.getElem?_set_ne (fun z => h3 z.symm), List.getElem?_set_ne (fun z => h2 z.symm), List.getElem?_set_ne (fun z => h1 z.symm)]
end
end DL
end
section
namespace DL
open PySem PySem.Spec PyProof.Rows L2

theorem fold_len (f : Nat → Sl) : ∀ (is : List Nat) (e : List Sl), (is.foldl (fun e i => e.set i (f i)) e).length = e.length
  | [], _ => rfl
  | i :: is, e => by
    rw [List.foldl_cons, fold_len f is, List.length_set]
theorem fold_get (f : Nat → Sl) : ∀ (is : List Nat) (e : List Sl) (j : Nat), (is.foldl (fun e i => e.set i (f i)) e)[j]? = if j ∈ is ∧ j < e.length then some (f j) else e[j]?
  | [], e, j => by simp
  | i :: is, e, j => by
    rw [List.foldl_cons, fold_get f is, List.length_set]
    by_cases h : j ∈ is ∧ j < e.length
    · rw [if_pos h, if_pos ⟨List.mem_cons_of_mem _ h.1, h.2⟩]
    · rw [if_neg h]
      by_cases e1 : j = i
      · subst e1
        by_cases hl : j < e.length
        · rw [List.getElem?_set_self hl, if_pos ⟨List.mem_cons_self, hl⟩]
        · rw [if_neg (fun z => hl z.2), List.getElem?_eq_none (by rw [List.length_set]; omega), List.getElem?_eq_none (by omega)]
      · rw [List.getElem?_set_ne (fun z => e1 z.symm)]
        rw [if_neg (fun z => (List.mem_cons.mp z.1).elim e1 fun m => h ⟨m, z.2⟩)]
theorem hide_get (is : List Nat) (st : DS) (j : Nat) : (hide is st).env[j]? = if j ∈ is ∧ j < st.env.length then some .un else st.env[j]? := fold_get (fun _ => .un) is st.env j
theorem hide_len (is : List Nat) (st : DS) : (hide is st).env.length = st.env.length := fold_len (fun _ => .un) is st.env
theorem back_get (is : List Nat) (old st : DS) (j : Nat) : (back is old st).env[j]? = if j ∈ is ∧ j < st.env.length then some (gone old.env[j]?) else st.env[j]? := fold_get (fun i => gone old.env[i]?) is st.env j
theorem back_len (is : List Nat) (old st : DS) : (back is old st).env.length = st.env.length := fold_len (fun i => gone old.env[i]?) is st.env
theorem wipe_get : ∀ (vs : List Nat) (σ : L2.St) (j : Nat), (wipe σ vs)[j]? = if j ∈ vs ∧ j < σ.length then some none else σ[j]?
  | [], σ, j => by simp [wipe]
  | v :: vs, σ, j => by
    unfold wipe
    by_cases e1 : j = v
    · subst e1
      by_cases hl : j < σ.length
      · rw [List.getElem?_set_self (by rw [wipe_length]; exact hl), if_pos ⟨List.mem_cons_self, hl⟩]
      · rw [if_neg (fun z => hl z.2), List.getElem?_eq_none (by rw [List.length_set, wipe_length]; omega), List.getElem?_eq_none (by omega)]
    · rw [List.getElem?_set_ne (fun z => e1 z.symm), wipe_get vs σ j]
      by_cases h : j ∈ vs ∧ j < σ.length
      · rw [if_pos h, if_pos ⟨List.mem_cons_of_mem _ h.1, h.2⟩]
      · rw [if_neg h, if_neg (fun z => (List.mem_cons.mp z.1).elim e1 fun m => h ⟨m, z.2⟩)]
section
variable {G : En} {st st' : DS} {P : Addr → Prop} {σ σ' : L2.St} {H H' F F' : Hp} {p : Addr}
/-- slots hidden: seen from other slots that agree elsewhere -/
theorem Rel.hide (R : Rel G P st σ' H F) (is : List Nat) (hl : σ.length = σ'.length) (h : ∀ j, j ∉ is → σ[j]? = σ'[j]?) : Rel G P (hide is st) σ H F where
  g := R.g
  len := by rw [hide_len, R.len, hl]
  slot := fun j s e => by
    rw [hide_get] at e
    by_cases q : j ∈ is ∧ j < st.env.length
    · rw [if_pos q] at e
      cases e
      trivial
    · rw [if_neg q] at e
      have hj : j ∉ is := fun z => q ⟨z, (List.getElem?_eq_some_iff.mp e).1⟩
      rw [h j hj]
      exact R.slot j s e
  dist := fun i j s t q e1 e2 o1 o2 a1 a2 => by
    rw [hide_get] at e1 e2
    by_cases q1 : i ∈ is ∧ i < st.env.length
    · rw [if_pos q1] at e1
      cases e1
      exact o1.elim
    · by_cases q2 : j ∈ is ∧ j < st.env.length
      · rw [if_pos q2] at e2
        cases e2
        exact o2.elim
      · rw [if_neg q1] at e1
        rw [if_neg q2] at e2
        have h1 : i ∉ is := fun z => q1 ⟨z, (List.getElem?_eq_some_iff.mp e1).1⟩
        have h2 : j ∉ is := fun z => q2 ⟨z, (List.getElem?_eq_some_iff.mp e2).1⟩
        rw [h i h1] at a1
        rw [h j h2] at a2
        exact R.dist i j s t q e1 e2 o1 o2 a1 a2
  prot := fun q hq => by
    obtain ⟨h1, h2, h3, h4⟩ := R.prot q hq
    refine ⟨h1, fun j s e o a => ?_, h3, h4⟩
    rw [hide_get] at e
    by_cases q1 : j ∈ is ∧ j < st.env.length
    · rw [if_pos q1] at e
      cases e
      exact o
    · rw [if_neg q1] at e
      rw [h j (fun z => q1 ⟨z, (List.getElem?_eq_some_iff.mp e).1⟩)] at a
      exact h2 j s e o a
theorem gone_ok {o : Option Sl} {w : Option (Option V)} (h : ∀ s, o = some s → SlOk G H F s w) (hf : Evl.Ex F F') : SlOk G H' F' (gone o) w := by
  cases o with
  | none => trivial
  | some s =>
    cases s with
    | un => trivial
    | d x =>
      obtain ⟨v, e, d⟩ := h _ rfl
      exact ⟨v, e, d.mono hf⟩
    | own xs => trivial
    | dk ks => trivial
    | tp xs => trivial
theorem gone_own {o : Option Sl} : ¬ (gone o).isOwn := by
  cases o with
  | none => exact fun z => z
  | some s => cases s <;> exact fun z => z
/-- behind a comprehension -/
theorem Rel.back {old : DS} {H0 F0 : Hp} (R : Rel G P (DL.hide is st) σ H F) (R0 : Rel G P old σ H0 F0) (hf : Evl.Ex F0 F) : Rel G P (DL.back is old st) σ H F where
  g := R.g
  len := by
    rw [back_len, ← hide_len is st]
    exact R.len
  slot := fun j s e => by
    rw [back_get] at e
    by_cases q : j ∈ is ∧ j < st.env.length
    · rw [if_pos q] at e
      cases e
      exact gone_ok (fun s e => R0.slot j s e) hf
    · rw [if_neg q] at e
      exact R.slot j s (by rw [hide_get, if_neg q]; exact e)
  dist := fun i j s t q e1 e2 o1 o2 a1 a2 => by
    rw [back_get] at e1 e2
    by_cases q1 : i ∈ is ∧ i < st.env.length
    · rw [if_pos q1] at e1
      cases e1
      exact (gone_own o1).elim
    · by_cases q2 : j ∈ is ∧ j < st.env.length
      · rw [if_pos q2] at e2
        cases e2
        exact (gone_own o2).elim
      · rw [if_neg q1] at e1
        rw [if_neg q2] at e2
        exact R.dist i j s t q (by rw [hide_get, if_neg q1]; exact e1) (by rw [hide_get, if_neg q2]; exact e2) o1 o2 a1 a2
  prot := fun q hq => by
    obtain ⟨h1, h2, h3, h4⟩ := R.prot q hq
    refine ⟨h1, fun j s e o a => ?_, h3, h4⟩
    rw [back_get] at e
    by_cases q1 : j ∈ is ∧ j < st.env.length
    · rw [if_pos q1] at e
      cases e
      exact gone_own o
    · rw [if_neg q1] at e
      exact h2 j s (by rw [hide_get, if_neg q1]; exact e) o a
/-- the new list of a comprehension grows: nobody else's -/
theorem Rel.grow {o : HO} (R : Rel G P st σ H F) (w : Own G F p) (fr : Free st σ p) (ho : noTbl o) (ht : LamX.Tabs G.T (upd H p o)) : Rel G P st σ (upd H p o) F where
  g := {
    sub := fun a u h => by
      obtain ⟨h1, h2⟩ := R.g.sub a u h
      exact ⟨by rw [upd_ne (fun z => by rw [z, w.1] at h; cases h)]; exact h1, h2⟩
    cell := fun a h => by
      obtain ⟨h1, h2⟩ := R.g.cell a h
      exact ⟨by rw [upd_ne (fun z => w.2.2 (by rw [← z]; exact h))]; exact h1, h2⟩
    tabs := ht
    keep := fun a u h n k => by
      rw [upd_ne (fun z => w.2.1 u (by rw [← z]; exact h) n)]
      exact R.g.keep a u h n k
    f0 := R.g.f0
    fnew := R.g.fnew }
  len := R.len
  slot := fun i s h => by
    have q := R.slot i s h
    cases s with
    | un => trivial
    | d x => exact q
    | own xs =>
      obtain ⟨a, vs, e, w', ha, d⟩ := q
      exact ⟨a, vs, e, w', by rw [upd_ne (fun z => fr i _ h trivial (by rw [e, z]))]; exact ha, d⟩
    | dk ks =>
      obtain ⟨a, e, w', ha⟩ := q
      exact ⟨a, e, w', by rw [upd_ne (fun z => fr i _ h trivial (by rw [e, z]))]; exact ha⟩
    | tp xs => exact q
  dist := R.dist
  prot := fun q hq => by
    obtain ⟨h1, h2, h3, u, h4, h5⟩ := R.prot q hq
    refine ⟨h1, h2, h3, ?_⟩
    by_cases e : q = p
    · rw [e]
      exact ⟨o, upd_same, ho⟩
    · rw [upd_ne e]
      exact ⟨u, h4, h5⟩
/-- a list that is kept apart from now on -/
theorem Rel.protect {u : HO} (R : Rel G P st σ H F) (hp : H p = some u) (hu : noTbl u) (hF : F p = none) (hc : G.ca ≠ some p) (fr : Free st σ p) : Rel G (fun a => P a ∨ a = p) st σ H F where
  g := R.g
  len := R.len
  slot := R.slot
  dist := R.dist
  prot := fun q hq => hq.elim (R.prot q) fun e => by
    rw [e]
    exact ⟨hF, fr, hc, u, hp, hu⟩
theorem Rel.loose {P' : Addr → Prop} (R : Rel G P' st σ H F) (h : ∀ a, P a → P' a) : Rel G P st σ H F := ⟨R.g, R.len, R.slot, R.dist, fun q hq => R.prot q (h q hq)⟩
/-- tables do not lie at a list -/
theorem tabs_grow {T : List (Addr × Str)} {o u : HO} (h : LamX.Tabs T H) (hp : H p = some u) (hu : noTbl u) (hu2 : ∀ c q, u ≠ LamX.CodeO c q) : LamX.Tabs T (upd H p o) := fun x hx => by
  obtain ⟨ps, h1, h2, h3⟩ := h x hx
  refine ⟨ps, ?_, h2, fun pos cv hc => ?_⟩
  · rw [upd_ne (fun z => by rw [z, hp] at h1; cases h1; exact hu _ rfl)]
    exact h1
  · obtain ⟨c, e1, e2⟩ := h3 pos cv hc
    exact ⟨c, e1, by rw [upd_ne (fun z => by rw [z, hp] at e2; cases e2; exact hu2 _ _ rfl)]; exact e2⟩
theorem lst_code {xs : List V} (c : Addr) (q : Str) : HO.lst xs ≠ LamX.CodeO c q := fun z => by
  unfold LamX.CodeO at z
  cases z
theorem dk_code {ks : List (List Int)} (c : Addr) (q : Str) : dkO ks ≠ LamX.CodeO c q := fun z => by
  unfold LamX.CodeO at z
  cases z
theorem Rel.growL {xs ys : List V} (R : Rel G P st σ H F) (w : Own G F p) (fr : Free st σ p) (hp : H p = some (.lst xs)) : Rel G P st σ (upd H p (.lst ys)) F :=
  R.grow w fr noT_lst (tabs_grow R.g.tabs hp noT_lst lst_code)
end

section
variable {X : Cx} {G : En} {Sg : Tab}
theorem hide_hide (is : List Nat) (st : DS) : hide is (hide is st) = hide is st := by
  have e : (hide is (hide is st)).env = (hide is st).env := by
    apply List.ext_getElem?
    intro j
    rw [hide_get is (hide is st), hide_len]
    by_cases h : j ∈ is ∧ j < st.env.length
    · rw [if_pos h, hide_get, if_pos h]
    · rw [if_neg h]
  show ({ (hide is st) with env := (hide is (hide is st)).env } : DS) = _
  rw [e]
theorem wipe_same {σ σ2 : L2.St} {vs : List Nat} (hl : σ2.length = σ.length) (h : ∀ j, j ∉ vs → σ2[j]? = (wipe σ vs)[j]?) : wipe σ2 vs = wipe σ vs := by
  apply List.ext_getElem?
  intro j
  rw [wipe_get, hl]
  by_cases q : j ∈ vs ∧ j < σ.length
  · rw [if_pos q, wipe_get, if_pos q]
  · rw [if_neg q]
    by_cases m : j ∈ vs
    · have hj : σ.length ≤ j := by
        have : ¬ j < σ.length := fun z => q ⟨m, z⟩
        omega
      rw [List.getElem?_eq_none (by omega), List.getElem?_eq_none (by rw [wipe_length]; exact hj)]
    · exact h j m
/-- the reading of a comprehension -/
theorem lc_imp {t : Tg} {wi : DS → (List D → DS → Prop) → Prop} {wc : DS → (Bool → DS → Prop) → Prop} {we : WD} {g : TG} (tg : TgOk G t g) {σ : L2.St} {H : Hp} {Q : VK}
    (h : tE G (fun st Q => wi st fun xs st1 => wComp t wc we xs [] st1 fun acc st2 => Q (.own acc) (back t.slots st1 st2)) σ H Q) : tLc (tI G wi) g (tT G wc) (tD G we) t.slots σ H Q := by
  obtain ⟨P, st, F, Qd, R, hq, k⟩ := h
  refine ⟨P, st, F, fun xs st1 => wComp t wc we xs [] st1 fun acc st2 => Qd (.own acc) (back t.slots st1 st2), R, hq, fun xs st1 H1 F1 J q1 R1 it s1 Dl hD => ?_⟩
  have fr0 := R1.g.fr0 hD
  let Z : Nat → Hp → Prop := fun i H' => ∃ st' F' acc vacc, Rel G (fun a => P a ∨ a = Dl) (hide t.slots st') σ H' F' ∧ H' Dl = some (.lst vacc) ∧ Dats G.K G.ca F' acc vacc ∧ Stp G H1 F1 H' F' ∧
      wComp t wc we (xs.drop i) acc st' (fun acc st2 => Qd (.own acc) (back t.slots st1 st2))
  refine ⟨fun i m H' => m = xs.length - i ∧ i ≤ xs.length ∧ Z i H', ⟨xs.length, rfl, Nat.zero_le _, st1, F1, [], [], ?_, upd_same, .nil, Stp.new hD, q1⟩, ?_⟩
  · have R0 := R1.hide (σ := σ) t.slots rfl fun _ _ => rfl
    exact (R0.new (o := .lst []) hD).protect upd_same noT_lst (R1.g.none0 hD) (R1.g.ca_ne hD) (R0.free hD)
  · rintro i m H' ⟨rfl, hi, st', F', acc, vacc, R2, hD2, d2, s2, q2⟩
    by_cases hlt : i < xs.length
    · right
      have hx : xs[i]? = some xs[i] := List.getElem?_eq_getElem hlt
      rw [List.drop_eq_getElem_cons hlt] at q2
      obtain ⟨st3, e3, q2⟩ := q2
      have exF : Evl.Ex F1 F' := s2.f
      refine ⟨it.go i _ _ _ σ H' F' exF R2 hx, Z (i + 1), fun H'' z => ⟨xs.length - (i + 1), by omega, rfl, hlt, z⟩, fun v H3 hy => ?_⟩
      obtain ⟨F3, R3, dv, s3⟩ := it.yld i _ _ _ σ H' F' v H3 exF R2 hx hy
      have R3' := R3.hide (σ := wipe σ t.slots) t.slots (wipe_length σ t.slots) fun j hj => by
        rw [wipe_get, if_neg fun z => hj z.1]
      rw [hide_hide] at R3'
      refine tg.run _ _ st3 _ H3 F3 _ v _ R3' dv e3 fun σ2 R4 ag => ?_
      have hl2 : σ2.length = σ.length := by
        have a1 := R4.len
        have a2 := R3'.len
        have a3 : st3.env.length = (hide t.slots st').env.length := by
          have : ∀ (t : Tg) (x : D) (s s2 : DS), putT t x s = some s2 → s2.env.length = s.env.length := by
            intro t x s s2 h
            cases t with
            | one i => cases h; exact List.length_set ..
            | two i j =>
              obtain ⟨a, b, rfl, rfl⟩ := putT_two h
              show ((s.env.set i _).set j _).length = _
              rw [List.length_set, List.length_set]
            | three i j l =>
              obtain ⟨a, b, c, rfl, rfl⟩ := putT_three h
              show (((s.env.set i _).set j _).set l _).length = _
              rw [List.length_set, List.length_set, List.length_set]
          exact this _ _ _ _ e3
        rw [wipe_length] at a2
        omega
      have ag2 : ∀ j, j ∉ t.slots → σ[j]? = σ2[j]? := fun j hj => by rw [ag j hj, wipe_get, if_neg fun z => hj z.1]
      refine ⟨wipe_same hl2 ag, ?_⟩
      have hD3 : H3 Dl = some (.lst vacc) := s3.keep _ _ hD2 noT_lst (R2.prot Dl (.inr rfl)).2.2.1
      refine ⟨_, st3, F3, _, R4, q2, fun b st4 H4 F4 q4 R5 s4 => ?_⟩
      have hD4 : H4 Dl = some (.lst vacc) := s4.keep _ _ hD3 noT_lst (R2.prot Dl (.inr rfl)).2.2.1
      have S4 : Stp G H1 F1 H4 F4 := (s2.trans s3).trans s4
      cases b with
      | true =>
        rw [if_pos rfl] at q4
        refine iteT ?_
        refine ⟨_, st4, F4, fun y st5 => acc.length < 100000 ∧ wComp t wc we (xs.drop (i + 1)) (acc ++ [y]) st5 fun acc st2 => Qd (.own acc) (back t.slots st1 st2), R5, q4, fun y st5 w H5 F5 q5 R6 dw s5 => ?_⟩
        have hD5 : H5 Dl = some (.lst vacc) := s5.keep _ _ hD4 noT_lst (R2.prot Dl (.inr rfl)).2.2.1
        have S5 := S4.trans s5
        have da : Dats G.K G.ca F5 acc vacc := ((d2.mono s3.f).mono s4.f).mono s5.f
        have R7 := R6.hide (σ := σ) t.slots hl2.symm ag2
        obtain ⟨p1, p2, p3, _⟩ := R7.prot Dl (.inr rfl)
        refine ⟨vacc, hD5, ?_, st5, F5, acc ++ [y], vacc ++ [w], R7.growL ⟨p1, fr0, p3⟩ p2 hD5, upd_same, da.append (.cons dw .nil), ⟨fun a u h n c => ?_, S5.f⟩, q5.2⟩
        · rw [← da.len]
          exact Nat.lt_of_lt_of_le q5.1 (by decide)
        · rw [upd_ne (ne_of_none h hD)]
          exact S5.keep a u h n c
      | false =>
        rw [if_neg Bool.false_ne_true] at q4
        refine iteF ?_
        exact ⟨st4, F4, acc, vacc, R5.hide (σ := σ) t.slots hl2.symm ag2, hD4, (d2.mono s3.f).mono s4.f, S4, q4⟩
    · left
      have e : i = xs.length := by omega
      subst e
      refine ⟨it.stop _ _ _ σ H' F' s2.f R2 (Nat.le_refl _), ?_⟩
      rw [List.drop_length] at q2
      obtain ⟨p1, p2, p3, _⟩ := R2.prot Dl (.inr rfl)
      have RB := (R2.loose fun a h => .inl h).back (is := t.slots) R1 s2.f
      refine k (.own acc) _ (.ref Dl) H' F' q2 RB ⟨Dl, vacc, rfl, ⟨p1, fr0, p3⟩, hD2, d2, fun j s e o a => ?_, R1.np hD⟩ (s1.trans s2)
      rw [back_get] at e
      by_cases q1 : j ∈ t.slots ∧ j < st'.env.length
      · rw [if_pos q1] at e
        cases e
        exact gone_own o
      · rw [if_neg q1] at e
        exact p2 j s (by rw [hide_get, if_neg q1]; exact e) o a
end
end DL
end
section
namespace DL
open PySem PySem.Spec PyProof.Rows L2


def RetOk (G : En) (H F : Hp) : Vl → V → Prop
  | .d x, v => Dat G.K G.ca F x v
  | .own xs, v => ∃ p vs, v = .ref p ∧ Own G F p ∧ H p = some (.lst vs) ∧ Dats G.K G.ca F xs vs
  | .tp xs, v => ∃ p vs, v = .ref p ∧ F p = some (.tup vs) ∧ Dats G.K G.ca F xs vs
/-- an exception of the class at C that bears the name n -/
def ExIs (C : Addr) (n : Str) (cls : Value) (d : Option Addr) (H : Hp) : Prop := cls = .ref C ∧ ∃ (dd : Addr) (fs : List (Str × V)), d = some dd ∧ H dd = some (.xd fs) ∧ fs.lookup ("name" : Str) = some (.str n)
/-- a promise by data, n arguments: as the hand layer says it -/
def spD (K : PySem.W.Frag) (T : List (Addr × Str)) (C : Addr) (n : Nat) (sp : Spec) : Sp := fun vs H Q E => ∃ G ds c Qd Ed, G.K = K ∧ G.T = T ∧ G.C = C ∧ G.H0 = H ∧ Glob G c H G.F0 ∧ ds.length = n ∧ Dats K G.ca G.F0 ds vs ∧ sp ds c Qd Ed ∧
  (∀ r c' v H' F', Qd r c' → Glob G c' H' F' → RetOk G H' F' r v → Q v H') ∧ (∀ m c' cls d H' F', Ed m c' → Glob G c' H' F' → ExIs C m cls d H' → E cls d H')
theorem spD_len {K : PySem.W.Frag} {T : List (Addr × Str)} {C : Addr} {n : Nat} {sp : Spec} {vs : List V} {H : Hp} {Q : VK} {E : XK} (h : spD K T C n sp vs H Q E) : vs.length = n := by
  obtain ⟨G, ds, c, Qd, Ed, e1, e2, e3, e4, g, hn, d, _⟩ := h
  rw [← d.len, hn]
/-- the entry of a callee, seen from the caller -/
def En.sub (G : En) (H F : Hp) : En := { G with H0 := H, F0 := F }
theorem Glob.enter {G : En} {c : List Int} {H F : Hp} (g : Glob G c H F) : Glob (G.sub H F) c H F where
  sub := g.sub
  cell := g.cell
  tabs := g.tabs
  keep := fun _ _ h _ _ => h
  f0 := Evl.Ex.refl F
  fnew := fun a h1 h2 => (h1 h2).elim
theorem Glob.fr0_up {G : En} {c : List Int} {H F : Hp} (g : Glob G c H F) {p : Addr} (h : Fr0 H p) (hc : G.ca ≠ some p) : Fr0 G.H0 p := fun o e n => h o (g.keep p o e n hc) n
theorem Glob.leave {G : En} {c c' : List Int} {H F H' F' : Hp} (g : Glob G c H F) (g' : Glob (G.sub H F) c' H' F') : Glob G c' H' F' where
  sub := g'.sub
  cell := g'.cell
  tabs := g'.tabs
  keep := fun a o h n k => g'.keep a o (g.keep a o h n k) n k
  f0 := g.f0.trans g'.f0
  fnew := fun a h1 h2 => by
    cases e : F a with
    | none =>
      refine g.fr0_up (g'.fnew a h1 e) fun z => ?_
      obtain ⟨_, h3⟩ := g'.cell a z
      exact h1 h3
    | some o => exact g.fnew a (by rw [e]; exact fun z => nomatch z) h2
theorem Glob.stp {G : En} {c' : List Int} {H F H' F' : Hp} (g' : Glob (G.sub H F) c' H' F') : Stp G H F H' F' := ⟨fun a o h n k => g'.keep a o h n k, g'.f0⟩
section
variable {G : En} {P : Addr → Prop} {st : DS} {σ : L2.St} {H H' F F' : Hp} {c' : List Int}
/-- a thing that the caller holds is not frozen by a callee -/
theorem notF (g' : Glob (G.sub H F) c' H' F') {p : Addr} {o : HO} (hF : F p = none) (hH : H p = some o) (n : noTbl o) : F' p = none := by
  cases e : F' p with
  | none => rfl
  | some u => exact (g'.fnew p (by rw [e]; exact fun z => nomatch z) hF o hH n).elim
theorem Rel.leave (R : Rel G P st σ H F) (g' : Glob (G.sub H F) c' H' F') : Rel G P { st with cel := c' } σ H' F' where
  g := R.g.leave g'
  len := R.len
  slot := fun i s h => (R.slot i s h).mono (fun a o h n k => g'.keep a o h n k) g'.f0 fun p hs e => by
    obtain ⟨q, u, e2, w, hq, n⟩ := (R.slot i s h).addr hs
    rw [e] at e2
    cases e2
    exact notF g' w.1 hq n
  dist := R.dist
  prot := fun q hq => by
    obtain ⟨h1, h2, h3, o, h4, h5⟩ := R.prot q hq
    exact ⟨notF g' h1 h4 h5, h2, h3, o, g'.keep q o h4 h5 h3, h5⟩
theorem RetOk.up (R : Rel G P st σ H F) (g' : Glob (G.sub H F) c' H' F') {r : Vl} {v : V} (h : RetOk (G.sub H F) H' F' r v) : VOk G P { st with cel := c' } σ H' F' r v := by
  cases r with
  | d x => exact h
  | own xs =>
    obtain ⟨p, vs, rfl, w, hp, d⟩ := h
    refine ⟨p, vs, rfl, ⟨w.1, R.g.fr0_up w.2.1 w.2.2, w.2.2⟩, hp, d, fun i s hi hs e => ?_, fun hq => ?_⟩
    · obtain ⟨q, u, e2, _, hq, n⟩ := (R.slot i s hi).addr hs
      rw [e] at e2
      cases e2
      exact w.2.1 u hq n
    · obtain ⟨_, _, _, o, h4, h5⟩ := R.prot p hq
      exact w.2.1 o h4 h5
  | tp xs => exact h
theorem VOk.ret {r : Vl} {v : V} (h : VOk G P st σ H F r v) : RetOk G H F r v := by
  cases r with
  | d x => exact h
  | own xs =>
    obtain ⟨p, vs, e, w, hp, d, _⟩ := h
    exact ⟨p, vs, e, w, hp, d⟩
  | tp xs => exact h
end


structure CC where
  N : List Str
  gk : List (Str × D)
  gf : List (Str × List Str)
  tab : Option Bool
  rf : Bool
  dks : List Str := []
  fresh : Bool := false
  lent : List Str := []
def CC.inner (C : CC) : CC := { C with tab := none, rf := false, fresh := false }
def sufx : Bool → Str
  | true => "<lambda>"
  | false => "<genexpr>"
def bnames : List Str := ["len", "abs", "int", "bool", "max", "min", "sum", "list", "tuple", "sorted", "range", "zip", "isinstance", "all", "set"]
/-- n positional ones, then those with names -/
def kcat {α : Type} (n : Nat) (us ws : List α) : List α := if us.length = n then us ++ ws else []
theorem kcat_of {α : Type} {n : Nat} {us ws : List α} (h : us.length = n) : kcat n us ws = us ++ ws := if_pos h
/-- the def x of the module, its promise kept by level k -/
structure FnIs (X : Cx) (G : En) (Sg : Tab) (k : Nat) (x : Str) (ps : List Str) : Prop where
  is : ∃ (f : Addr) (fd : FuncData), X.mg x = some (.ref f) ∧ PySem.W.keepIn X.K (.ref f) = true ∧ FnOk X.prog X.w X.K X.mg X.base (L2.CX X.prog X.w) k f fd ps (spD G.K G.T G.C ps.length (Sg x)) ∧
    (∀ n, n ≤ ps.length → KBinds X.K fd ps (ps.drop n) (kcat n) (kcat n)) ∧ Binds X.K fd ps []
/-- the def's table of code objects -/
structure TabX (X : Cx) (G : En) (b : Bool) : Prop where
  is : ∃ c P, X.env.code = .ref c ∧ LamX.TabB X.base X.mg c P ∧ (P, X.env.qual ++ sufx b) ∈ G.T ∧ ∀ p ∈ G.T, p.1 = P → p.2 = X.env.qual ++ sufx b
/-- told: what the call of a lambda that refuses hands back -/
def TTr (C : Addr) : (XK → Hp → VK → Prop) → Hp → VK → Prop := fun tl H Q => tl (fun cls d H' => ∃ n, ExIs C n cls d H' ∧ Q (.str n) H') H fun _ H' => Q (.str "") H'
/-- _law_refused(lambda: ..) -/
structure RefX (X : Cx) (G : En) (k : Nat) : Prop where
  is : ∀ (params : Arguments) (body : Expr) (scope : Scope) (t : XK → TE) (p lpos pos : Pos), params.posonlyargs = [] → params.args = [] → params.vararg = none → params.kwonlyargs = [] → params.kw_defaults = [] → params.kwarg = none → params.defaults = [] → LamX.LamS X.env.scope scope →
    Gl X "_law_refused" → (∀ (A : Around) (outer : List Env) (s : Shared) (H : Hp) (E : XK) (f c' : Addr), Room k (A.deeper (LamX.lamEnv X scope s.heap.objs.size f c')) → PE (LamX.lamCx X A outer s H E scope f c') body (t E)) →
    PE X (.Call (.Name "_law_refused" p) [.Lambda params body scope lpos] [] pos) (LamX.tLam G.T (TTr G.C) t)
structure XO (X : Cx) (G : En) (Sg : Tab) (C : CC) (k : Nat) : Prop where
  K : X.K = G.K
  N : X.N = C.N
  nd : C.N.Nodup
  calm : X.calm = true
  room : Room (k + 2) X.A
  bi : ∀ x ∈ bnames, X.mg x = none
  ks : ∀ x d, C.gk.lookup x = some d → ∃ u v, X.mg x = some u ∧ RelV v u ∧ ∀ ca F, Dat G.K ca F d v
  fs : ∀ x ps, C.gf.lookup x = some ps → FnIs X G Sg k x ps
  tb : ∀ b, C.tab = some b → TabX X G b
  rf : C.rf = true → RefX X G (k + 2)
  rg : C.tab = some false → Room (k + 5) X.A ∧ (".0" : Str) ∉ C.N
  fr : C.fresh = true → G.ca = none
theorem XO.blk {X : Cx} {G : En} {Sg : Tab} {C : CC} {k : Nat} (o : XO X G Sg C k) (s : Shared) (H : Hp) (scope : Scope) (cenv : Env) (fp : List Addr) : XO (X.blk s H scope cenv fp) G Sg C.inner k :=
  ⟨o.K, o.N, o.nd, o.calm, o.room, o.bi, o.ks, fun x ps h => ⟨(o.fs x ps h).is⟩, (fun b h => nomatch h), (fun h => nomatch h), (fun h => nomatch h), (fun h => nomatch h)⟩
theorem XO.hu {X : Cx} {G : En} {Sg : Tab} {C : CC} {k : Nat} (o : XO X G Sg C k) : X.A.units + 64 < cLine := by
  have := o.room.un
  omega

section
variable {X : Cx} {G : En} {Sg : Tab} {C : CC} {k : Nat} {e : Expr} {es : List Expr} {ias : Es} {pos p : Pos}
/-- arguments, then something with their values that may touch the shared list -/
theorem args_imp2 {w : WV} {n : Nat} {r : List V → Hp → VK → Prop} (hw : ∀ st Q, w st Q → ∃ Q2 : List D → DS → Prop, wpEs Sg ias st Q2 ∧
      ∀ P xs st2 σ vs H2 F2 K, Q2 xs st2 → xs.length = n → Rel G P st2 σ H2 F2 → Dats G.K G.ca F2 xs vs →
        (∀ r st3 v H' F', Q r st3 → Rel G P st3 σ H' F' → VOk G P st3 σ H' F' r v → Stp G H2 F2 H' F' → K v H') → r vs H2 K)
    (σ : L2.St) (H : Hp) (Q : VK) (h : tE G w σ H Q) : tA G n (wpEs Sg ias) σ H fun xs H1 => r xs H1 Q := by
  obtain ⟨P, st, F, Qd, R, hq, k⟩ := h
  obtain ⟨Q2, h2, hk⟩ := hw st Qd hq
  exact ⟨P, st, F, Q2, R, h2, fun x st1 v H1 F1 q1 hn R1 d1 s1 => hk P x st1 σ v H1 F1 Q q1 hn R1 d1 fun r st3 v' H' F' qr R' o' s' => k r st3 v' H' F' qr R' o' (s1.trans s')⟩
theorem r_call {x : Str} {ps : List Str} (f : FnIs X G Sg k x ps) (hK : X.K = G.K) (hr : Room k X.A) (hg : Gl X x) (hdb : (x == ("__debug__" : Str)) = false) (ha : PA X (e :: es) (tA G ps.length (wpEs Sg ias)))
    (he : starEach (e :: es) X.env = (false, eval e X.env) :: starEach es X.env) (hpl : (backTo pos (starEach es X.env)).any (·.1) = false) : PE X (.Call (.Name x p) (e :: es) [] pos) (tE G (wpE Sg (.call x ias))) := by
  obtain ⟨a, fd, hm, hk, F, _, hb⟩ := f.is
  refine pe_imp (pe_call F hr hg hm hk hb .nil passL ha hdb he hpl) (args_imp2 (r := fun xs H1 Q => spD G.K G.T G.C ps.length (Sg x) (xs ++ []) H1 Q E0) fun st Q h => ⟨fun ds st1 => Sg x ds st1.cel (fun r c => Q r { st1 with cel := c }) fun _ _ => False, h, ?_⟩)
  intro P xs st2 σ vs H2 F2 K q hn R d k
  rw [List.append_nil]
  refine ⟨G.sub H2 F2, xs, st2.cel, _, _, rfl, rfl, rfl, rfl, R.g.enter, hn, d, q, fun r c' v H' F' hq g' hr => ?_, fun m c' cls d H' F' z => z.elim⟩
  exact k r _ v H' F' hq (R.leave g') (RetOk.up R g' hr) g'.stp


theorem rk_nil : PK X [] (tA G 0 (wpEs Sg .nil)) := ⟨fun pos pins s σ H Q I q => pk_nil.run pos pins s σ H Q I (by
  obtain ⟨P, st, F, Qd, R, hq, k⟩ := q
  exact k [] st [] H F hq rfl R .nil Stp.refl)⟩
theorem rk_cons {n : Nat} {nm : Option Str} {kpos : Pos} {kws : List Keyword} {ia : E} {jas : Es} (ha : PE X e (tE G (wpE Sg ia))) (hr : PK X kws (tA G n (wpEs Sg jas))) : PK X (⟨nm, e, kpos⟩ :: kws) (tA G (n + 1) (wpEs Sg (.cons ia jas))) :=
  ⟨fun pos pins s σ H Q I q => (pk_cons (pe_D ha) hr).run pos pins s σ H Q I (by
    obtain ⟨P, st, F, Qd, R, hq, k⟩ := q
    refine ⟨P, st, F, fun x st1 => wpEs Sg jas st1 fun xs st2 => Qd (x :: xs) st2, R, hq, fun x st1 v H1 F1 q1 R1 d1 s1 => ?_⟩
    exact ⟨P, st1, F1, fun xs st2 => Qd (x :: xs) st2, R1, q1, fun xs st2 vs H2 F2 q2 hn R2 d2 s2 => k (x :: xs) st2 (v :: vs) H2 F2 q2 (by rw [List.length_cons, hn]) R2 (.cons (d1.mono s2.f) d2) (s1.trans s2)⟩)⟩
/-- the callee's promise from the two rows of arguments -/
theorem callk_imp {x : Str} {ps : List Str} {n m : Nat} {jas : Es} (hl : n + m = ps.length) {σ : L2.St} {H : Hp} {Q : VK} (h : tE G (wpE Sg (.callk x ias jas)) σ H Q) :
    tCallK (spD G.K G.T G.C ps.length (Sg x)) (kcat n) E0 (tA G n (wpEs Sg ias)) (tA G m (wpEs Sg jas)) σ H Q := by
  obtain ⟨P, st, F, Qd, R, hq, k⟩ := h
  refine ⟨P, st, F, fun ds st1 => wpEs Sg jas st1 fun es st2 => Sg x (ds ++ es) st2.cel (fun r c => Qd r { st2 with cel := c }) fun _ _ => False, R, hq, fun ds st1 vs H1 F1 q1 hn R1 d1 s1 => ?_⟩
  refine ⟨P, st1, F1, fun es st2 => Sg x (ds ++ es) st2.cel (fun r c => Qd r { st2 with cel := c }) fun _ _ => False, R1, q1, fun es st2 zs H2 F2 q2 hm R2 d2 s2 => ?_⟩
  show spD G.K G.T G.C ps.length (Sg x) (kcat n vs zs) H2 Q E0
  rw [kcat_of (by rw [← d1.len, hn])]
  refine ⟨G.sub H2 F2, ds ++ es, st2.cel, _, _, rfl, rfl, rfl, rfl, R2.g.enter, by rw [List.length_append]; omega, (d1.mono s2.f).append d2, q2, fun r c' v H' F' hq g' hr => ?_, fun m c' cls d H' F' z => z.elim⟩
  exact k r _ v H' F' hq (R2.leave g') (RetOk.up R2 g' hr) ((s1.trans s2).trans g'.stp)
theorem r_callk {x : Str} {ps : List Str} {n m : Nat} {kws : List Keyword} {jas : Es} (f : FnIs X G Sg k x ps) (hl : n + m = ps.length) (hr : Room k X.A) (hg : Gl X x) (hdb : (x == ("__debug__" : Str)) = false) (ha : PA X (e :: es) (tA G n (wpEs Sg ias)))
    (he : starEach (e :: es) X.env = (false, eval e X.env) :: starEach es X.env) (hkw : PK X kws (tA G m (wpEs Sg jas))) (hall : (backToKw pos (keywordEach kws X.env)).all (·.1.isSome) = true) (hks : (backToKw pos (keywordEach kws X.env)).filterMap (·.1) = ps.drop n)
    (hpl : ((backTo pos (starEach (e :: es) X.env)).any (·.1) || (backToKw pos (keywordEach kws X.env)).any (·.1.isNone)) = false) : PE X (.Call (.Name x p) (e :: es) kws pos) (tE G (wpE Sg (.callk x ias jas))) := by
  obtain ⟨a, fd, hm, hk, F, hb, _⟩ := f.is
  exact pe_imp (pe_callK F hr hg hm hk (hb n (by omega)) passL ha hkw hall hks hdb he hpl) fun σ H Q h => callk_imp hl h
theorem r_callk0 {x : Str} {ps : List Str} {kws : List Keyword} {jas : Es} (f : FnIs X G Sg k x ps) (hr : Room k X.A) (hg : Gl X x) (hdb : (x == ("__debug__" : Str)) = false)
    (hkw : PK X kws (tA G ps.length (wpEs Sg jas))) (hall : (backToKw pos (keywordEach kws X.env)).all (·.1.isSome) = true) (hks : (backToKw pos (keywordEach kws X.env)).filterMap (·.1) = ps)
    (hpl : ((backTo pos (starEach [] X.env)).any (·.1) || (backToKw pos (keywordEach kws X.env)).any (·.1.isNone)) = false) : PE X (.Call (.Name x p) [] kws pos) (tE G (wpE Sg (.callk x .nil jas))) := by
  obtain ⟨a, fd, hm, hk, F, hb, _⟩ := f.is
  have kb := hb 0 (Nat.zero_le _)
  refine ⟨fun pins s σ H Q I h => ?_⟩
  refine wpAny_Call_Name_kw (ld_glob I hg hm ?_ hdb)
  refine PySem.W.callWith_KW0 (h₀ := X.base) I.ok.mod.kin hk hall ?_ hpl
  refine thn (hkw.run pos pins s σ H (fun zs H2 => spD G.K G.T G.C ps.length (Sg x) (kcat 0 [] zs) H2 Q E0) I ?_) fun ws s2 ⟨zs, H2, I2, rz, q2⟩ => ⟨I2.kIn, ?_⟩
  · obtain ⟨P, st, F, Qd, R, hq, kk⟩ := h
    refine ⟨P, st, F, fun es st2 => Sg x ([] ++ es) st2.cel (fun r c => Qd r { st2 with cel := c }) fun _ _ => False, R, hq, fun es st2 zs H2 F2 q2 hm R2 d2 s2 => ?_⟩
    show spD G.K G.T G.C ps.length (Sg x) zs H2 Q E0
    refine ⟨G.sub H2 F2, [] ++ es, st2.cel, _, _, rfl, rfl, rfl, rfl, R2.g.enter, hm, (by rw [List.nil_append]; exact d2), q2, fun r c' v H' F' hq g' hr => ?_, fun m c' cls d H' F' z => z.elim⟩
    exact kk r _ v H' F' hq (R2.leave g') (RetOk.up R2 g' hr) (s2.trans g'.stp)
  · rw [hks]
    exact run_fnk (us := []) F hr kb passL I2 .nil rz q2
end
end DL
end
section
namespace DL
open PySem PySem.Spec PyProof.Rows L2
section
variable {X : Cx} {G : En} {Sg : Tab} {a e : Expr} {ia : E} {pos p : Pos}
theorem boot_bool : bootBuiltins "bool" = some (.type "bool") := by decide +kernel
theorem boot_int' : bootBuiltins "int" = some (.type "int") := by decide +kernel
theorem boot_tuple' : bootBuiltins "tuple" = some (.type "tuple") := by decide +kernel
/-- the type's name of plain data -/
def D.ty : D → String
  | .non => "NoneType"
  | .bl _ => "bool"
  | .int _ => "int"
  | .str _ => "str"
  | .tup _ => "tuple"
  | .lst _ => "list"
  | .scr _ => "list"
  | .cell => "list"
theorem Dat.ty {K : PySem.W.Frag} {ca : Option Addr} {F H : Hp} {d : D} {v : V} (h : Dat K ca F d v) (ex : Evl.Ex F H) (hp : d.plain = true) : TyX K H v (.type d.ty) := by
  cases h with
  | non => exact .base .non
  | bl b => exact .base (.bl b)
  | int i => exact .base (.int i)
  | str s => exact .base (.str s)
  | tup q r =>
    rcases q with (q | ⟨o, q⟩) | ⟨o, its, n, q, c, _⟩
    · exact .base (.tup (ex _ _ q))
    · exact .fTuple (ex _ _ q)
    · exact .kTuple q c
  | lst q r => exact .base (.lst (ex _ _ q))
  | scr q => cases hp
  | cell q => cases hp
theorem isi_kit {T : String} (hT : T = "int" ∨ T = "bool" ∨ T = "tuple") : ∀ d : D, d.plain = true → kitB d.ty T = some (d.isA (Str.ofString T)) := by
  intro d hp
  have key : ∀ d ∈ [D.non, .bl true, .int 0, .str (Str.ofString ""), .tup [], .lst []], kitB d.ty T = some (d.isA (Str.ofString T)) := by
    rcases hT with rfl | rfl | rfl
    all_goals (
      intro d hd
      simp only [List.mem_cons, List.not_mem_nil, or_false] at hd
      rcases hd with rfl | rfl | rfl | rfl | rfl | rfl <;> decide +kernel)
  cases d with
  | non => exact key .non (by simp)
  | bl b => exact key (.bl true) (by simp)
  | int i => exact key (.int 0) (by simp)
  | str s => exact key (.str (Str.ofString "")) (by simp)
  | tup xs => exact key (.tup []) (by simp)
  | lst xs => exact key (.lst []) (by simp)
  | scr ns => cases hp
  | cell => cases hp
theorem r_isi {T : String} {x : Str} {px : Pos} (hK : X.K = G.K) (hx : x = Str.ofString T) (hT : T = "int" ∨ T = "bool" ∨ T = "tuple") (hg : Gl X "isinstance") (hm : X.mg "isinstance" = none) (hg2 : Gl X x) (hm2 : X.mg x = none) (ha : PE X a (tE G (wpE Sg ia)))
    (he : starEach [a, .Name x px] X.env = (false, eval a X.env) :: starEach [.Name x px] X.env) (he2 : starEach [.Name x px] X.env = (false, eval (.Name x px) X.env) :: starEach [] X.env) (hpl : (backTo pos (starEach [.Name x px] X.env)).any (·.1) = false) :
    PE X (.Call (.Name "isinstance" p) [a, .Name x px] [] pos) (tE G (wpE Sg (.isi x ia))) := by
  have hb : bootBuiltins x = some (.type T) := by
    subst hx
    rcases hT with rfl | rfl | rfl
    · exact boot_int'
    · exact boot_bool
    · exact boot_tuple'
  have hn : x ≠ "__name__" ∧ (x == ("__debug__" : Str)) = false := by
    subst hx
    rcases hT with rfl | rfl | rfl <;> exact ⟨by decide, by decide⟩
  have hty : PE X (.Name x px) (tC (.ty T)) := pe_bltn hg2 hm2 hb rfl hn.1 hn.2
  refine pe_imp (pe_callB call_isi hg hm boot_isinstance (pa_cons (pe_D ha) (pa_cons hty pa_nil he2) he) (by decide) (by decide) he hpl) fun σ H Q ⟨P, st, F, Qd, R, hq, k⟩ => ?_
  refine ⟨P, st, F, fun d st1 => d.plain = true ∧ Qd (.d (.bl (d.isA x))) st1, R, hq, fun d st1 v H1 F1 q1 R1 d1 s1 => ?_⟩
  rw [hK]
  refine ⟨v, .ty T, .type d.ty, .type T, d.isA x, rfl, .ty T, d1.ty R1.g.ex q1.1, kit_ty ?_, k (.d (.bl _)) st1 _ H1 F1 q1.2 R1 (.bl _) s1⟩
  rw [hx]
  exact isi_kit hT d q1.1
/-- len(x), x a slot -/
theorem r_lenv {i : Nat} {x : Str} {px : Pos} (hK : X.K = G.K) (hN : X.N[i]? = some x) (hv : Vis X.env.scope x) (hd : (x == ("__debug__" : Str)) = false) (hcd : (x == ("__classdict__" : Str)) = false) (hg : Gl X "len") (hm : X.mg "len" = none) :
    PE X (.Call (.Name "len" p) [.Name x px] [] pos) (tE G (wpE Sg (.lenv i))) := by
  refine pe_imp (pe_callB (CallR.or call_len_seq call_len_dT) hg hm boot_len (pa_cons (pe_var hN hv hd hcd) pa_nil rfl) (by decide) (by decide) rfl rfl) fun σ H Q ⟨P, st, F, Qd, R, hq, k⟩ => ?_
  have hq' : match st.env[i]? with
    | some (.d x) => ∃ xs, x.items = some xs ∧ Qd (.d (.int xs.length)) st
    | some (.own xs) => Qd (.d (.int xs.length)) st
    | some (.dk ks) => Qd (.d (.int ks.length)) st
    | _ => False := hq
  rw [hK]
  split at hq'
  · rename_i y e1
    obtain ⟨v, ev, d⟩ := R.slot i _ e1
    obtain ⟨xs, e2, q⟩ := hq'
    obtain ⟨a1, vs, rfl, h1, d1⟩ := d.hd e2
    refine ⟨_, ev, .inl ⟨a1, vs, rfl, h1.imp R.g.l R.g.t, ?_⟩⟩
    rw [← d1.len]
    exact k (.d (.int _)) st _ H F q R (.int _) Stp.refl
  · rename_i xs e1
    obtain ⟨a1, vs, ev, w, hp, d⟩ := R.slot i _ e1
    refine ⟨_, ev, .inl ⟨a1, vs, rfl, .inl (Evl.sq_of hp), ?_⟩⟩
    rw [← d.len]
    exact k (.d (.int _)) st _ H F hq' R (.int _) Stp.refl
  · rename_i ks e1
    obtain ⟨a1, ev, w, hp⟩ := R.slot i _ e1
    refine ⟨_, ev, .inr ⟨a1, _, rfl, hp, ?_⟩⟩
    rw [List.length_map]
    exact k (.d (.int _)) st _ H F hq' R (.int _) Stp.refl
  · exact hq'.elim
theorem r_tpl {es : List Expr} {ias : Es} {j n : Nat} (hl : n ≤ 1000) (h : PA X es (tA G n (wpEs Sg ias))) : PE X (.Tuple es j pos) (tE G (wpE Sg (.tpl ias))) := by
  refine pe_imp (pe_tup h) (args_imp (r := fun xs H1 Q => xs.length ≤ sizeLine ∧ ∀ p, H1 p = none → Q (.ref p) (upd H1 p (.tup xs))) fun st Q h => ⟨fun xs st1 => Q (.tp xs) st1, h, ?_⟩)
  intro P xs st2 σ vs H2 F2 K q hn R d k
  refine ⟨by rw [← d.len]; exact sz (by omega), fun p hp => ?_⟩
  exact k (.tp xs) (.ref p) _ (upd F2 p (.tup vs)) q (R.newF hp noT_tup) ⟨p, vs, rfl, upd_same, d.mono (Evl.Ex.new (R.g.none0 hp))⟩ (Stp.newF hp (R.g.none0 hp))
theorem r_vtp {i : Nat} {x : Str} (hN : X.N[i]? = some x) (hv : Vis X.env.scope x) (hd : (x == ("__debug__" : Str)) = false) (hcd : (x == ("__classdict__" : Str)) = false) : PE X (.Name x pos) (tE G (wpE Sg (.vtp i))) := by
  refine pe_imp (pe_var hN hv hd hcd) fun σ H Q ⟨P, st, F, Qd, R, hq, k⟩ => ?_
  have hq' : match st.env[i]? with
    | some (.tp xs) => Qd (.tp xs) st
    | _ => False := hq
  split at hq'
  · rename_i xs e
    obtain ⟨p, vs, e2, hp, d⟩ := R.slot i _ e
    exact ⟨.ref p, e2, k (.tp xs) st _ H F hq' R ⟨p, vs, rfl, hp, d⟩ Stp.refl⟩
  · exact hq'.elim
theorem rts_no : PTs X [] (tT G fun st Q => wpC Sg .no st Q) := ⟨fun pins s σ H Q I q => pts_nil.run pins s σ H Q I (by
  obtain ⟨P, st, F, Qd, R, hq, k⟩ := q
  exact k true st H F hq R Stp.refl)⟩
theorem rts_yes {c : Expr} {ic : E} (h : PT X c (tT G (toB (wpE Sg ic)))) : PTs X [c] (tT G fun st Q => wpC Sg (.yes ic) st Q) := pts_one h
theorem r_comp {t : Tg} {is : Src} {ic : Eo} {ie : E} {elt tg iter : Expr} {ifs : List Expr} {scope : Scope} {own : List (Str × Nat)} {g : TG} (hc : X.calm = true) (hN : X.N.Nodup) (ok : BlkOk X.N X.env.scope scope own) (ho : own.map (·.2) = t.slots) (to : TgOk G t g)
    (hi : PI X tg iter (tI G (wpI Sg is))) (hg : ∀ (s : Shared) (H : Hp) (C : Addr) (cl : List (Str × Addr)) (fp : List Addr), PG (X.blk s H scope (compEnvC scope cl C X.env) fp) tg g)
    (ht : ∀ (s : Shared) (H : Hp) (C : Addr) (cl : List (Str × Addr)) (fp : List Addr), PTs (X.blk s H scope (compEnvC scope cl C X.env) fp) ifs (tT G fun st Q => wpC Sg ic st Q))
    (he : ∀ (s : Shared) (H : Hp) (C : Addr) (cl : List (Str × Addr)) (fp : List Addr), PE (X.blk s H scope (compEnvC scope cl C X.env) fp) elt (tE G (wpE Sg ie))) (hs : ∀ x, foldedSetIterable iter X.env x = pure x) :
    PE X (.ListComp elt [⟨tg, iter, ifs, 0⟩] scope pos) (tE G (wpE Sg (.comp t is ic ie))) := by
  have h := pe_lc (pos := pos) hc hN hi ok hg ht (fun s H C cl fp => pe_D (he s H C cl fp)) hs
  rw [ho] at h
  exact pe_imp h fun σ H Q q => lc_imp to q
theorem rs_comp {t : Tg} {is : Src} {ic : Eo} {ie : E} {elt tg iter : Expr} {ifs : List Expr} {scope : Scope} {own : List (Str × Nat)} {g : TG} {i : Nat} {y : Str} {py spos : Pos} (hc : X.calm = true) (hN : X.N.Nodup) (hy : X.N[i]? = some y) (hyl : X.env.scope.names.lookup y = some .local)
    (hsw : swapsWith (.ListComp elt [⟨tg, iter, ifs, 0⟩] scope pos) (some (.Name y py)) spos.line X.env = pure true) (ok : BlkOk X.N X.env.scope scope own) (ho : own.map (·.2) = t.slots) (to : TgOk G t g)
    (hi : PI X tg iter (tI G (wpI Sg is))) (hg : ∀ (s : Shared) (H : Hp) (C : Addr) (cl : List (Str × Addr)) (fp : List Addr), PG (X.blk s H scope (compEnvC scope cl C X.env) fp) tg g)
    (ht : ∀ (s : Shared) (H : Hp) (C : Addr) (cl : List (Str × Addr)) (fp : List Addr), PTs (X.blk s H scope (compEnvC scope cl C X.env) fp) ifs (tT G fun st Q => wpC Sg ic st Q))
    (he : ∀ (s : Shared) (H : Hp) (C : Addr) (cl : List (Str × Addr)) (fp : List Addr), PE (X.blk s H scope (compEnvC scope cl C X.env) fp) elt (tE G (wpE Sg ie))) (hs : ∀ x, foldedSetIterable iter X.env x = pure x) :
    PS X (.Assign [.Name y py] (.ListComp elt [⟨tg, iter, ifs, 0⟩] scope pos) spos) (tAsg (tE G (wpE Sg (.comp t is ic ie))) (gName i)) := by
  have h := ps_setLc (pos := pos) hc hN hy hyl hsw hi ok hg ht (fun s H C cl fp => pe_D (he s H C cl fp)) hs
  rw [ho] at h
  exact ps_imp h fun D σ H q => lc_imp to q
end
end DL
end
section
namespace DL
open PySem PySem.Spec PyProof.Rows L2
section
variable {prog : Program} {w : World} {A : Around} {E : Value → Shared → Prop} {s : Shared}
theorem adj_rev (n : Nat) : Builtin.Slice.sliceAdjust none none (-1) (n : Int) = ((n : Int) - 1, -1) := by
  unfold Builtin.Slice.sliceAdjust
  simp
theorem places_rev (n : Nat) : Builtin.Slice.slicePlaces ((n : Int) - 1) (-1) (-1) = n := by
  unfold Builtin.Slice.slicePlaces
  simp
  omega
theorem pick_rev (xs : Array Value) : (((List.range xs.size).filterMap fun (k : Nat) => xs[(((xs.size : Nat) : Int) - 1 + (k : Int) * (-1)).toNat]?).toArray) = xs.toList.reverse.toArray := by
  have e : (List.range xs.size).filterMap (fun (k : Nat) => xs[(((xs.size : Nat) : Int) - 1 + (k : Int) * (-1)).toNat]?) = ((List.range xs.size).map fun k => xs.size - 1 - k).filterMap (xs[·]?) := by
    rw [List.filterMap_map]
    have g : ∀ l : List Nat, (∀ k ∈ l, k < xs.size) → l.filterMap (fun (k : Nat) => xs[(((xs.size : Nat) : Int) - 1 + (k : Int) * (-1)).toNat]?) = l.filterMap ((xs[·]?) ∘ fun k => xs.size - 1 - k) := by
      intro l
      induction l with
      | nil => intro _; rfl
      | cons k l ih =>
        intro h
        have hk := h k List.mem_cons_self
        have e1 : (((xs.size : Nat) : Int) - 1 + (k : Int) * (-1)).toNat = xs.size - 1 - k := by omega
        rw [List.filterMap_cons, List.filterMap_cons, ih fun j hj => h j (List.mem_cons_of_mem _ hj)]
        rw [e1]
        rfl
    exact g _ fun k hk => List.mem_range.mp hk
  rw [e, PySem.W.krv_range, List.filterMap_reverse, PySem.W.krv_all]
theorem getItem_tuple_rev {t sl : Addr} {items : Array Value} {vl vu vs : Value} {Q : Value → Shared → Prop} (ht : IsTup s.heap t items) (hs : s.heap.IsSliceOf sl vl vu vs) (pl : IsPart vl none) (pu : IsPart vu none) (ps : IsPart vs (some (-1)))
    (h : Q (.ref s.heap.objs.size) { s with heap := s.heap.push { cls := .type "tuple", data := .seq items.toList.reverse.toArray } })
    (hsz : items.size ≤ sizeLine) : wpAny (model prog w) A (getItem (.ref t) (.ref sl)) Q E s := by
  have htake : sizeOk (.seq items.toList.reverse.toArray) := by
    show items.toList.reverse.toArray.size ≤ sizeLine
    rw [List.size_toArray, List.length_reverse, Array.length_toList]
    exact hsz
  obtain ⟨os, hos, hcs, hds⟩ := id hs
  have hTs : s.TypeIs (.ref sl) "slice" := ⟨os, hos, hcs⟩
  unfold getItem
  try with_reducible refine wpAny_holding ?_
  first | refine wpAny_bind (wpAny_pure ?_) | skip
  refine wpAny_bind (wpAny_sequenceKey ht.typeIs (by decide) ?_)
  refine wpAny_bind (wpAny_callSpecial?_slot (name := Str.ofString "__getitem__") ht.typeIs PyProof.Rows.slot_tuple_getitem
    (wpAny_call_entry PyProof.Rows.slot_tuple_getitem ht.typeIs PyProof.Rows.entry_tuple_getitem ?_ (PyProof.Rows.args_tuple_getitem _ _)))
  show wpAny _ _ (Builtin.Tuple.tupleItemsOf (.ref t) >>= _) _ _ s
  refine wpAny_bind (PyProof.Rows.tupleItemsOf_ ht ?_)
  refine wpAny_bind (wpAny_typeOf hTs ?_)
  rw [if_pos (by decide)]
  refine wpAny_bind (m := Builtin.Slice.sliceApplied (.ref sl) (pure (items.size : Int))) ?_
  unfold Builtin.Slice.sliceApplied Builtin.Slice.sliceFields
  refine wpAny_bind (wpAny_bind (wpAny_field hos hds (x := vl) rfl (wpAny_bind (wpAny_field hos hds (x := vu) rfl (wpAny_bind (wpAny_field hos hds (x := vs) rfl (wpAny_pure ?_)))))))
  refine wpAny_bind (HT.slicePart_ ps ?_)
  show wpAny _ _ (if ((-1 : Int) == 0) = true then _ else _) _ _ s
  rw [if_neg (by decide)]
  refine wpAny_bind (HT.slicePart_ pl (wpAny_bind (HT.slicePart_ pu (wpAny_bind (wpAny_pure ?_)))))
  show wpAny _ _ (match Builtin.Slice.sliceAdjust none none (-1) (items.size : Int) with | (lo, hi) => pure (lo, (-1 : Int), Builtin.Slice.slicePlaces lo hi (-1))) _ _ s
  rw [adj_rev]
  show wpAny _ _ (pure (((items.size : Int) - 1), (-1 : Int), Builtin.Slice.slicePlaces ((items.size : Int) - 1) (-1) (-1))) _ _ s
  rw [places_rev]
  refine wpAny_pure ?_
  have hno : ¬ ((((items.size : Nat) : Int) - 1 == 0 && (-1 : Int) == 1 && items.size == items.size) = true) := by simp
  show wpAny _ _ (if (((items.size : Nat) : Int) - 1 == 0 && (-1 : Int) == 1 && items.size == items.size) = true then _ else _) _ _ s
  rw [if_neg hno, pick_rev]
  first
    | exact wpAny_bind (m := Builtin.Tuple.tupleExact _) (wpAny_newObj_type (wpAny_pure ⟨_, rfl, wpAny_pure h⟩) htake)
    | exact wpAny_bind (m := Builtin.Tuple.tupleExact _) (wpAny_newObj_type (wpAny_bind (wpAny_pure (wpAny_pure ⟨_, rfl, wpAny_pure h⟩))) htake)
    | exact wpAny_bind (wpAny_bind (m := Builtin.Tuple.tupleExact _) (wpAny_newObj_type (wpAny_pure (wpAny_pure ⟨_, rfl, wpAny_pure h⟩)) htake))
    | exact wpAny_bind (wpAny_bind (m := Builtin.Tuple.tupleExact _) (wpAny_newObj_type (wpAny_pure ⟨_, rfl, wpAny_pure h⟩) htake))
end
section
variable {X : Cx} {G : En} {Sg : Tab} {a b e : Expr} {ia ib : E} {es : List Expr} {ias : Es} {pos p : Pos}
/-- x[::-1] of a tuple, of a list -/
def tRevA (K : PySem.W.Frag) (te : TE) : TE := fun σ H Q => te σ H fun x H1 => ∃ a xs, x = .ref a ∧ ((SqL K H1 a xs ∧ ∀ p, H1 p = none → Q (.ref p) (upd H1 p (.lst xs.reverse))) ∨ (SqT K H1 a xs ∧ ∀ p, H1 p = none → Q (.ref p) (upd H1 p (.tup xs.reverse))))
theorem pe_revA {e : Expr} {te : TE} {k : Nat} {p1 p2 p3 pos : Pos} (he : PE X e te) : PE X (.Subscript e (.Slice none none (some (.UnaryOp .USub (.Constant (.int 1) k p1) p2)) p3) pos) (tRevA X.K te) := by
  refine ⟨fun pins s σ H Q I h => ?_⟩
  refine Subscript_ (thn (he.run pins s σ H _ I h) fun v s1 ⟨x, H1, I1, r1, q1⟩ => ?_)
  obtain ⟨a, xs, ex, hx⟩ := q1
  subst ex
  cases r1
  have hst : PO X (some (.UnaryOp .USub (.Constant (.int 1) k p1) p2)) (tPart (tUn (rU fun i => .int (-i)) (tC (.int 1)))) := po_some (pe_un un_neg pe_int)
  refine wpAny_Slice (thn (po_none.run pins s1 σ H1 (fun o H2 => o = none ∧ H2 = H1) I1 ⟨rfl, rfl⟩) fun vl s2 ⟨l, H2, I2, pl, el, e2⟩ => ?_)
  subst el e2
  refine thn (po_none.run pins s2 σ H2 (fun o H3 => o = none ∧ H3 = H2) I2 ⟨rfl, rfl⟩) fun vu s3 ⟨u, H3, I3, pu, eu, e3⟩ => ?_
  subst eu e3
  refine thn (hst.run pins s3 σ H3 (fun o H4 => o = some (-1) ∧ H4 = H3) I3 ⟨1, rfl, -1, rfl, rfl, rfl⟩) fun vs s4 ⟨o, H4, I4, ps, eo, e4⟩ => ?_
  subst eo e4
  have I5 : Inv X pins σ H4 { s4 with heap := s4.heap.push { cls := .type "slice", data := .fields #[vl, vu, vs] } } := I4.kept (t' := s4.toks) fun b ob q => Heap.get?_push_of_some _ q
  show wpAny (model X.prog X.w) X.A (subscriptTail e (.Slice none none (some (.UnaryOp .USub (.Constant (.int 1) k p1) p2)) p3) (.ref a) (.ref s4.heap.objs.size)) (EP X pins σ Q) X.xe { s4 with heap := s4.heap.push { cls := .type "slice", data := .fields #[vl, vu, vs] } }
  rcases hx with ⟨hx, q⟩ | ⟨hx, q⟩
  · obtain ⟨its, r, ht, hz⟩ := I5.list hx
    have hlen := r.length
    refine tail_any (ops := [.ref a, .ref s4.heap.objs.size]) ht.isList.typeIs (PySem.slot_list_getitem.lookup) ?_ (by with_unfolding_all rfl)
    refine wpAny_getItem_list_slice ht.isList (Heap.IsSliceOf.new _ vl vu vs) pl pu ps (by decide) ?_ (by rw [List.size_toArray]; omega)
    rw [PySem.W.krv_pick]
    refine ⟨.ref _, _, I5.laid (t' := s4.toks) (o := .lst xs.reverse) (fun b ob q => Heap.get?_push_of_some _ q) (Nat.le_refl _) ?_, rfl, q _ (I5.hok.fresh (Nat.le_refl _))⟩
    exact ⟨by rw [List.length_reverse]; exact hz, _, 0, r.reverse, Heap.get?_push_size _ rfl⟩
  · obtain ⟨its, r, ht, hz⟩ := I5.tuple hx
    have hlen := r.length
    refine tail_any (ops := [.ref a, .ref s4.heap.objs.size]) ht.typeIs (PyProof.Rows.slot_tuple_getitem.lookup) ?_ (by with_unfolding_all rfl)
    refine getItem_tuple_rev ht (Heap.IsSliceOf.new _ vl vu vs) pl pu ps ?_ (by rw [List.size_toArray]; omega)
    refine ⟨.ref _, _, I5.laid (t' := s4.toks) (o := .tup xs.reverse) (fun b ob q => Heap.get?_push_of_some _ q) (Nat.le_refl _) ?_, rfl, q _ (I5.hok.fresh (Nat.le_refl _))⟩
    exact ⟨by rw [List.length_reverse]; exact hz, _, r.reverse, IsTup.new _ _⟩
theorem r_rev {k : Nat} {p1 p2 p3 : Pos} (hK : X.K = G.K) (ha : PE X a (tE G (wpE Sg ia))) : PE X (.Subscript a (.Slice none none (some (.UnaryOp .USub (.Constant (.int 1) k p1) p2)) p3) pos) (tE G (wpE Sg (.rev ia))) := by
  refine pe_imp (pe_revA (pe_D ha)) fun σ H Q ⟨P, st, F, Qd, R, hq, k⟩ => ?_
  refine ⟨P, st, F, fun x st1 => match x with
    | .tup xs => Qd (.d (.tup xs.reverse)) st1
    | .lst xs => Qd (.own xs.reverse) st1
    | _ => False, R, hq, fun x st1 v H1 F1 q1 R1 d1 s1 => ?_⟩
  rw [hK]
  dsimp only at q1
  split at q1
  · obtain ⟨a1, vs, rfl, h1, dd⟩ := d1.tup_iff
    exact ⟨a1, vs, rfl, .inr ⟨R1.g.t h1, fun p hp => out_t R1 (fun r v H' F' q R' o s => k r st1 v H' F' q R' o (s1.trans s)) q1 dd.rev hp⟩⟩
  · obtain ⟨a1, vs, rfl, h1, dd⟩ := d1.lst_iff
    exact ⟨a1, vs, rfl, .inl ⟨R1.g.l (Evl.sq_of h1), fun p hp => out_l R1 (fun r v H' F' q R' o s => k r st1 v H' F' q R' o (s1.trans s)) q1 dd.rev hp⟩⟩
  · exact q1.elim

def Uq (K : PySem.W.Frag) (H : Hp) : Prop := ∀ (t : Addr) (i j a b : Int), SqT K H t [.int i, .int j] → SqT K H t [.int a, .int b] → i = a ∧ j = b
def rSrt (K : PySem.W.Frag) : List V → Hp → VK → Prop := fun vs H Q => ∃ (a : Addr) (xs : List V), vs = [V.ref a] ∧ SqL K H a xs ∧ (Uq K H → ∃ (k : V → Int × Int), (∀ x ∈ xs, ∃ t, x = V.ref t ∧ SqT K H t [.int (k x).1, .int (k x).2]) ∧
  ∀ ys p, SrtO.Srtd (ltP k) ys → SrtO.Stb (ltP k) ys xs → H p = none → Q (.ref p) (upd H p (.lst ys)))
theorem inv_uq {pins : List (Addr × Obj)} {σ : L2.St} {H : Hp} {s : Shared} (I : Inv X pins σ H s) : Uq X.K H := by
  intro t i j a b h1 h2
  obtain ⟨its1, r1, ⟨o1, ho1, hc1, n1, hd1⟩, _⟩ := I.tuple h1
  obtain ⟨its2, r2, ⟨o2, ho2, hc2, n2, hd2⟩, _⟩ := I.tuple h2
  rw [ho1] at ho2
  cases ho2
  rw [hd1] at hd2
  injection hd2 with e1 _
  have e2 : its1 = its2 := by simpa using e1
  subst e2
  obtain ⟨u1, u2, rfl, ri, rj⟩ := vals2 r1
  obtain ⟨w1, w2, e3, ra, rb⟩ := vals2 r2
  injection e3 with e4 e5
  injection e5 with e5 _
  subst e4 e5
  obtain ⟨t1, e6⟩ := ri
  obtain ⟨t2, e7⟩ := ra
  rw [e6] at e7
  injection e7 with e7 _
  obtain ⟨t3, e8⟩ := rj
  obtain ⟨t4, e9⟩ := rb
  rw [e8] at e9
  injection e9 with e9 _
  exact ⟨e7, e9⟩
theorem cr_srt : CallR X (.builtin "sorted") (rSrt X.K) := by
  intro pins s σ H vs us Q I r h
  obtain ⟨a, xs, rfl, hs, hh⟩ := h
  obtain ⟨k, hx, q⟩ := hh (inv_uq I)
  obtain ⟨its, rv, hl, hz⟩ := I.list hs
  obtain ⟨u, rfl, ru⟩ := vals1 r
  obtain rfl : u = Value.ref a := ru
  obtain ⟨e1, e2⟩ := refs_back rv fun x m => by
    obtain ⟨t, e, _⟩ := hx x m
    exact ⟨t, e⟩
  refine SrtO.sorted_pairsO (k := fun u => k (backV u)) hl.isList (by rw [← rv.length]; exact hz) (fun v hv => ?_) fun h' d out h1 h2 kp hd hn => ?_
  · obtain ⟨t, rfl⟩ := e2 v hv
    have hm : V.ref t ∈ xs := by rw [e1]; exact List.mem_map.mpr ⟨_, hv, rfl⟩
    obtain ⟨t', e, ht⟩ := hx _ hm
    cases e
    obtain ⟨its2, r2, ⟨o, ho, hc, n, hd⟩, _⟩ := I.tuple ht
    obtain ⟨u1, u2, rfl, ri, rj⟩ := vals2 r2
    obtain ⟨t1, rfl⟩ := ri
    obtain ⟨t2, rfl⟩ := rj
    exact ⟨t, o, t1, t2, n, rfl, ho, hc, hd⟩
  · have h3 : ∀ u ∈ out, ∃ a, u = Value.ref a := fun u hu => e2 u (h2.perm.mem_iff.mp hu)
    obtain ⟨n, hn⟩ := hn
    have hb : SrtO.Stb (ltP k) (out.map backV) xs := by
      rw [e1]
      exact SrtO.Stb.map (ltP_swo k) backV h2
    refine ⟨.ref d, upd H d (.lst (out.map backV)), I.laid (t' := s.toks) kp hd ⟨?_, out, n, vals_back h3, hn⟩, rfl, q _ d (SrtO.srtd_map h1) hb (I.hok.fresh hd)⟩
    rw [hb.len]
    exact hz
/-- data from values, along a permutation -/
theorem dats_perm {K : PySem.W.Frag} {ca : Option Addr} {F : Hp} {xs ys : List V} (hp : ys.Perm xs) : ∀ {ds : List D}, Dats K ca F ds xs → ∃ es, es.Perm ds ∧ Dats K ca F es ys := by
  induction hp with
  | nil => intro ds h; exact ⟨ds, List.Perm.refl _, h⟩
  | cons x _ ih =>
    intro ds h
    cases h with
    | cons a b =>
      obtain ⟨es, h1, h2⟩ := ih b
      exact ⟨_ :: es, h1.cons _, .cons a h2⟩
  | swap x y l =>
    intro ds h
    cases h with
    | cons a b =>
      cases b with
      | cons b c => exact ⟨_ :: _ :: _, List.Perm.swap _ _ _, .cons b (.cons a c)⟩
  | trans _ _ ih1 ih2 =>
    intro ds h
    obtain ⟨es, h1, h2⟩ := ih2 h
    obtain ⟨fs, h3, h4⟩ := ih1 h2
    exact ⟨fs, h3.trans h1, h4⟩
theorem dats_pairs {K : PySem.W.Frag} {ca : Option Addr} {F : Hp} : ∀ {ps : List (Int × Int)} {vs : List V}, Dats K ca F (ps.map pairD) vs → ∀ x ∈ vs, ∃ t p, x = V.ref t ∧ SqT K F t [.int (p : Int × Int).1, .int p.2]
  | [], _, h, x, hx => by
    cases h
    cases hx
  | p :: ps, _, h, x, hx => by
    cases h with
    | cons a b =>
      rcases List.mem_cons.mp hx with z | z
      · subst z
        obtain ⟨t, us, rfl, h1, d1⟩ := Dat.tup_iff (show Dat K ca F (.tup [.int p.1, .int p.2]) x from a)
        obtain ⟨u, w, rfl, e1, e2⟩ := ds2 d1
        cases e1
        cases e2
        exact ⟨t, p, rfl, h1⟩
      · exact dats_pairs b x z
/-- what pair lies at a value -/
noncomputable def pairAt (K : PySem.W.Frag) (F : Hp) (x : V) : Int × Int := open Classical in if h : ∃ p : Int × Int, ∃ t, x = V.ref t ∧ SqT K F t [.int p.1, .int p.2] then Classical.choose h else (0, 0)
theorem pairAt_of {K : PySem.W.Frag} {F : Hp} {x : V} {p : Int × Int} {t : Addr} (e : x = V.ref t) (h : SqT K F t [.int p.1, .int p.2]) : ∃ t, x = V.ref t ∧ SqT K F t [.int (pairAt K F x).1, .int (pairAt K F x).2] := by
  have q : ∃ p : Int × Int, ∃ t, x = V.ref t ∧ SqT K F t [.int p.1, .int p.2] := ⟨p, t, e, h⟩
  unfold pairAt
  rw [dif_pos q]
  exact Classical.choose_spec q
theorem ofInts2 {i j a b : Int} (h : [V.int i, V.int j] = [V.int a, V.int b]) : i = a ∧ j = b := by
  injection h with h1 h2
  injection h2 with h3 _
  injection h1 with h1
  injection h3 with h3
  exact ⟨h1, h3⟩
theorem pairs_of {K : PySem.W.Frag} {ca : Option Addr} {F : Hp} {k : V → Int × Int} : ∀ {ys : List V}, (∀ x ∈ ys, ∃ t, x = V.ref t ∧ SqT K F t [.int (k x).1, .int (k x).2]) → Dats K ca F ((ys.map k).map pairD) ys
  | [], _ => .nil
  | y :: ys, h => by
    refine .cons ?_ (pairs_of fun x hx => h x (List.mem_cons_of_mem _ hx))
    obtain ⟨t, e, q⟩ := h y List.mem_cons_self
    have : Dat K ca F (.tup [.int (k y).1, .int (k y).2]) (.ref t) := .tup q (.cons (.int _) (.cons (.int _) .nil))
    rw [e] at this ⊢
    exact this
theorem dats_uniq {K : PySem.W.Frag} {ca : Option Addr} {F : Hp} {k : V → Int × Int} (uq : Uq K F) : ∀ {ps : List (Int × Int)} {us : List V}, Dats K ca F (ps.map pairD) us → (∀ x ∈ us, ∃ t, x = V.ref t ∧ SqT K F t [.int (k x).1, .int (k x).2]) → us.map k = ps
  | [], _, h, _ => by
    cases h
    rfl
  | p :: ps, _, h, hk => by
    cases h with
    | @cons _ _ v _ a b =>
      obtain ⟨t, us, e, h1, d1⟩ := Dat.tup_iff (show Dat K ca F (.tup [.int p.1, .int p.2]) v from a)
      obtain ⟨u, w, rfl, e1, e2⟩ := ds2 d1
      cases e1
      cases e2
      obtain ⟨t2, e4, h4⟩ := hk v List.mem_cons_self
      rw [e] at e4
      cases e4
      obtain ⟨z1, z2⟩ := uq _ _ _ _ _ h1 h4
      rw [List.map_cons, dats_uniq uq b fun x hx => hk x (List.mem_cons_of_mem _ hx)]
      congr 1
      exact Prod.ext z1.symm z2.symm
theorem r_sorted {n : Nat} (hK : X.K = G.K) (hg : Gl X "sorted") (hm : X.mg "sorted" = none) (h : PA X (e :: es) (tA G n (wpEs Sg ias))) (he : starEach (e :: es) X.env = (false, eval e X.env) :: starEach es X.env) (hpl : (backTo pos (starEach es X.env)).any (·.1) = false) :
    PE X (.Call (.Name "sorted" p) (e :: es) [] pos) (tE G (wpE Sg (.bi .sorted ias))) := by
  refine r_fn (pe_callB cr_srt hg hm (by decide +kernel) h (by decide) (by decide) he hpl) fun P xs st σ vs H F K Q q R d k => ?_
  obtain ⟨ps, rfl, hl, q⟩ := q
  obtain ⟨v, rfl, g⟩ := ds1 d
  obtain ⟨a, us, rfl, hl2, dd⟩ := g.lst_iff
  have dH := dd.mono R.g.ex
  have hkH : ∀ x ∈ us, ∃ t, x = V.ref t ∧ SqT G.K H t [.int (pairAt G.K F x).1, .int (pairAt G.K F x).2] ∧ SqT G.K F t [.int (pairAt G.K F x).1, .int (pairAt G.K F x).2] := fun x hx => by
    obtain ⟨t, p, e1, e2⟩ := dats_pairs dd x hx
    obtain ⟨t', e3, e4⟩ := pairAt_of e1 e2
    exact ⟨t', e3, R.g.t e4, e4⟩
  have hk : ∀ x ∈ us, ∃ t, x = V.ref t ∧ SqT G.K H t [.int (pairAt G.K F x).1, .int (pairAt G.K F x).2] := fun x hx => by
    obtain ⟨t, e1, e2, _⟩ := hkH x hx
    exact ⟨t, e1, e2⟩
  rw [hK]
  refine ⟨a, us, rfl, R.g.l (Evl.sq_of hl2), fun uq => ⟨pairAt G.K F, hk, fun ys p h1 h2 hp => ?_⟩⟩
  · have e3 : us.map (pairAt G.K F) = ps := dats_uniq uq dH hk
    refine out_l (xs := (ys.map (pairAt G.K F)).map pairD) R k (q _ ?_ ?_) (pairs_of fun x hx => by
      obtain ⟨t, e1, _, e2⟩ := hkH x (h2.perm.mem_iff.mp hx)
      exact ⟨t, e1, e2⟩) hp
    · rw [← e3]
      exact h2.perm.map _
    · rw [List.pairwise_map]
      refine List.Pairwise.imp ?_ h1
      intro x y hxy hlt
      have := SrtO.lexB_no.mp hxy
      unfold ltP2 at hlt
      omega
theorem bools_at {bs : List Bool} {j : Nat} {z : V} (h : (bs.map V.bl)[j]? = some z) : ∃ b, z = .bl b ∧ bs[j]? = some b := by
  rw [List.getElem?_map] at h
  cases e : bs[j]? with
  | none => rw [e] at h; cases h
  | some b =>
    rw [e] at h
    cases h
    exact ⟨b, rfl, rfl⟩
/-- l.index(b), l of bools -/
theorem r_index {apos cpos : Pos} (hK : X.K = G.K) (ha : PE X a (tE G (wpE Sg ia))) (hb : PE X b (tE G (wpE Sg ib))) (hs : starEach [b] X.env = (false, eval b X.env) :: starEach [] X.env)
    (hbase : attributeBase a "index" X.env (eval a X.env) = eval a X.env)
    (hfew : ((backTo cpos (starEach [b] X.env)).all (fun x => !x.1) && (backToKw cpos (keywordEach [] X.env)).all (fun x => x.1.isSome)
      && decide (([b] : List Expr).length + ([] : List Keyword).length + (if ([] : List Keyword).isEmpty then 0 else 1) < 30)) = true) (hline : (apos.endLine == cpos.line) = true) :
    PE X (.Call (.Attribute a "index" apos) [b] [] cpos) (tE G (wpE Sg (.index ia ib))) := by
  refine pe_imp (pe_bm PySem.F.plainAttrs_list PySem.F.slot_list_index PySem.F.type_list_index mt_index (pe_D ha) (pa_cons (pe_D hb) pa_nil hs) hbase hfew hline hs rfl) fun σ H Q ⟨P, st, F, Qd, R, hq, k⟩ => ?_
  refine ⟨P, st, F, fun x st1 => (∃ xs, x = .lst xs) ∧ wpE Sg ib st1 fun y st2 => ∃ (bs : List Bool) (b : Bool) (j : Nat), x = .lst (bs.map D.bl) ∧ y.dat = .bl b ∧ bs[j]? = some b ∧ (∀ m, m < j → bs[m]? ≠ some b) ∧ Qd (.d (.int (j : Nat))) st2, R, hq, fun x st1 v H1 F1 q1 R1 d1 s1 => ?_⟩
  obtain ⟨⟨xs, rfl⟩, q1⟩ := q1
  obtain ⟨a1, vs, rfl, h1, dd⟩ := d1.lst_iff
  rw [hK]
  refine ⟨.inl ⟨rfl, vs, R1.g.l (Evl.sq_of h1)⟩, ?_⟩
  refine ⟨P, st1, F1, fun y st2 => ∃ (bs : List Bool) (b : Bool) (j : Nat), D.lst xs = .lst (bs.map D.bl) ∧ y = .bl b ∧ bs[j]? = some b ∧ (∀ m, m < j → bs[m]? ≠ some b) ∧ Qd (.d (.int (j : Nat))) st2, R1, q1, fun y st2 u H2 F2 q2 R2 d2 s2 => ?_⟩
  obtain ⟨bs, c, j, e1, e2, e3, e4, q⟩ := q2
  cases e1
  subst e2
  cases d2
  have e5 := dd.bools
  subst e5
  refine ⟨a1, _, .bl c, j, .bl c, rfl, rfl, R2.g.l (Evl.sq_of (s2.f _ _ h1)), rfl, ?_, ?_, ?_, fun m z hm hz => ?_, ?_⟩
  · rw [List.all_eq_true]
    intro z hz
    obtain ⟨b, _, rfl⟩ := List.mem_map.mp hz
    rfl
  · rw [List.getElem?_map, e3]
    rfl
  · show (c == c) = true
    cases c <;> rfl
  · obtain ⟨b, rfl, hb⟩ := bools_at hz
    have := e4 m hm
    show (b == c) = false
    cases b <;> cases c <;> first | rfl | exact (this hb).elim
  · exact k (.d (.int _)) st2 _ H2 F2 q R2 (.int _) (s1.trans s2)
end
end DL
end
section
namespace DL
open PySem PySem.Spec PyProof.Rows L2 GenW

/-- the names of a generator expression: x its own, others captured -/
structure GenOk (N : List Str) (sc scope : Scope) (x : Str) (i : Nat) : Prop where
  kind : scope.kind = .function
  co : scope.isCoroutine = false
  cell : ∀ y ∈ scope.names, y.2 ≠ .cell
  dot : scope.names.lookup (".0" : Str) = some NameKind.local
  loc : scope.names.lookup x = some .local
  uniq : ∀ y ∈ scope.names, scope.names.lookup y.1 = some y.2
  own : ∀ y ∈ scope.names, y.2 = .local → y.1 = x ∨ y.1 ∉ N
  free : ∀ y ∈ scope.names, y.2 = .free → sc.names.lookup y.1 = some .cell ∨ sc.names.lookup y.1 = some .free
  ix : N[i]? = some x
def genC (N : List Str) (sc scope : Scope) (x : Str) (i : Nat) : Bool :=
  (match scope.kind with | .function => true | _ => false) && !scope.isCoroutine && decide (scope.names.lookup (".0" : Str) = some NameKind.local) && decide (scope.names.lookup x = some .local) && decide (N[i]? = some x) &&
    (scope.names.all fun y => decide (scope.names.lookup y.1 = some y.2)) && (scope.names.all fun y => match y.2 with
      | .cell => false
      | .local => decide (y.1 = x) || decide (y.1 ∉ N)
      | .free => (match sc.names.lookup y.1 with | some .cell => true | some .free => true | _ => false)
      | _ => true)
theorem genOk_by {N : List Str} {sc scope : Scope} {x : Str} {i : Nat} (h : genC N sc scope x i = true) : GenOk N sc scope x i := by
  unfold genC at h
  simp only [Bool.and_eq_true, List.all_eq_true, decide_eq_true_eq, Bool.not_eq_true'] at h
  obtain ⟨⟨⟨⟨⟨⟨h1, h2⟩, h3⟩, h4⟩, h5⟩, h6⟩, h7⟩ := h
  refine ⟨?_, h2, fun y hy e => ?_, h3, h4, h6, fun y hy e => ?_, fun y hy e => ?_, h5⟩
  · split at h1
    · assumption
    · cases h1
  · have q := h7 y hy
    simp only [e] at q
    cases q
  · have q := h7 y hy
    simp only [e, Bool.or_eq_true, decide_eq_true_eq] at q
    exact q
  · have q := h7 y hy
    simp only [e] at q
    split at q <;> first | exact .inl (by assumption) | exact .inr (by assumption) | cases q
/-- the context of the generator's code -/
abbrev Cx.gx (X : Cx) (s : Shared) (H : Hp) (genv : Env) (fp : List Addr) (A : Around) (pn : List (Addr × Obj)) : Cx :=
  { X with s_0 := s, H_0 := H, env := genv, outer := X.stack, stack := genv :: X.stack, A := A, ex := fp, fn := fun _ => false, pn := pn, xe := fun _ _ => False }
section
variable {X : Cx} {pins : List (Addr × Obj)} {σ : L2.St} {H : Hp} {s : Shared}
theorem gen_start {scope : Scope} {x : Str} {i : Nat} {fp : List Addr} {code : Value} {it a : Addr} {A : Around} {go : Obj} {h' : Heap} {gs : Array GenState} {tk : Nat} (I : Inv X pins σ H s) (ok : GenOk X.N X.env.scope scope x i) (hN : X.N.Nodup)
    (hfp : ∀ b ∈ fp, FpOk X pins H b ∧ b < s.heap.objs.size) (hhd : A.handled = none) (hfr : A.frames = some (genEnv scope (cloFrom X.env.cells scope.names []) s.heap.objs.size code builtinsNs X.env :: X.stack))
    (kp : ∀ b o, s.heap.get? b = some o → h'.get? b = some o) (hn : h'.Ns s.heap.objs.size (fun y => if y = ".0" then some (Value.ref it) else none)) (hd : (".0" : Str) ∉ X.N) (hgs : AllBare gs) (ha : h'.get? a = some go) (hla : s.heap.objs.size < a) (hgo : ∀ v, go.data ≠ .cell v) :
    Inv (Cx.gx X s H (genEnv scope (cloFrom X.env.cells scope.names []) s.heap.objs.size code builtinsNs X.env) fp A [(a, go)]) [] (wipe σ [i]) H { s with heap := h', gens := gs, toks := tk } := by
  have hfree : ∀ y ∈ scope.names, y.2 = .free → ∃ c, X.env.cells.lookup y.1 = some c := fun y hy e => by
    rcases ok.free y hy e with k | k
    · exact I.ok.has _ (.inl k)
    · exact I.ok.has _ (.inr k)
  have cm : ∀ {y c}, (y, c) ∈ cloFrom X.env.cells scope.names [] → X.env.cells.lookup y = some c ∧ c < s.heap.objs.size := fun {y c} hm => by
    rcases cloFrom_mem hm with hm | ⟨h1, rfl⟩
    · cases hm
    · obtain ⟨c, hc⟩ := hfree _ h1 rfl
      rw [hc]
      obtain ⟨w, z⟩ := I.cell _ _ hc
      exact ⟨rfl, z.lt⟩
  have mem : ∀ {y c}, (cloFrom X.env.cells scope.names []).lookup y = some c → X.env.cells.lookup y = some c ∧ c < s.heap.objs.size := fun e => cm (PySem.mem_of_lookup e)
  have look : ∀ {y}, scope.names.lookup y = some .free → ∃ c, (cloFrom X.env.cells scope.names []).lookup y = some c ∧ X.env.cells.lookup y = some c := fun {y} hl => by
    obtain ⟨c', e'⟩ := mem_lookup (cloFrom_has (cells := X.env.cells) (acc := []) (PySem.mem_of_lookup hl))
    exact ⟨c', e', (mem e').1⟩
  have okB : (Cx.gx X s H (genEnv scope (cloFrom X.env.cells scope.names []) s.heap.objs.size code builtinsNs X.env) fp A [(a, go)]).Ok := by
    refine ⟨I.ok.mod, ok.kind, I.ok.glob, rfl, Nat.le_refl _, fun y z c e1 e2 => I.ok.inj y z c (mem e1).1 (mem e2).1, fun y hy => ?_, fun y c z => (nomatch z), fun _ => hhd, hfr, .inr ⟨rfl, rfl⟩, fun b hb => ⟨Nat.ne_of_lt (hfp b hb).2, fun y c e z => ?_⟩, I.bs, Nat.le_trans I.ok.bsz I.sz, fun b o e hb => ?_, fun b hb z => ?_, I.stack, I.stkFree⟩
    · have hy : scope.names.lookup y = some .cell ∨ scope.names.lookup y = some .free := hy
      rcases hy with hy | hy
      · exact (ok.cell _ (PySem.mem_of_lookup hy) rfl).elim
      · obtain ⟨c, h1, _⟩ := look hy
        exact ⟨c, h1⟩
    · exact (hfp b hb).1.2.2.2.2.1 y c (mem e).1 z
    · rcases (hfp b hb).1.2.2.2.1 with z | z
      · exact I.ok.noex b o e z
      · exact absurd (Nat.lt_of_lt_of_le (Heap.lt_size e) (Nat.le_trans I.ok.bsz z)) (Nat.lt_irrefl _)
    · rcases List.mem_cons.mp (I.stkSub b z) with z | z
      · exact (hfp b hb).1.2.1 z
      · exact (hfp b hb).1.2.2.1 z
  refine ⟨okB, rfl, hgs, Un.kept kp, ⟨_, hn, fun j y av e1 e2 e3 => ?_⟩, fun y c e => ?_, I.hok.fresh (Nat.le_refl _), fun y c e => ?_, fun p hp => ?_, I.hok.kept kp, by rw [wipe_length]; exact I.len⟩
  · obtain ⟨e2, hne⟩ := wipe_some e2
    have e3 : scope.names.lookup y = some .local ∨ scope.names.lookup y = some .cell ∨ scope.names.lookup y = some .free := e3
    rcases e3 with e3 | e3 | e3
    · rcases ok.own _ (PySem.mem_of_lookup e3) rfl with z | z
      · have z' : y = x := z
        rw [z'] at e1
        exact (hne (List.mem_singleton.mpr (nodup_ix hN e1 ok.ix))).elim
      · exact (z (List.mem_of_getElem? e1)).elim
    · exact (ok.cell _ (PySem.mem_of_lookup e3) rfl).elim
    · obtain ⟨m, hn0, hl⟩ := I.loc
      have hvis : Vis X.env.scope y := (ok.free _ (PySem.mem_of_lookup e3) rfl).elim (fun k => .inr (.inl k)) (fun k => .inr (.inr k))
      obtain ⟨w, r, q⟩ := hl j y av e1 e2 hvis
      refine ⟨w, r, .inr ⟨.inr e3, ?_⟩⟩
      obtain ⟨c, h1, h2⟩ := look e3
      rcases q with ⟨k, _⟩ | ⟨_, c', e', z⟩
      · have k : X.env.scope.names.lookup y = some .local := k
        rcases ok.free _ (PySem.mem_of_lookup e3) rfl with k' | k' <;> rw [show X.env.scope.names.lookup y = _ from k'] at k <;> cases k
      · rw [h2] at e'; cases e'
        exact ⟨c, h1, z.keeps kp⟩
  · obtain ⟨h1, _⟩ := mem e
    obtain ⟨w, z⟩ := I.cell y c h1
    exact ⟨w, z.keeps kp⟩
  · exact I.freeC y c (mem e).1
  · have hp' : p = (a, go) := by
      have : p ∈ [(a, go)] ++ [] := hp
      rw [List.append_nil] at this
      exact List.mem_singleton.mp this
    subst hp'
    refine ⟨ha, I.hok.fresh (Nat.le_of_lt hla), Nat.ne_of_gt hla, fun z => ?_, hgo⟩
    rcases List.mem_cons.mp (I.stkSub _ z) with z | z
    · have z' : a = X.env.locals := z
      have h1 := I.lt
      rw [← z'] at h1
      exact Nat.lt_irrefl _ (Nat.lt_trans h1 hla)
    · exact I.nofs (Nat.le_of_lt hla) z
end
end DL
end
section
namespace DL
open PySem PySem.Spec PyProof.Rows L2 GenW
/-- handed out: a bool; a false one ends the walk -/
def allY (a : Addr) (g : Nat) (FinF : Shared → Prop) : Protocol := fun n s₀ v s1 kap => ∃ b : Bool, v = .bool b ∧ s1.heap.IsGen a g ∧ s1.heap.NoLimit ∧ AllBare s1.gens ∧
  if b = true then ∀ s'', s''.heap = s1.heap → s''.os = s1.os → AllBare s''.gens → kap (.send .none) s'' else FinF s1
def allR (FinT : Shared → Prop) : GenEnd := fun n s₀ r s1 => r = .ok .next ∧ FinT s1
section
variable {Y : Cx} {G : En} {we : WD} {P : Addr → Prop} {σ : L2.St} {i : Nat} {xs : List D} {H1 F1 : Hp} {J : It} {fp : List Addr} {it a : Addr} {g : Nat} {tn : Nat → Heap → Prop} {QQ : Bool → DS → Prop} {x : Str} {px pos : Pos} {elt iter : Expr} {scope : Scope} {go : Obj} {Aw : Around}
def genZ (Y : Cx) (G : En) (we : WD) (P : Addr → Prop) (σ : L2.St) (i : Nat) (xs : List D) (H1 F1 : Hp) (fp : List Addr) (tn : Nat → Heap → Prop) (QQ : Bool → DS → Prop) (j : Nat) (s : Shared) : Prop :=
  ∃ H' F' st', Inv Y [] (wipe σ [i]) H' s ∧ tn j s.heap ∧ (∀ b ∈ fp, H' b = none) ∧ Rel G P (hide [i] st') σ H' F' ∧ Stp G H1 F1 H' F' ∧ wAll i we (xs.drop j) st' QQ
/-- at the end, seen from the generator -/
def genF (Y : Cx) (G : En) (P : Addr → Prop) (σ : L2.St) (i : Nat) (H1 F1 : Hp) (QQ : Bool → DS → Prop) (b : Bool) (s : Shared) : Prop :=
  ∃ σ' H' F' st', Inv Y [] σ' H' s ∧ Rel G P (hide [i] st') σ H' F' ∧ Stp G H1 F1 H' F' ∧ QQ b st'
theorem gen_seg (hcalm : Y.calm = true) (hxe : Y.xe = fun _ _ => False) (hco : Y.env.scope.isCoroutine = false) (hex : Y.ex = fp) (hpn : Y.pn = [(a, go)]) (hfa : ∀ b ∈ fp, b ≠ a) (hov : Aw.over (.compLoop (.GeneratorExp elt [⟨.Name x px, iter, [], 0⟩] scope pos) 0 (.ref it) .none Y.env) [] = Y.A)
    (hgo : ∀ h : Heap, h.get? a = some go → h.IsGen a g) (T : Turn Y.prog Y.w Y.K (.Name x px) J fp it tn) (io : ItOk G xs F1 J) (pg : PG Y (.Name x px) (gName i)) (pe : PE Y elt (tD G we)) :
    ∀ (r j n : Nat) (s₀ s : Shared), xs.length - j = r → j ≤ xs.length → n = r → genZ Y G we P σ i xs H1 F1 fp tn QQ j s →
      Seg (model Y.prog Y.w) Aw (allR (genF Y G P σ i H1 F1 QQ true)) (allY a g (genF Y G P σ i H1 F1 QQ false)) n s₀ (.compLoop (.GeneratorExp elt [⟨.Name x px, iter, [], 0⟩] scope pos) 0 (.ref it) .none Y.env)
        ((model Y.prog Y.w).den (.compLoop (.GeneratorExp elt [⟨.Name x px, iter, [], 0⟩] scope pos) 0 (.ref it) .none Y.env)) [] s := by
  have stat : ∀ {σ' : L2.St} {H' : Hp} {s' : Shared}, Inv Y [] σ' H' s' → (∀ b ∈ fp, H' b = none) → ∀ b ∈ fp, FpOk Y [] H' b := fun {σ' H' s'} I' hn b hb => by
    have hb' : b ∈ Y.ex := by rw [hex]; exact hb
    refine ⟨hn b hb, (I'.ok.exf b hb').1, I'.ok.exfs b hb', .inl hb', fun x c e => (I'.ok.exf b hb').2 x c e, fun p hp z => ?_⟩
    rw [List.append_nil, hpn] at hp
    rw [List.mem_singleton.mp hp] at z
    exact hfa b hb z.symm
  have isg : ∀ {pins : List (Addr × Obj)} {σ' : L2.St} {H' : Hp} {s' : Shared}, Inv Y pins σ' H' s' → s'.heap.IsGen a g := fun {pins σ' H' s'} I' => hgo _ (I'.pin (a, go) (List.mem_append_left _ (by rw [hpn]; simp))).1
  have fls : ∀ {α : Type} {t : Sem α} {Q : α → Shared → Prop} {K : Value → Shared → Prop} {s : Shared}, wpAny (model Y.prog Y.w) Y.A t Q Y.xe s → wpAny (model Y.prog Y.w) Y.A t Q K s := fun h => wpAny_mono h (fun _ _ q => q) fun _ _ z => by
    rw [hxe] at z
    exact z.elim
  intro r
  induction r with
  | zero =>
    intro j n s₀ s hk hj hn hz
    subst hn
    obtain ⟨H', F', st', I, st, hf, R, s1, hq⟩ := hz
    show Seg _ Aw _ _ _ s₀ _ ((compTurn (.GeneratorExp elt [⟨.Name x px, iter, [], 0⟩] scope pos) 0 (.ref it) .none Y.env).onRaise (leaving Y.env)) [] s
    rw [compTurn_gen, Sem.onRaise_eq_wrap]
    refine seg_bind_wrap (wpAny_standAt ?_)
    have hl : j = xs.length := by omega
    have td := T.done Y rfl rfl rfl hcalm j [] s _ H' (fun _ _ => False) I (stat I hf) st (io.stop j _ _ σ H' F' s1.f R (by omega))
    refine seg_bind_wrap ?_
    rw [hov]
    refine wpAny_mono td (fun r s6 ⟨hr, I6⟩ => ?_) fun _ _ z => z.elim
    subst hr
    rw [hl, List.drop_length] at hq
    exact seg_end (.ok .next) ⟨rfl, _, H', F', st', I6, R, s1, hq⟩
  | succ r ih =>
    intro j n s₀ s hk hj hn hz
    subst hn
    obtain ⟨H', F', st', I, st, hf, R, s1, hq⟩ := hz
    have hlt : j < xs.length := by omega
    have hx : xs[j]? = some xs[j] := List.getElem?_eq_getElem hlt
    rw [List.drop_eq_getElem_cons hlt] at hq
    show Seg _ Aw _ _ _ s₀ _ ((compTurn (.GeneratorExp elt [⟨.Name x px, iter, [], 0⟩] scope pos) 0 (.ref it) .none Y.env).onRaise (leaving Y.env)) [] s
    rw [compTurn_gen, Sem.onRaise_eq_wrap]
    refine seg_bind_wrap (wpAny_standAt ?_)
    have ti := T.item Y rfl rfl rfl hcalm j [] s _ H' (fun _ _ => False) I (stat I hf) st (io.go j _ _ _ σ H' F' s1.f R hx)
    refine seg_bind_wrap ?_
    rw [hov]
    refine wpAny_mono ti (fun r6 s6 ⟨u, hr, h6⟩ => ?_) fun _ _ z => z.elim
    subst hr
    refine seg_bind_wrap ?_
    rw [hov]
    refine wpAny_mono h6 (fun _ s7 ⟨v, H7, I7, r7, y7, st7, n7⟩ => ?_) fun _ _ z => z.elim
    obtain ⟨F7, R7, dv, s7s⟩ := io.yld j _ _ _ σ H' F' v H7 s1.f R hx y7
    have R7' := R7.hide (σ := wipe σ [i]) [i] (wipe_length σ [i]) fun m hm => by rw [wipe_get, if_neg fun z => hm z.1]
    rw [hide_hide] at R7'
    have I7' := I7.pinned (stat I7 n7) (T.obj _ _ st7)
    refine seg_bind_wrap ?_
    rw [hov]
    refine fls (thn (pg.run _ s7 _ H7 v u (fun σ2 H2 => σ2 = (wipe σ [i]).set i (some v) ∧ H2 = H7) I7' r7 ⟨rfl, rfl⟩) fun _ s8 ⟨σ8, H8, I8, e8, e8'⟩ => ?_)
    subst e8
    subst e8'
    simp only [List.forIn_nil]
    refine seg_bind_wrap (wpAny_pure ?_)
    simp only [if_true]
    have hy : ∀ v, yieldOut Y.env v = yieldValue v := fun v => by simp only [yieldOut, hco, Bool.false_eq_true, if_false]
    simp only [hy]
    have R8 := R7'.storeD i dv
    have hl2 : ((wipe σ [i]).set i (some v)).length = σ.length := by rw [List.length_set, wipe_length]
    have ag2 : ∀ m, m ∉ [i] → σ[m]? = ((wipe σ [i]).set i (some v))[m]? := fun m hm => by
      have hm' : i ≠ m := fun z => hm (List.mem_singleton.mpr z.symm)
      rw [List.getElem?_set_ne hm', wipe_get, if_neg fun z => hm z.1]
    rw [Sem.bind_eq_wrap', Sem.bind_eq_wrap', Sem.wrap_wrap, Sem.wrap_wrap]
    refine seg_wrap ?_
    rw [hov]
    refine fls (thn (pe.run _ s8 _ H8 (fun v' H9 => ∃ b F9 st9, v' = .bl b ∧ Rel G P (hide [i] st9) σ H9 F9 ∧ Stp G H1 F1 H9 F9 ∧ if b = true then wAll i we (xs.drop (j + 1)) st9 QQ else QQ false st9) I8 ?_) fun y s9 ⟨v9, H9, I9, r9, q9⟩ => ?_)
    · refine ⟨P, _, F7, _, R8, hq, fun y st9 v9 H9 F9 q9 R9 d9 s9 => ?_⟩
      obtain ⟨b, rfl, q9⟩ := q9
      cases d9
      exact ⟨b, F9, st9, rfl, R9.hide (σ := σ) [i] hl2.symm ag2, (s1.trans s7s).trans s9, q9⟩
    · obtain ⟨b, F9, st9, rfl, R9, S9, q9⟩ := q9
      obtain rfl : y = Value.bool b := r9
      have back : ∀ {s'' : Shared}, s''.heap = s9.heap → s''.os = s9.os → AllBare s''.gens → Inv Y ([] ++ pinsAt fp s7.heap) ((wipe σ [i]).set i (some v)) H9 s'' := fun {s''} e1 e2 e3 =>
        I9.call' (ch := []) e2 (by rw [e1]; exact Un.kept fun _ _ z => z) (by rw [e1]; exact I9.hok.kept fun _ _ z => z) e3 fun b z => by simp at z
      refine seg_at (seg_yield rfl rfl rfl ⟨b, rfl, isg I9, I9.nolimit, I9.bare, ?_⟩)
      cases b with
      | true =>
        rw [if_pos rfl] at q9 ⊢
        intro s'' e1 e2 e3
        have J9 := back e1 e2 e3
        have pin' : ∀ b ∈ fp, ∀ o, s7.heap.get? b = some o → s''.heap.get? b = some o ∧ H9 b = none := fun b hb o e =>
          let z := J9.pin (b, o) (List.mem_append_right _ (List.mem_append_right _ (mem_pinsAt hb e)))
          ⟨z.1, z.2.1⟩
        refine seg_again rfl (ih (j + 1) r s'' s'' (by omega) hlt rfl ⟨H9, F9, st9, ?_, T.keep _ _ _ st7 fun b hb o e => (pin' b hb o e).1, fun b hb => ?_, R9, S9, q9⟩)
        · refine (J9.unpinned (pins := [])).weak (by rw [wipe_length, hl2]) fun m w e => ?_
          obtain ⟨e', hm⟩ := wipe_some e
          rw [← ag2 m hm]
          exact e'
        · obtain ⟨o, e, _⟩ := T.obj _ _ st7 b hb
          exact (pin' b hb o e).2
      | false =>
        rw [if_neg Bool.false_ne_true] at q9 ⊢
        exact ⟨_, H9, F9, st9, I9.unpinned (pins := []), R9, S9, q9⟩
end
end DL
end
section
namespace DL
open PySem PySem.Spec PyProof.Rows L2 GenW
/-- the walk of all(..) over a generator -/
theorem all_run {P : Program} {w : World} {A : Around} {a : Addr} {g : Nat} {FinT FinF : Shared → Prop} {R : Result → Shared → Prop} (hh : A.handled = none) (hd : A.depth < recursionLimit)
    (bT : ∀ s, FinT s → AllBare s.gens) (rT : ∀ s s', FinT s → (∀ b o, s.heap.get? b = some o → s'.heap.get? b = some o) → s'.os = s.os → AllBare s'.gens → R (.ok (.ret (.bool true))) s')
    (rF : ∀ s s', FinF s → (∀ b o, s.heap.get? b = some o → s'.heap.get? b = some o) → s'.os = s.os → AllBare s'.gens → R (.ok (.ret (.bool false))) s') :
    ∀ (m : Nat) (s : Shared), s.heap.IsGen a g → s.heap.NoLimit →
      (∃ gs, s.gens[g]? = some gs ∧ gs.Goes (model P w) A.in1.in1 (allR FinT) (allY a g FinF) m (.send .none) (s.setGen g .running)) →
      codeAny (model P w) A (.builtin "all.loop" ⟨[.ref a], []⟩) R s := by
  intro m
  induction m with
  | zero =>
    intro s hg hl ⟨gs, hgs, hgo⟩
    refine codeAny_builtin F.entry_all_loop ?_
    rw [Around.under_plainId F.plain_all_loop _]
    show wpAny _ A.in1 (pyNext (.ref a) >>= _) _ _ s
    refine wpAny_bind (wpAny_pyNext_genexpQ (A := A.in1) (P := fun _ _ s₁ => FinT s₁) hh hl hd hg hgs hgo (fun v s₁ gs' hb hv => ?_) (fun s₁ hp h' hk => ?_))
    · obtain ⟨b, rfl, hg1, hl1, hb1, hv⟩ := hv
      cases b with
      | true =>
        rw [if_pos rfl] at hv
        exact (hv s₁ rfl rfl hb1).elim
      | false =>
        rw [if_neg Bool.false_ne_true] at hv
        refine wpAny_bind (wpAny_holding (wpAny_truthy_bool ?_))
        refine wpAny_bind (wpAny_letGo ?_)
        simp only [Bool.false_eq_true, if_false]
        refine wpAny_bind (wpAny_rule (wpAny_pure ?_))
        exact rF s₁ _ hv (fun _ _ e => e) rfl (allBare_setGen hb1 hb)
    · refine wpAny_bind (wpAny_rule (wpAny_pure ?_))
      exact rT s₁ _ hp hk rfl (allBare_setGen (bT _ hp) rfl)
  | succ m ih =>
    intro s hg hl ⟨gs, hgs, hgo⟩
    have hgl : g < s.gens.size := (Array.getElem?_eq_some_iff.mp hgs).1
    refine codeAny_builtin F.entry_all_loop ?_
    rw [Around.under_plainId F.plain_all_loop _]
    show wpAny _ A.in1 (pyNext (.ref a) >>= _) _ _ s
    refine wpAny_bind (wpAny_gsz (n := g + 1) hgl (wpAny_pyNext_genexpQ (A := A.in1) (P := fun _ _ s₁ => FinT s₁) hh hl hd hg hgs hgo (fun v s₁ gs' hb hv => ?_) (fun s₁ hp h' hk => ?_)))
    · intro hsz
      obtain ⟨b, rfl, hg1, hl1, hb1, hv⟩ := hv
      have hsz1 : g < s₁.gens.size := by
        have q : (s₁.setGen g gs').gens.size = s₁.gens.size := setGen_size _ _ _
        have hsz' : g + 1 ≤ (s₁.setGen g gs').gens.size := hsz
        omega
      cases b with
      | true =>
        rw [if_pos rfl] at hv
        refine wpAny_bind (wpAny_holding (wpAny_truthy_bool ?_))
        refine wpAny_bind (wpAny_letGo ?_)
        simp only [if_true]
        refine wpAny_pure ⟨plainId_quiet F.plain_all_loop _, ih (s₁.setGen g gs') hg1 hl1 ⟨gs', setGen_at hsz1, ?_⟩⟩
        exact hv _ rfl rfl (allBare_setGen (allBare_setGen hb1 hb) rfl)
      | false =>
        rw [if_neg Bool.false_ne_true] at hv
        refine wpAny_bind (wpAny_holding (wpAny_truthy_bool ?_))
        refine wpAny_bind (wpAny_letGo ?_)
        simp only [Bool.false_eq_true, if_false]
        refine wpAny_bind (wpAny_rule (wpAny_pure ?_))
        exact rF s₁ _ hv (fun _ _ e => e) rfl (allBare_setGen hb1 hb)
    · intro hsz
      refine wpAny_bind (wpAny_rule (wpAny_pure ?_))
      exact rT s₁ _ hp hk rfl (allBare_setGen (bT _ hp) rfl)
end DL
end
section
namespace DL
open PySem PySem.Spec PyProof.Rows L2 GenW
section
variable {G : En} {st : DS} {P : Addr → Prop} {σ : L2.St} {H H' F : Hp} {c : List Int}
/-- the tables have grown -/
theorem Glob.table (g : Glob G c H F) (e : LamX.ExtN H H') (t : LamX.Tabs G.T H') : Glob G c H' F where
  sub := fun a o h => by
    obtain ⟨h1, h2⟩ := g.sub a o h
    exact ⟨e a o h1 h2, h2⟩
  cell := fun a h => by
    obtain ⟨h1, h2⟩ := g.cell a h
    exact ⟨e a _ h1 noT_lst, h2⟩
  tabs := t
  keep := fun a o h n k => e a o (g.keep a o h n k) n
  f0 := g.f0
  fnew := g.fnew
theorem Rel.table (R : Rel G P st σ H F) (e : LamX.ExtN H H') (t : LamX.Tabs G.T H') : Rel G P st σ H' F where
  g := R.g.table e t
  len := R.len
  slot := fun i s h => (R.slot i s h).mono (fun a u q n _ => e a u q n) (Evl.Ex.refl F) fun p hs ee => by
    obtain ⟨q', u, e', w', _⟩ := (R.slot i s h).addr hs
    rw [ee] at e'
    cases e'
    exact w'.1
  dist := R.dist
  prot := fun q hq => by
    obtain ⟨h1, h2, h3, o, h4, h5⟩ := R.prot q hq
    exact ⟨h1, h2, h3, o, e q o h4 h5, h5⟩
end
section
variable {X : Cx} {G : En} {Sg : Tab} {pins : List (Addr × Obj)} {σ : L2.St} {H : Hp} {s : Shared}
/-- the generator's code object is new, or found in the table -/
theorem gen_code {c Pa : Addr} {scope : Scope} {pos : Pos} {E : Value → Shared → Prop} {Q : Value → Shared → Prop} (I : Inv X pins σ H s) (TB : LamX.TabB X.base X.mg c Pa) (hcode : X.env.code = .ref c)
    (hm : (Pa, X.env.qual ++ "<genexpr>") ∈ G.T) (hu : ∀ p ∈ G.T, p.1 = Pa → p.2 = X.env.qual ++ "<genexpr>") (hT : LamX.Tabs G.T H)
    (h : ∀ (cv : Value) (H1 : Hp) (s' : Shared), Inv X pins σ H1 s' → LamX.ExtN H H1 → LamX.Tabs G.T H1 → (∀ b, b < s.heap.objs.size → H b = none → H1 b = none) → (∀ b o, H b = none → s.heap.get? b = some o → s'.heap.get? b = some o) → Q cv s') :
    wpAny (model X.prog X.w) X.A (genexprCode X.env pos (X.env.qual ++ "<genexpr>") scope) Q E s := by
  obtain ⟨ps, hP, ht, ha⟩ := hT _ hm
  have hP' : s.heap.get? Pa = some { cls := .none, data := .fields ps } := I.hok Pa _ hP
  have cd : PySem.W.CodeHd s.heap c Pa := TB.code.keeps I.bk
  cases hc : codeAmong pos ps.toList with
  | none =>
    refine wpAny_genexprCodeX hcode (cd.code hP' ht) (cd.tab hP') hc fun c' h' tk hx hge hlt hco' hrec htab' _ => ?_
    obtain ⟨c2, oc, vs, t, e2, hoc, hd, hv⟩ := hrec
    cases e2
    have nC : H c' = none := I.hok.fresh hge
    have hE : LamX.ExtN H (upd (upd H Pa (.tbl (ps ++ #[rawInt pos.line, rawInt pos.col, .ref c']))) c' (LamX.CodeO c' (X.env.qual ++ "<genexpr>"))) := fun b o e n => by
      rw [upd_ne (ne_of_none e nC), upd_ne (fun z => n ps (Option.some.inj (e.symm.trans (by rw [z]; exact hP))))]
      exact e
    have I1 := LamX.inv_table (t' := tk) (more := #[rawInt pos.line, rawInt pos.col, .ref c']) (h' := h') (q := X.env.qual ++ "<genexpr>") I hP hx htab'.2 hge ⟨oc, vs, t, hoc, hd, hv⟩
    have eL : (ps ++ #[rawInt pos.line, rawInt pos.col, Value.ref c']).toList = ps.toList ++ [rawInt pos.line, rawInt pos.col, .ref c'] := by simp
    refine h _ _ _ I1 hE (fun p hp => ?_) (fun b hb hn => ?_) fun b o hn e => hx b o (fun z => by rw [z, hP] at hn; cases hn) e
    · by_cases hb : p.1 = Pa
      · rw [hu p hp hb, hb]
        refine ⟨_, by rw [upd_ne (ne_of_none hP nC), upd_same], by rw [eL]; exact PySem.TriplesOk_snoc _ _ _ _ ht, fun p' cv hcv => ?_⟩
        rw [eL] at hcv
        rcases LamX.among_app _ ht hcv with z | z
        · obtain ⟨c0, e1, e2⟩ := ha p' cv z
          exact ⟨c0, e1, hE _ _ e2 LamX.codeO_ne⟩
        · exact ⟨c', z, upd_same⟩
      · obtain ⟨ps', a1, a2, a3⟩ := hT p hp
        refine ⟨ps', by rw [upd_ne (ne_of_none a1 nC), upd_ne hb]; exact a1, a2, fun p' cv hcv => ?_⟩
        obtain ⟨c0, e1, e2⟩ := a3 p' cv hcv
        exact ⟨c0, e1, hE _ _ e2 LamX.codeO_ne⟩
    · have n1 : b ≠ c' := Nat.ne_of_lt (Nat.lt_of_lt_of_le hb hge)
      have n2 : b ≠ Pa := fun z => by rw [z, hP] at hn; cases hn
      rw [upd_ne n1, upd_ne n2]
      exact hn
  | some cv =>
    refine wpAny_genexprCode_hit hcode (cd.code hP' ht) hc ?_
    exact h cv H s I (LamX.ExtN.refl H) hT (fun b _ hn => hn) fun b o _ e => e
theorem boot_all : bootBuiltins "all" = some (.builtin "all") := by decide +kernel
theorem r_all {i : Nat} {is : Src} {ie : E} {elt iter : Expr} {scope : Scope} {x : Str} {px p pos gpos : Pos} (hK : X.K = G.K) (hc : X.calm = true) (hr : Room 5 X.A) (hN : X.N.Nodup) (hdot : (".0" : Str) ∉ X.N) (hg : Gl X "all") (hm : X.mg "all" = none)
    (tb : TabX X G false) (ok : GenOk X.N X.env.scope scope x i) (hi : PI X (.Name x px) iter (tI G (wpI Sg is)))
    (he : ∀ (s : Shared) (H : Hp) (code : Value) (fp : List Addr) (pn : List (Addr × Obj)), PE (Cx.gx X s H (genEnv scope (cloFrom X.env.cells scope.names []) s.heap.objs.size code builtinsNs X.env) fp (X.A.in1.in1.deeper (genEnv scope (cloFrom X.env.cells scope.names []) s.heap.objs.size code builtinsNs X.env)) pn) elt (tE G (wpE Sg ie)))
    (hs : ∀ v, genFold iter X.env v = pure v) : PE X (.Call (.Name "all" p) [.GeneratorExp elt [⟨.Name x px, iter, [], 0⟩] scope gpos] [] pos) (tE G (wpE Sg (.allg i is ie))) := by
  refine ⟨fun pins s σ H Q I ⟨Pd, st, F, Qd, R, hq, k⟩ => ?_⟩
  have hfree : ∀ y ∈ scope.names, y.2 = .free → ∃ c, X.env.cells.lookup y.1 = some c := fun y hy e => by
    rcases ok.free y hy e with k | k
    · exact I.ok.has _ (.inl k)
    · exact I.ok.has _ (.inr k)
  obtain ⟨c, Pa, hcode, TB, hmT, hu⟩ := tb.is
  have hhd : X.A.handled = none := hr.hd
  refine wpAny_Call_Name_kw (ld_blt I hg hm boot_all ?_)
  refine PyProof.Rows.callWith_builtin1 ?_ rfl (by rfl)
  show wpAny _ _ (spliced ((false, eval (.GeneratorExp elt [⟨.Name x px, iter, [], 0⟩] scope gpos) X.env) :: backTo pos (starEach [] X.env))) _ _ s
  refine Calls.spliced_cons (wpAny_GeneratorExp_make ok.co (closure_ok hfree) ok.cell ok.dot ok.kind hr.depth ?_ hs)
  refine thn (hi.run pins s σ H (fun J H2 => ∃ xs st1 F1, Rel G Pd st1 σ H2 F1 ∧ ItOk G xs F1 J ∧ Stp G H F H2 F1 ∧ wAll i (fun st Q => wpE Sg ie st fun r st' => Q r.dat st') xs st1 fun b st2 => Qd (.d (.bl b)) (back [i] st1 st2)) I
    ⟨Pd, st, F, fun xs st1 => wAll i (fun st Q => wpE Sg ie st fun r st' => Q r.dat st') xs st1 fun b st2 => Qd (.d (.bl b)) (back [i] st1 st2), R, hq, fun xs st1 H2 F1 J q1 R1 io s1 => ⟨xs, st1, F1, R1, io, s1, q1⟩⟩) fun xv s1 h1 => thn h1 fun itv s2 h2 => ?_
  obtain ⟨it, fp, tn, J, H2, rfl, I2, T, st2, f2, xs, st1, F1, R1, io, S1, q1⟩ := h2
  refine ⟨I2.nolimit, ?_⟩
  refine gen_code I2 TB hcode hmT hu R1.g.tabs fun cv H3 s3 I3 hE hT3 hn3 hk3 => ?_
  -- the builtins
  obtain ⟨bm, ob, e1, e2, e3, e4, e5, e6, e7, e8⟩ := TB.bm
  refine wpAny_builtinsFor (m := X.mg) (by rw [I3.ok.glob]; exact I3.ok.mod.glob.keeps I3.bk) e1 e2 (I3.bk _ _ e5) e6 e7 e8 ?_
  intro h' hn' hs'
  refine Calls.spliced_nil ?_
  have R3 : Rel G Pd st1 σ H3 F1 := R1.table hE hT3
  have S3 : Stp G H2 F1 H3 F1 := ⟨fun a o q n _ => hE a o q n, Evl.Ex.refl F1⟩
  have f3 : ∀ b ∈ fp, FpOk X pins H3 b ∧ b < s3.heap.objs.size := fun b hb => by
    obtain ⟨o, e, _⟩ := T.obj _ _ st2 b hb
    have hlt := Heap.lt_size e
    have e' := hk3 b o (f2 b hb).1 e
    exact ⟨⟨hn3 b hlt (f2 b hb).1, (f2 b hb).2⟩, Heap.lt_size e'⟩
  have st3 : tn 0 s3.heap := T.keep _ _ _ st2 fun b hb o e => hk3 b o (f2 b hb).1 e
  have hsz : h'.objs.size = s3.heap.objs.size + 1 := by rw [hs'.1, Heap.size_push]
  have keep' : ∀ b o, s3.heap.get? b = some o → h'.get? b = some o := fun b o e => hs'.extBut b o (Nat.ne_of_lt (Heap.lt_size e)) (Heap.get?_push_of_some _ e)
  generalize hgo : ({ cls := .type "generator", data := .fields #[.int s3.gens.size 0, .str "<genexpr>" (s3.toks + 1), .str (X.env.qual ++ "<genexpr>") (s3.toks + 1 + 1)] } : Obj) = go
  have keep5 : ∀ b o, s3.heap.get? b = some o → (h'.push go).get? b = some o := fun b o e => Heap.get?_push_of_some _ (keep' b o e)
  have hgoA : (h'.push go).get? h'.objs.size = some go := by
    subst hgo
    exact Heap.get?_push_size _ rfl
  have isg : ∀ h : Heap, h.get? h'.objs.size = some go → h.IsGen h'.objs.size s3.gens.size := fun h e => by
    subst hgo
    exact ⟨_, _, _, e, rfl, rfl, rfl⟩
  have hgoC : ∀ v, go.data ≠ .cell v := fun v z => by
    subst hgo
    cases z
  have hfr : (X.A.in1.in1.deeper (genEnv scope (cloFrom X.env.cells scope.names []) s3.heap.objs.size cv builtinsNs X.env)).frames = some (genEnv scope (cloFrom X.env.cells scope.names []) s3.heap.objs.size cv builtinsNs X.env :: X.stack) :=
    Around.frames_deeper (A := X.A.in1.in1) I.ok.frames
  have start : ∀ {gs : Array GenState} {tk : Nat}, AllBare gs → Inv (Cx.gx X s3 H3 (genEnv scope (cloFrom X.env.cells scope.names []) s3.heap.objs.size cv builtinsNs X.env) fp (X.A.in1.in1.deeper (genEnv scope (cloFrom X.env.cells scope.names []) s3.heap.objs.size cv builtinsNs X.env)) [(h'.objs.size, go)]) [] (wipe σ [i]) H3 { s3 with heap := h'.push go, gens := gs, toks := tk } := fun hb =>
    gen_start (it := it) I3 ok hN f3 hhd hfr keep5 (hn'.push _) hdot hb hgoA (by omega) hgoC
  have hb5 : AllBare (s3.gens.push (.fresh (.compStart (.GeneratorExp elt [⟨.Name x px, iter, [], 0⟩] scope gpos) 0 (.ref it) .none (genEnv scope (cloFrom X.env.cells scope.names []) s3.heap.objs.size cv builtinsNs X.env)))) := AllBare.push I3.bare rfl
  -- back in the def's context
  have fin : ∀ (b : Bool) (sA sB : Shared), genF (Cx.gx X s3 H3 (genEnv scope (cloFrom X.env.cells scope.names []) s3.heap.objs.size cv builtinsNs X.env) fp (X.A.in1.in1.deeper (genEnv scope (cloFrom X.env.cells scope.names []) s3.heap.objs.size cv builtinsNs X.env)) [(h'.objs.size, go)]) G Pd σ i H3 F1 (fun b st2 => Qd (.d (.bl b)) (back [i] st1 st2)) b sA →
      (∀ c o, sA.heap.get? c = some o → sB.heap.get? c = some o) → sB.os = sA.os → AllBare sB.gens → EP X pins σ Q (.bool b) sB := fun b sA sB hF hk ho hb => by
    obtain ⟨σ', H', F', st', J1, R', S', qq⟩ := hF
    have J2 : Inv X pins σ H' sB := I3.call' (ch := fp) (ho.trans J1.os) (J1.base.trans (Un.kept hk)) (J1.hok.kept hk) hb fun b hb => ⟨(f3 b hb).1.2.2.2.1, (f3 b hb).1.2.1, (f3 b hb).1.2.2.2.2.1, (f3 b hb).1.2.2.2.2.2⟩
    exact ⟨.bl b, H', J2, rfl, k (.d (.bl b)) _ _ H' F' qq (R'.back R3 S'.f) (.bl b) ((S1.trans S3).trans S')⟩
  refine call_function_tree PySem.F.kind_all PySem.F.plain_all PySem.F.entry_all (PySem.F.args_all1 _) ?_
  unfold Builtin.«all»
  refine wpAny_bind (m := oneArg "all" _) (wpAny_pure ?_)
  refine wpAny_bind (wpAny_pyIter_gen (isg _ hgoA) ?_)
  refine wpAny_pure ⟨plainId_quiet PySem.F.plain_all_loop _, ?_⟩
  refine all_run (FinT := _) (FinF := _) hhd hr.depth (fun s' hF => ?_) (fun sA sB hF hk ho hb => fin true sA sB hF hk ho hb) (fun sA sB hF hk ho hb => fin false sA sB hF hk ho hb) xs.length _ (isg _ hgoA) (I3.nolimit.keeps keep5) ⟨_, Array.getElem?_push_size .., rfl, ?_⟩
  · obtain ⟨σ', H', F', st', J1, _⟩ := hF
    exact J1.bare
  · -- the generator's code
    have I5 := start (tk := s3.toks + 1 + 1 + 1) (allBare_setGen (s := { s3 with gens := s3.gens.push (.fresh (.compStart (.GeneratorExp elt [⟨.Name x px, iter, [], 0⟩] scope gpos) 0 (.ref it) .none (genEnv scope (cloFrom X.env.cells scope.names []) s3.heap.objs.size cv builtinsNs X.env))) }) (g := s3.gens.size) (x := .running) hb5 rfl)
    have st5 : tn 0 (h'.push go) := T.keep _ _ _ st3 fun b hb o e => keep5 b o e
    have hov : ∀ acc, X.A.in1.in1.over (.compLoop (.GeneratorExp elt [⟨.Name x px, iter, [], 0⟩] scope gpos) 0 (.ref it) acc (genEnv scope (cloFrom X.env.cells scope.names []) s3.heap.objs.size cv builtinsNs X.env)) [] = X.A.in1.in1.deeper (genEnv scope (cloFrom X.env.cells scope.names []) s3.heap.objs.size cv builtinsNs X.env) := fun acc => rfl
    have R3h : Rel G Pd (hide [i] st1) σ H3 F1 := R3.hide [i] rfl fun _ _ => rfl
    have loop := gen_seg (Y := Cx.gx X s3 H3 (genEnv scope (cloFrom X.env.cells scope.names []) s3.heap.objs.size cv builtinsNs X.env) fp (X.A.in1.in1.deeper (genEnv scope (cloFrom X.env.cells scope.names []) s3.heap.objs.size cv builtinsNs X.env)) [(h'.objs.size, go)])
      (we := fun st Q => wpE Sg ie st fun r st' => Q r.dat st') (P := Pd) (σ := σ) (i := i) (xs := xs) (H1 := H3) (F1 := F1) (QQ := fun b st2 => Qd (.d (.bl b)) (back [i] st1 st2)) (pos := gpos) (iter := iter) (px := px) (scope := scope) (a := h'.objs.size) (Aw := X.A.in1.in1)
      hc rfl ok.co rfl rfl (fun b hb (z : b = h'.objs.size) => by have h9 := (f3 b hb).2; rw [z] at h9; exact Nat.lt_irrefl _ (Nat.lt_trans h9 (by rw [hsz]; exact Nat.lt_succ_self _))) (hov .none) isg T io (pg_name hN ok.ix (.inl ok.loc) (.inr ok.loc)) (pe_D (he s3 H3 cv fp _)) xs.length 0 xs.length (((({ s3 with gens := s3.gens.push (.fresh (.compStart (.GeneratorExp elt [⟨.Name x px, iter, [], 0⟩] scope gpos) 0 (.ref it) .none (genEnv scope (cloFrom X.env.cells scope.names []) s3.heap.objs.size cv builtinsNs X.env))), toks := s3.toks + 1 + 1 + 1, heap := h'.push go } : Shared)).setGen s3.gens.size .running)) (((({ s3 with gens := s3.gens.push (.fresh (.compStart (.GeneratorExp elt [⟨.Name x px, iter, [], 0⟩] scope gpos) 0 (.ref it) .none (genEnv scope (cloFrom X.env.cells scope.names []) s3.heap.objs.size cv builtinsNs X.env))), toks := s3.toks + 1 + 1 + 1, heap := h'.push go } : Shared)).setGen s3.gens.size .running)) (Nat.sub_zero _) (Nat.zero_le _) rfl ⟨H3, F1, st1, I5, st5, fun b hb => (f3 b hb).1.1, R3h, Stp.refl, q1⟩
    show Seg _ X.A.in1.in1 _ _ _ _ _ ((compStart (.GeneratorExp elt [⟨.Name x px, iter, [], 0⟩] scope gpos) 0 (.ref it) .none (genEnv scope (cloFrom X.env.cells scope.names []) s3.heap.objs.size cv builtinsNs X.env)).onRaise (leaving (genEnv scope (cloFrom X.env.cells scope.names []) s3.heap.objs.size cv builtinsNs X.env))) [] _
    unfold compStart
    rw [Sem.onRaise_eq_wrap]
    show Seg _ X.A.in1.in1 _ _ _ _ _ ((ask >>= _).wrap _ _ _ _) [] _
    refine seg_bind_wrap (wpAny_askSetting ?_)
    split
    · exact seg_again rfl loop
    · first
        | exact seg_bind_wrap (wpAny_rule (seg_bind_wrap (wpAny_standAt (seg_bind_wrap (T.self _ 0 _ _ _ st5 (seg_again rfl loop))))))
        | (refine seg_bind_wrap (wpAny_rule ?_); show Seg _ X.A.in1.in1 _ _ _ _ _ ((standAt iter.pos >>= _).wrap _ _ _ _) [] _; exact seg_bind_wrap (wpAny_standAt (seg_bind_wrap (T.self _ 0 _ _ _ st5 (seg_again rfl loop)))))
end
end DL
end
section
namespace DL
open PySem PySem.Spec PyProof.Rows L2
section
variable {X : Cx} {G : En} {Sg : Tab} {k : Nat} {f : Str} {ps : List Str} {e : Expr} {es : List Expr} {ias : Es} {p bp lpos bpos pos : Pos} {params : Arguments} {scope : Scope}
theorem r_refused (rx : RefX X G (k + 2)) (fi : FnIs X G Sg k f ps) (h1 : params.posonlyargs = []) (h2 : params.args = []) (h3 : params.vararg = none) (h4 : params.kwonlyargs = []) (h5 : params.kw_defaults = []) (h6 : params.kwarg = none) (h7 : params.defaults = [])
    (L : LamX.LamS X.env.scope scope) (hg : Gl X "_law_refused") (hgf : scope.names.lookup f = some .globalImplicit) (hdb : (f == ("__debug__" : Str)) = false)
    (ha : ∀ (A : Around) (outer : List Env) (s : Shared) (H : Hp) (E : XK) (fa c' : Addr), Room (k + 2) (A.deeper (LamX.lamEnv X scope s.heap.objs.size fa c')) → PA (LamX.lamCx X A outer s H E scope fa c') (e :: es) (tA G ps.length (wpEs Sg ias)))
    (he : ∀ env, starEach (e :: es) env = (false, eval e env) :: starEach es env) (hpl : ∀ env, (backTo bpos (starEach es env)).any (·.1) = false) :
    PE X (.Call (.Name "_law_refused" p) [.Lambda params (.Call (.Name f bp) (e :: es) [] bpos) scope lpos] [] pos) (tE G (wpE Sg (.refused f ias))) := by
  obtain ⟨a, fd, hm, hk, F, _, hb⟩ := fi.is
  refine pe_imp (rx.is params _ scope (fun E => tCallS (spD G.K G.T G.C ps.length (Sg f)) (fun σ => WE (fun cls d _ H => E cls d H) σ) (tA G ps.length (wpEs Sg ias))) p lpos pos h1 h2 h3 h4 h5 h6 h7 L hg fun A outer s H E fa c' hr =>
    pe_callS F (hr.mono (by omega)) hgf hm hk hb (fun σ => passAt (takes_of rfl rfl rfl rfl) σ) (ha A outer s H E fa c' hr) hdb (he _) (hpl _)) fun σ H Q ⟨P, st, F0, Qd, R, hq, kk⟩ => ?_
  refine ⟨R.g.tabs, fun H1 ex ht => ?_⟩
  have R1 := R.table ex ht
  have S1 : Stp G H F0 H1 F0 := ⟨fun a o q n _ => ex a o q n, Evl.Ex.refl F0⟩
  refine ⟨P, st, F0, fun ds st1 => Sg f ds st1.cel (fun _ c => Qd (.d (.str "")) { st1 with cel := c }) fun n c => Qd (.d (.str n)) { st1 with cel := c }, R1, hq, fun ds st1 vs H2 F2 q2 hn R2 d2 s2 => ?_⟩
  refine ⟨G.sub H2 F2, ds, st1.cel, _, _, rfl, rfl, rfl, rfl, R2.g.enter, hn, d2, q2, fun r c' v H' F' hq g' hr => ?_, fun m c' cls d H' F' hq g' hx => ?_⟩
  · exact kk (.d (.str "")) _ _ H' F' hq (R2.leave g') (.str _) ((S1.trans s2).trans g'.stp)
  · exact ⟨m, hx, kk (.d (.str m)) _ _ H' F' hq (R2.leave g') (.str _) ((S1.trans s2).trans g'.stp)⟩
/-- f(g(..)): g's new list is f's to write in -/
theorem r_callc {g : Str} {psf psg : List Str} {q p' : Pos} (ff : FnIs X G Sg k f psf) (h1 : psf.length = 1) (fg : FnIs X G Sg k g psg) (hca : G.ca = none) (hr : Room k X.A) (hgf : Gl X f) (hgg : Gl X g) (hdf : (f == ("__debug__" : Str)) = false) (hdg : (g == ("__debug__" : Str)) = false)
    (ha : PA X (e :: es) (tA G psg.length (wpEs Sg ias))) (he : starEach (e :: es) X.env = (false, eval e X.env) :: starEach es X.env) (hpl : (backTo p' (starEach es X.env)).any (·.1) = false) :
    PE X (.Call (.Name f p) [.Call (.Name g q) (e :: es) [] p'] [] pos) (tE G (wpE Sg (.callc f g ias))) := by
  obtain ⟨af, fdf, hmf, hkf, Ff, _, hbf⟩ := ff.is
  obtain ⟨ag, fdg, hmg, hkg, Fg, _, hbg⟩ := fg.is
  refine pe_imp (pe_call Ff hr hgf hmf hkf hbf .nil passL (pa_cons (pe_call Fg hr hgg hmg hkg hbg .nil passL ha hdg he hpl) pa_nil rfl) hdf rfl rfl) fun σ H Q ⟨P, st, F, Qd, R, hq, kk⟩ => ?_
  refine ⟨P, st, F, fun ds st1 => Sg g ds st1.cel (fun r c => ∃ ns : List Int, r = .own (ns.map D.int) ∧ Sg f [.cell] ns (fun r' _ => ∃ b, r' = .d (.bl b) ∧ Qd (.d (.bl b)) { st1 with cel := c }) fun _ _ => False) fun _ _ => False, R, hq, fun xs st1 vs H1 F1 q1 hn R1 d1 s1 => ?_⟩
  show spD G.K G.T G.C psg.length (Sg g) (vs ++ []) H1 (fun v H2 => spD G.K G.T G.C psf.length (Sg f) ([v] ++ []) H2 Q E0) E0
  rw [List.append_nil]
  refine ⟨G.sub H1 F1, xs, st1.cel, _, _, rfl, rfl, rfl, rfl, R1.g.enter, hn, d1, q1, fun r c2 v H2 F2 hq2 g2 hr2 => ?_, fun m c' cls d H' F' z => z.elim⟩
  obtain ⟨ns, rfl, hq3⟩ := hq2
  obtain ⟨pp, us, rfl, w, hp, dd⟩ := hr2
  have e2 := dd.ints
  subst e2
  refine ⟨{ G with ca := some pp, H0 := H2, F0 := F2 }, [.cell], ns, _, _, rfl, rfl, rfl, rfl, ⟨g2.sub, fun a e => ?_, g2.tabs, fun _ _ h _ _ => h, Evl.Ex.refl F2, fun a z1 z2 => (z1 z2).elim⟩, h1.symm, .cons (.cell rfl) .nil, hq3, fun r c3 v H3 F3 hq4 g3 hr3 => ?_, fun m c' cls d H' F' z => z.elim⟩
  · cases e
    exact ⟨hp, w.1⟩
  · obtain ⟨b, rfl, hQ⟩ := hq4
    have hv : v = .bl b := by
      cases hr3
      rfl
    subst hv
    have gm : Glob G c2 H2 F2 := R1.g.leave g2
    have Rm : Rel G P { st1 with cel := c2 } σ H2 F2 := R1.leave g2
    have fr : Fr0 H1 pp := w.2.1
    have ne1 : ∀ a o, H1 a = some o → noTbl o → a ≠ pp := fun a o h1 h2 z => fr o (by rw [← z]; exact h1) h2
    have ne0 : ∀ a o, G.H0 a = some o → noTbl o → a ≠ pp := fun a o h1 h2 z => R1.g.fr0_up fr (by rw [hca]; exact fun z => nomatch z) o (by rw [← z]; exact h1) h2
    have kp : ∀ a o, H2 a = some o → noTbl o → a ≠ pp → H3 a = some o := fun a o h1 h2 h3 => g3.keep a o h1 h2 fun z => h3 (Option.some.inj z).symm
    have k12 : ∀ a o, H1 a = some o → noTbl o → H2 a = some o := fun a o h1 h2 => g2.keep a o h1 h2 (by show G.ca ≠ some a; rw [hca]; exact fun z => nomatch z)
    have gf : Glob G c2 H3 F3 := {
      sub := g3.sub
      cell := fun a z => by rw [hca] at z; cases z
      tabs := g3.tabs
      keep := fun a o h n z => kp a o (gm.keep a o h n z) n (ne0 a o h n)
      f0 := gm.f0.trans g3.f0
      fnew := fun a z1 z2 => by
        cases e : F2 a with
        | none =>
          refine gm.fr0_up (g3.fnew a z1 e) (by rw [hca]; exact fun z => nomatch z)
        | some o => exact gm.fnew a (by rw [e]; exact fun z => nomatch z) z2 }
    have own1 : ∀ {i : Nat} {s : Sl} {q : Addr}, st1.env[i]? = some s → s.isOwn → σ[i]? = some (some (.ref q)) → q ≠ pp := fun hi hs e => by
      obtain ⟨q', u, e2, _, hq', n⟩ := (R1.slot _ _ hi).addr hs
      rw [e] at e2
      cases e2
      exact ne1 _ u hq' n
    have Rf : Rel G P { st1 with cel := c2 } σ H3 F3 := {
      g := gf
      len := Rm.len
      slot := fun i s h => by
        have h2 := Rm.slot i s h
        have hF : ∀ q u, H2 q = some u → noTbl u → F2 q = none → F3 q = none := fun q u z1 z2 z3 => by
          cases e : F3 q with
          | none => rfl
          | some v => exact (g3.fnew q (by rw [e]; exact fun z => nomatch z) z3 u z1 z2).elim
        cases s with
        | un => trivial
        | d x =>
          obtain ⟨v, e, z⟩ := h2
          exact ⟨v, e, z.mono g3.f0⟩
        | own ys =>
          obtain ⟨q, vs, e, o1, hq', z⟩ := h2
          exact ⟨q, vs, e, ⟨hF q _ hq' noT_lst o1.1, o1.2⟩, kp q _ hq' noT_lst (own1 h trivial e), z.mono g3.f0⟩
        | dk ks =>
          obtain ⟨q, e, o1, hq'⟩ := h2
          exact ⟨q, e, ⟨hF q _ hq' noT_dk o1.1, o1.2⟩, kp q _ hq' noT_dk (own1 h trivial e)⟩
        | tp ys =>
          obtain ⟨q, vs, e, hq', z⟩ := h2
          exact ⟨q, vs, e, g3.f0 _ _ hq', z.mono g3.f0⟩
      dist := Rm.dist
      prot := fun q hq => by
        obtain ⟨z1, z2, z3, o, z4, z5⟩ := R1.prot q hq
        obtain ⟨y1, y2, y3, y⟩ := Rm.prot q hq
        have h3 := kp q o (k12 q o z4 z5) z5 (ne1 q o z4 z5)
        refine ⟨?_, y2, y3, o, h3, z5⟩
        cases e : F3 q with
        | none => rfl
        | some v => exact (g3.fnew q (by rw [e]; exact fun z => nomatch z) y1 o (k12 q o z4 z5) z5).elim }
    refine kk (.d (.bl b)) _ _ H3 F3 hQ Rf (.bl b) (s1.trans ⟨fun a o z1 z2 _ => kp a o (k12 a o z1 z2) z2 (ne1 a o z1 z2), ?_⟩)
    exact g2.f0.trans g3.f0
end
end DL
end
section
namespace DL
open PySem PySem.Spec PyProof.Rows L2

def okName (x : Str) : Bool := !(x == ("__debug__" : Str)) && !(x == ("__classdict__" : Str))
def isVis (sc : Scope) (x : Str) : Bool := decide (sc.names.lookup x = some .local) || decide (sc.names.lookup x = some .cell) || decide (sc.names.lookup x = some .free)
def isLoc (sc : Scope) (x : Str) : Bool := decide (sc.names.lookup x = some .local) || decide (sc.names.lookup x = some .cell)
def isGl (sc : Scope) (x : Str) : Bool := decide (sc.names.lookup x = some .globalImplicit)
def slotOf : List Str → Str → Option Nat
  | [], _ => none
  | y :: r, x => if y = x then some 0 else (slotOf r x).map (· + 1)
theorem slotOf_get : ∀ {N : List Str} {x : Str} {i : Nat}, slotOf N x = some i → N[i]? = some x
  | [], _, _, h => by cases h
  | y :: r, x, i, h => by
    unfold slotOf at h
    split at h
    · rename_i e
      cases h
      simp [e]
    · cases hr : slotOf r x with
      | none => rw [hr] at h; cases h
      | some j =>
        rw [hr] at h
        cases h
        simpa using slotOf_get hr
def noStar : Expr → Bool
  | .Starred _ _ => false
  | _ => true
theorem star_cons {e : Expr} (h : noStar e = true) (es : List Expr) (env : Env) : starEach (e :: es) env = (false, eval e env) :: starEach es env := by
  cases e <;> first | rfl | cases h
theorem star_plain {pos : Pos} {env : Env} : ∀ {es : List Expr}, (∀ e ∈ es, noStar e = true) → (backTo pos (starEach es env)).any (·.1) = false
  | [], _ => rfl
  | e :: es, h => by
    rw [star_cons (h e List.mem_cons_self)]
    show (false || (backTo pos (starEach es env)).any (·.1)) = false
    rw [star_plain fun x hx => h x (List.mem_cons_of_mem _ hx)]
    rfl
def vslot (C : CC) (sc : Scope) (x : Str) : Option Nat := if (okName x && isVis sc x) = true then slotOf C.N x else none
def lslot (C : CC) (sc : Scope) (x : Str) : Option Nat := if (okName x && isLoc sc x) = true then slotOf C.N x else none

def cTg (C : CC) (sc : Scope) : Expr → Option Tg
  | .Name x _ => (lslot C sc x).map .one
  | .Tuple [.Name x _, .Name y _] _ _ => match lslot C sc x, lslot C sc y with
    | some i, some j => some (.two i j)
    | _, _ => none
  | .Tuple [.Name x _, .Name y _, .Name z _] _ _ => match lslot C sc x, lslot C sc y, lslot C sc z with
    | some i, some j, some l => some (.three i j l)
    | _, _, _ => none
  | _ => none
def tgNames : Expr → List Str
  | .Name x _ => [x]
  | .Tuple [.Name x _, .Name y _] _ _ => [x, y]
  | .Tuple [.Name x _, .Name y _, .Name z _] _ _ => [x, y, z]
  | _ => []
def tgLoc (sc : Scope) (tg : Expr) : Bool := (tgNames tg).all fun x => decide (sc.names.lookup x = some .local)
def isTupE : Expr → Bool
  | .Tuple _ _ _ => true
  | _ => false
def noSetE : Expr → Bool
  | .Set _ _ _ => false
  | _ => true
def noListE : Expr → Bool
  | .Set _ _ _ => false
  | .List _ _ => false
  | _ => true
def cmpOk : CmpOp → Bool
  | .Is => false
  | .IsNot => false
  | _ => true
def isNoneE : Expr → Bool
  | .Constant .none _ _ => true
  | _ => false
def plainIxB : Expr → Bool
  | .Slice _ _ none _ => false
  | _ => true
theorem plainIx_of {e : Expr} (h : plainIxB e = true) : PlainIx e := by
  intro o i
  cases e <;> first | rfl | skip
  rename_i lo hi st p
  cases st with
  | none => cases h
  | some s => rfl
def cL (f : Expr → Option E) : List Expr → Option Es
  | [] => some .nil
  | e :: es => if noStar e = true then match f e, cL f es with
    | some x, some xs => some (.cons x xs)
    | _, _ => none else none
def cKw (f : Expr → Option E) : List Keyword → List Str → Option Es
  | [], [] => some .nil
  | ⟨some n, e, _⟩ :: ks, p :: ps => if n = p then match f e, cKw f ks ps with
    | some x, some xs => some (.cons x xs)
    | _, _ => none else none
  | _, _ => none
def biOf (x : Str) : Option Bi :=
  if x = "len" then some .len else if x = "abs" then some .abs else if x = "int" then some .int else if x = "max" then some .max else if x = "min" then some .min else if x = "sum" then some .sum else if x = "list" then some .list else if x = "tuple" then some .tuple else if x = "sorted" then some .sorted else none
def isaName (x : Str) : Bool := decide (x = "int") || decide (x = "bool") || decide (x = "tuple")
def noArgs (a : Arguments) : Bool := a.posonlyargs.isEmpty && a.args.isEmpty && a.vararg.isNone && a.kwonlyargs.isEmpty && a.kw_defaults.isEmpty && a.kwarg.isNone && a.defaults.isEmpty
mutual
def cE (C : CC) : Nat → Scope → Expr → Option E
  | 0, _, _ => none
  | n + 1, sc, e => match e with
    | .Name x _ => match vslot C sc x with
      | some i => some (.v i)
      | none => if (okName x && isGl sc x) = true then (C.gk.lookup x).map .k else none
    | .Constant c _ _ => match c with
      | .none => some (.k .non)
      | .bool b => some (.k (.bl b))
      | .int i => some (.k (.int i))
      | .str s => some (.k (.str s))
      | _ => none
    | .BinOp a o b _ => match cE C n sc a, cE C n sc b with
      | some x, some y => some (.bin o x y)
      | _, _ => none
    | .UnaryOp .USub a _ => (cE C n sc a).map .neg
    | .UnaryOp .Not a _ => (cE C n sc a).map .no
    | .BoolOp .And (a :: b :: r) p => match cE C n sc a, cE C n sc (.BoolOp .And (b :: r) p) with
      | some x, some y => some (.and x y)
      | _, _ => none
    | .BoolOp .Or (a :: b :: r) p => match cE C n sc a, cE C n sc (.BoolOp .Or (b :: r) p) with
      | some x, some y => some (.orT x y)
      | _, _ => none
    | .BoolOp _ [a] _ => cE C n sc a
    | .IfExp c a b _ => match cT C n sc c, cE C n sc a, cE C n sc b with
      | some z, some x, some y => some (.ite z x y)
      | _, _, _ => none
    | .Compare a ops bs _ => cCmp C n sc a ops bs
    | .Tuple es _ _ => if es.length ≤ 1000 then (cL (cE C n sc) es).map .tup else none
    | .List es _ => if es.length ≤ 1000 then (cL (cE C n sc) es).map .lst else none
    | .Subscript a (.Slice none none (some (.UnaryOp .USub (.Constant (.int 1) _ _) _)) _) _ => (cE C n sc a).map .rev
    | .Subscript a (.Slice lo hi none _) _ => match cE C n sc a, cO C n sc lo, cO C n sc hi with
      | some x, some l, some h => some (.sl x l h)
      | _, _, _ => none
    | .Subscript (.Name x px) i _ => if plainIxB i = true then match vslot C sc x, cE C n sc i with
      | some j, some y => some (.ixv j y)
      | _, _ => none else none
    | .Subscript a i _ => if plainIxB i = true then match cE C n sc a, cE C n sc i with
      | some x, some y => some (.ix x y)
      | _, _ => none else none
    | .ListComp elt [⟨tg, iter, ifs, 0⟩] scope _ => match cTg C (relS scope sc) tg, cI C n sc tg iter, cIf C n (relS scope sc) ifs, cE C.inner n (relS scope sc) elt with
      | some t, some s, some c, some x => if (tgLoc (relS scope sc) tg && blkC C.N sc scope ((tgNames tg).zip t.slots) && noSetE iter && decide (((tgNames tg).zip t.slots).map (·.2) = t.slots)) = true then some (.comp t s c x) else none
      | _, _, _, _ => none
    | .Call (.Name x p) args [] _ => match args with
      | [.Lambda params (.Call (.Name f _) (e :: es) [] _) scope _] => if (decide (x = "_law_refused") && isGl sc x && C.rf && noArgs params && LamX.lamSB sc scope && okName f && decide (scope.names.lookup f = some .globalImplicit)) = true then match C.gf.lookup f with
        | some ps => if (e :: es).length = ps.length then (cL (cE C.inner n scope) (e :: es)).map (.refused f) else none
        | none => none else none
      | [.GeneratorExp elt [⟨.Name y py, iter, [], 0⟩] scope _] => if (decide (x = "all") && isGl sc x && decide (C.tab = some false) && noListE iter) = true then match slotOf C.N y with
        | some i => if genC C.N sc scope y i = true then match cI C n sc (.Name y py) iter, cE C.inner n scope elt with
          | some is, some ie => some (.allg i is ie)
          | _, _ => none else none
        | none => none else none
      | [.Call (.Name g gp) (e :: es) [] p'] => if (C.fresh && decide (x ∈ C.lent)) = true then (if (okName x && isGl sc x && okName g && isGl sc g) = true then match C.gf.lookup x, C.gf.lookup g with
        | some psf, some psg => if psf.length = 1 ∧ (e :: es).length = psg.length then (cL (cE C n sc) (e :: es)).map (.callc x g) else none
        | _, _ => none else none) else if okName x = true then cCall C n sc x [.Call (.Name g gp) (e :: es) [] p'] else none
      | args => if okName x = true then cCall C n sc x args else none
    | .Call (.Attribute (.Name x px) m apos) [b] [] cpos => if (decide (m = "index") && noStar b && (apos.endLine == cpos.line)) = true then match vslot C sc x, cE C n sc b with
      | some i, some ib => some (.index (.v i) ib)
      | _, _ => none else none
    | .Call (.Name x _) args (k :: ks) _ => if (okName x && isGl sc x) = true then match C.gf.lookup x with
      | some ps => if (args.length + (k :: ks).length = ps.length) then match cL (cE C n sc) args, cKw (cE C n sc) (k :: ks) (ps.drop args.length) with
        | some as, some bs => some (.callk x as bs)
        | _, _ => none else none
      | none => none else none
    | _ => none
def cCmp (C : CC) : Nat → Scope → Expr → List CmpOp → List Expr → Option E
  | 0, _, _, _, _ => none
  | n + 1, sc, a, ops, bs => match ops, bs with
    | [o], [b] => if isNoneE b = true then (match o with
        | .Is => (cE C n sc a).map .isN
        | .IsNot => (cE C n sc a).map .ntN
        | o => if (!behindInMarks o b) = true then match cE C n sc a, cE C n sc b with
          | some x, some y => some (.cmp o x y)
          | _, _ => none else none)
      else if (!behindInMarks o b) = true then match cE C n sc a, cE C n sc b with
        | some x, some y => some (.cmp o x y)
        | _, _ => none else none
    | [o, o'], [b, c] => if (!lastMarks [o, o'] [b, c]) = true then match cE C n sc a, cE C n sc b, cE C n sc c with
      | some x, some y, some z => some (.chn o o' x y z)
      | _, _, _ => none else none
    | _, _ => none
def cCall (C : CC) : Nat → Scope → Str → List Expr → Option E
  | 0, _, _, _ => none
  | n + 1, sc, x, args => if isGl sc x = true then match C.gf.lookup x with
    | some ps => if args.length = ps.length ∧ args ≠ [] then (cL (cE C n sc) args).map (.call x) else none
    | none => match args with
      | [.Name y _] => match (if x = "len" then vslot C sc y else none) with
        | some i => some (.lenv i)
        | none => match biOf x, cL (cE C n sc) args with
          | some f, some as => some (.bi f as)
          | _, _ => none
      | [a, .Name t _] => if x = "isinstance" then (if (isaName t && isGl sc t && noStar a) = true then (cE C n sc a).map (.isi t) else none) else match biOf x, cL (cE C n sc) args with
          | some f, some as => some (.bi f as)
          | _, _ => none
      | _ => if args = [] then none else match biOf x, cL (cE C n sc) args with
          | some f, some as => some (.bi f as)
          | _, _ => none
    else none
def cO (C : CC) : Nat → Scope → Option Expr → Option Eo
  | 0, _, _ => none
  | n + 1, sc, none => some .no
  | n + 1, sc, some e => (cE C n sc e).map .yes
def cIf (C : CC) : Nat → Scope → List Expr → Option Eo
  | 0, _, _ => none
  | n + 1, sc, [] => some .no
  | n + 1, sc, [e] => (cT C.inner n sc e).map .yes
  | n + 1, sc, _ => none
def cT (C : CC) : Nat → Scope → Expr → Option E
  | 0, _, _ => none
  | n + 1, sc, e => match e with
    | .UnaryOp .Not a _ => (cT C n sc a).map .no
    | .BoolOp .And (a :: b :: r) p => match cT C n sc a, cT C n sc (.BoolOp .And (b :: r) p) with
      | some x, some y => some (.and x y)
      | _, _ => none
    | .BoolOp .Or (a :: b :: r) p => match cT C n sc a, cT C n sc (.BoolOp .Or (b :: r) p) with
      | some x, some y => some (.or x y)
      | _, _ => none
    | .BoolOp _ [a] _ => cT C n sc a
    | .Compare a ops bs p => cCmp C n sc a ops bs
    | .Name x p => cE C n sc (.Name x p)
    | .Call f as ks p => cE C n sc (.Call f as ks p)
    | .Subscript a b p => cE C n sc (.Subscript a b p)
    | _ => none
def cI (C : CC) : Nat → Scope → Expr → Expr → Option Src
  | 0, _, _, _ => none
  | n + 1, sc, tg, e => match e with
    | .Call (.Name x p) args [] q => if (decide (x = "range") && isGl sc x) = true then match args with
        | [a] => if noStar a = true then (cE C n sc a).map .r1 else none
        | [a, b] => if (noStar a && noStar b) = true then match cE C n sc a, cE C n sc b with
          | some x, some y => some (.r2 x y)
          | _, _ => none else none
        | [a, b, c] => if (noStar a && noStar b && noStar c) = true then match cE C n sc a, cE C n sc b, cE C n sc c with
          | some x, some y, some z => some (.r3 x y z)
          | _, _, _ => none else none
        | _ => none
      else if (decide (x = "zip") && isGl sc x) = true then match args with
        | [a, b] => if (isTupE tg && noStar a && noStar b) = true then match cE C n sc a, cE C n sc b with
          | some x, some y => some (.zip x y)
          | _, _ => none else none
        | _ => none
      else (cE C n sc (.Call (.Name x p) args [] q)).map .it
    | e => (cE C n sc e).map .it
end
end DL
end
section
namespace DL
open PySem PySem.Spec PyProof.Rows L2
theorem isVis_of {sc : Scope} {x : Str} (h : isVis sc x = true) : Vis sc x := by
  unfold isVis at h
  simp only [Bool.or_eq_true, decide_eq_true_eq] at h
  rcases h with (h | h) | h
  · exact .inl h
  · exact .inr (.inl h)
  · exact .inr (.inr h)
theorem isLoc_of {sc : Scope} {x : Str} (h : isLoc sc x = true) : Loc sc x := by
  unfold isLoc at h
  simp only [Bool.or_eq_true, decide_eq_true_eq] at h
  exact h
theorem isGl_of {X : Cx} {x : Str} (h : isGl X.env.scope x = true) : Gl X x := by
  have h' : decide (X.env.scope.names.lookup x = some .globalImplicit) = true := h
  show X.env.scope.names.lookup x = some .globalImplicit
  exact of_decide_eq_true h'
theorem ok1 {x : Str} (h : okName x = true) : (x == ("__debug__" : Str)) = false ∧ (x == ("__classdict__" : Str)) = false := by
  unfold okName at h
  simpa using h
theorem vslot_of {C : CC} {sc : Scope} {x : Str} {i : Nat} (h : vslot C sc x = some i) : okName x = true ∧ Vis sc x ∧ C.N[i]? = some x := by
  unfold vslot at h
  split at h
  · rename_i q
    rw [Bool.and_eq_true] at q
    exact ⟨q.1, isVis_of q.2, slotOf_get h⟩
  · cases h
theorem lslot_of {C : CC} {sc : Scope} {x : Str} {i : Nat} (h : lslot C sc x = some i) : okName x = true ∧ Loc sc x ∧ C.N[i]? = some x := by
  unfold lslot at h
  split at h
  · rename_i q
    rw [Bool.and_eq_true] at q
    exact ⟨q.1, isLoc_of q.2, slotOf_get h⟩
  · cases h
theorem bnames_none {X : Cx} {G : En} {Sg : Tab} {C : CC} {k : Nat} (o : XO X G Sg C k) {x : Str} (h : x ∈ bnames) : X.mg x = none := o.bi x h

theorem noArgs_of {a : Arguments} (h : noArgs a = true) : a.posonlyargs = [] ∧ a.args = [] ∧ a.vararg = none ∧ a.kwonlyargs = [] ∧ a.kw_defaults = [] ∧ a.kwarg = none ∧ a.defaults = [] := by
  unfold noArgs at h
  simp only [Bool.and_eq_true, List.isEmpty_iff, Option.isNone_iff_eq_none] at h
  obtain ⟨⟨⟨⟨⟨⟨h1, h2⟩, h3⟩, h4⟩, h5⟩, h6⟩, h7⟩ := h
  exact ⟨h1, h2, h3, h4, h5, h6, h7⟩
theorem XO.lam {X : Cx} {G : En} {Sg : Tab} {C : CC} {k : Nat} (o : XO X G Sg C k) (A : Around) (outer : List Env) (s : Shared) (H : Hp) (E : XK) (scope : Scope) (fa c' : Addr) (hr : Room (k + 2) (A.deeper (LamX.lamEnv X scope s.heap.objs.size fa c'))) : XO (LamX.lamCx X A outer s H E scope fa c') G Sg C.inner k :=
  ⟨o.K, o.N, o.nd, rfl, hr, o.bi, o.ks, fun x ps h => ⟨(o.fs x ps h).is⟩, (fun b h => nomatch h), (fun h => nomatch h), (fun h => nomatch h), (fun h => nomatch h)⟩
theorem XO.gen {X : Cx} {G : En} {Sg : Tab} {C : CC} {k : Nat} (o : XO X G Sg C k) (s : Shared) (H : Hp) (genv : Env) (fp : List Addr) (A : Around) (pn : List (Addr × Obj)) (hr : Room (k + 2) A) : XO (Cx.gx X s H genv fp A pn) G Sg C.inner k :=
  ⟨o.K, o.N, o.nd, o.calm, hr, o.bi, o.ks, fun x ps h => ⟨(o.fs x ps h).is⟩, (fun b h => nomatch h), (fun h => nomatch h), (fun h => nomatch h), (fun h => nomatch h)⟩
theorem noListE_of {e : Expr} (h : noListE e = true) (env : Env) : ∀ x, genFold e env x = pure x := by
  intro x
  cases e <;> first | rfl | cases h
structure Snd (n : Nat) : Prop where
  e : ∀ {C : CC} {X : Cx} {G : En} {Sg : Tab} {k : Nat} {e : Expr} {ir : E}, XO X G Sg C k → cE C n X.env.scope e = some ir → PE X e (tE G (wpE Sg ir)) ∧ noStar e = true
  call : ∀ {C : CC} {X : Cx} {G : En} {Sg : Tab} {k : Nat} {x : Str} {args : List Expr} {ir : E} (p pos : Pos), XO X G Sg C k → okName x = true → cCall C n X.env.scope x args = some ir → PE X (.Call (.Name x p) args [] pos) (tE G (wpE Sg ir))
  cmp : ∀ {C : CC} {X : Cx} {G : En} {Sg : Tab} {k : Nat} {a : Expr} {ops : List CmpOp} {bs : List Expr} {ir : E} (pos : Pos), XO X G Sg C k → cCmp C n X.env.scope a ops bs = some ir → PE X (.Compare a ops bs pos) (tE G (wpE Sg ir)) ∧ PT X (.Compare a ops bs pos) (tT G (toB (wpE Sg ir)))
  o : ∀ {C : CC} {X : Cx} {G : En} {Sg : Tab} {k : Nat} {e : Option Expr} {ir : Eo}, XO X G Sg C k → cO C n X.env.scope e = some ir → PO X e (tO G (wpO Sg ir))
  ifs : ∀ {C : CC} {X : Cx} {G : En} {Sg : Tab} {k : Nat} {es : List Expr} {ir : Eo}, XO X G Sg C.inner k → cIf C n X.env.scope es = some ir → PTs X es (tT G fun st Q => wpC Sg ir st Q)
  t : ∀ {C : CC} {X : Cx} {G : En} {Sg : Tab} {k : Nat} {e : Expr} {ir : E}, XO X G Sg C k → cT C n X.env.scope e = some ir → PT X e (tT G (toB (wpE Sg ir))) ∧ ∀ op vs pos, e = .BoolOp op vs pos → PW X e (tT G (toB (wpE Sg ir)))
  i : ∀ {C : CC} {X : Cx} {G : En} {Sg : Tab} {k : Nat} {tg e : Expr} {ir : Src}, XO X G Sg C k → cI C n X.env.scope tg e = some ir → PI X tg e (tI G (wpI Sg ir))
section
variable {n : Nat} {C : CC} {X : Cx} {G : En} {Sg : Tab} {k : Nat}
theorem cL_ok (ih : Snd n) (o : XO X G Sg C k) : ∀ {es : List Expr} {ir : Es}, cL (cE C n X.env.scope) es = some ir → PA X es (tA G es.length (wpEs Sg ir)) ∧ ∀ e ∈ es, noStar e = true
  | [], ir, h => by
    cases h
    exact ⟨ra_nil, fun e he => absurd he (by simp)⟩
  | e :: es, ir, h => by
    unfold cL at h
    split at h
    · rename_i hs
      split at h
      · rename_i x xs h1 h2
        cases h
        obtain ⟨a, b⟩ := cL_ok ih o h2
        refine ⟨ra_cons (ih.e o h1).1 a (star_cons hs es _), fun y hy => ?_⟩
        rcases List.mem_cons.mp hy with z | z
        · rw [z]
          exact hs
        · exact b y z
      · cases h
    · cases h
theorem cL_stars {f : Expr → Option E} : ∀ {es : List Expr} {ir : Es}, cL f es = some ir → ∀ e ∈ es, noStar e = true
  | [], ir, h => fun e he => absurd he (by simp)
  | e :: es, ir, h => by
    unfold cL at h
    split at h
    · rename_i hs
      split at h
      · rename_i x xs h1 h2
        intro y hy
        rcases List.mem_cons.mp hy with z | z
        · rw [z]
          exact hs
        · exact cL_stars h2 y z
      · cases h
    · cases h
theorem cKw_ok (ih : Snd n) (o : XO X G Sg C k) {pos : Pos} : ∀ {ks : List Keyword} {ps : List Str} {ir : Es}, cKw (cE C n X.env.scope) ks ps = some ir → PK X ks (tA G ps.length (wpEs Sg ir)) ∧ (backToKw pos (keywordEach ks X.env)).all (·.1.isSome) = true ∧ (backToKw pos (keywordEach ks X.env)).filterMap (·.1) = ps ∧ (backToKw pos (keywordEach ks X.env)).any (·.1.isNone) = false
  | [], [], ir, h => by
    cases h
    exact ⟨rk_nil, rfl, rfl, rfl⟩
  | [], _ :: _, ir, h => by cases h
  | ⟨none, e, kp⟩ :: ks, _, ir, h => by
    unfold cKw at h
    cases h
  | ⟨some nm, e, kp⟩ :: ks, [], ir, h => by
    unfold cKw at h
    cases h
  | ⟨some nm, e, kp⟩ :: ks, p :: ps, ir, h => by
    unfold cKw at h
    split at h
    · rename_i hn
      subst hn
      split at h
      · rename_i x xs h1 h2
        cases h
        obtain ⟨a, b, c, d⟩ := cKw_ok (pos := pos) ih o h2
        refine ⟨rk_cons (ih.e o h1).1 a, ?_, ?_, ?_⟩
        · show (true && (backToKw pos (keywordEach ks X.env)).all (·.1.isSome)) = true
          rw [b]
          rfl
        · show nm :: (backToKw pos (keywordEach ks X.env)).filterMap (·.1) = nm :: ps
          rw [c]
        · show (false || (backToKw pos (keywordEach ks X.env)).any (·.1.isNone)) = false
          rw [d]
          rfl
      · cases h
    · cases h
theorem snd_o (ih : Snd n) {e : Option Expr} {ir : Eo} (o : XO X G Sg C k) (h : cO C (n + 1) X.env.scope e = some ir) : PO X e (tO G (wpO Sg ir)) := by
  cases e with
  | none =>
    unfold cO at h
    cases h
    exact ro_no
  | some e =>
    unfold cO at h
    cases h1 : cE C n X.env.scope e with
    | none => rw [h1] at h; cases h
    | some x =>
      rw [h1] at h
      cases h
      exact ro_yes (ih.e o h1).1
theorem snd_ifs (ih : Snd n) {es : List Expr} {ir : Eo} (o : XO X G Sg C.inner k) (h : cIf C (n + 1) X.env.scope es = some ir) : PTs X es (tT G fun st Q => wpC Sg ir st Q) := by
  match es, h with
  | [], h =>
    unfold cIf at h
    cases h
    exact rts_no
  | [e], h =>
    unfold cIf at h
    cases h1 : cT C.inner n X.env.scope e with
    | none => rw [h1] at h; cases h
    | some x =>
      rw [h1] at h
      cases h
      exact rts_yes (ih.t o h1).1
  | _ :: _ :: _, h =>
    unfold cIf at h
    cases h
theorem map_some {α β : Type} {f : α → β} {o : Option α} {y : β} (h : o.map f = some y) : ∃ x, o = some x ∧ f x = y := by
  cases o with
  | none => cases h
  | some x => exact ⟨x, rfl, Option.some.inj h⟩
theorem snd_t (ih : Snd n) {e : Expr} {ir : E} (o : XO X G Sg C k) (h : cT C (n + 1) X.env.scope e = some ir) : PT X e (tT G (toB (wpE Sg ir))) ∧ ∀ op vs pos, e = .BoolOp op vs pos → PW X e (tT G (toB (wpE Sg ir))) := by
  unfold cT at h
  split at h
  · obtain ⟨x, h1, rfl⟩ := map_some h
    exact ⟨rt_no (ih.t o h1).1, fun op vs pos z => nomatch z⟩
  · split at h
    · rename_i a b r p x y h1 h2
      cases h
      have w := rw_and (ih.t o h1).1 ((ih.t o h2).2 _ _ _ rfl)
      exact ⟨w.pt, fun _ _ _ _ => w⟩
    · cases h
  · split at h
    · rename_i a b r p x y h1 h2
      cases h
      have w := rw_or (ih.t o h1).1 ((ih.t o h2).2 _ _ _ rfl)
      exact ⟨w.pt, fun _ _ _ _ => w⟩
    · cases h
  · rename_i op a p
    have w : PW X (.BoolOp op [a] p) (tT G (toB (wpE Sg ir))) := by
      cases op with
      | And => exact rw_and1 (ih.t o h).1
      | Or => exact rw_or1 (ih.t o h).1
    exact ⟨w.pt, fun _ _ _ _ => w⟩
  · exact ⟨(ih.cmp _ o h).2, fun op vs pos z => nomatch z⟩
  · exact ⟨rt_val (ih.e o h).1 (fun _ => rfl), fun op vs pos z => nomatch z⟩
  · exact ⟨rt_val (ih.e o h).1 (fun _ => rfl), fun op vs pos z => nomatch z⟩
  · exact ⟨rt_val (ih.e o h).1 (fun _ => rfl), fun op vs pos z => nomatch z⟩
  · cases h
theorem isNoneE_of {b : Expr} (h : isNoneE b = true) : ∃ j p, b = .Constant .none j p := by
  unfold isNoneE at h
  split at h
  · exact ⟨_, _, rfl⟩
  · cases h
theorem snd_cmp1 (ih : Snd n) {a b : Expr} {op : CmpOp} {ir : E} (pos : Pos) (o : XO X G Sg C k) (h : (if (!behindInMarks op b) = true then match cE C n X.env.scope a, cE C n X.env.scope b with
          | some x, some y => some (E.cmp op x y)
          | _, _ => none else none) = some ir) :
    PE X (.Compare a [op] [b] pos) (tE G (wpE Sg ir)) ∧ PT X (.Compare a [op] [b] pos) (tT G (toB (wpE Sg ir))) := by
  split at h
  · rename_i q
    rw [Bool.not_eq_true'] at q
    split at h
    · rename_i x y h1 h2
      cases h
      exact ⟨r_cmp o.K o.hu q (ih.e o h1).1 (ih.e o h2).1, rt_cmp o.K o.hu q (ih.e o h1).1 (ih.e o h2).1⟩
    · cases h
  · cases h
theorem snd_cmp (ih : Snd n) {a : Expr} {ops : List CmpOp} {bs : List Expr} {ir : E} (pos : Pos) (o : XO X G Sg C k) (h : cCmp C (n + 1) X.env.scope a ops bs = some ir) :
    PE X (.Compare a ops bs pos) (tE G (wpE Sg ir)) ∧ PT X (.Compare a ops bs pos) (tT G (toB (wpE Sg ir))) := by
  unfold cCmp at h
  split at h
  · rename_i op b
    split at h
    · rename_i hb
      split at h
      · obtain ⟨x, h1, rfl⟩ := map_some h
        obtain ⟨j, p, rfl⟩ := isNoneE_of hb
        exact ⟨r_isN (ih.e o h1).1, rt_isN (ih.e o h1).1⟩
      · obtain ⟨x, h1, rfl⟩ := map_some h
        obtain ⟨j, p, rfl⟩ := isNoneE_of hb
        exact ⟨r_ntN (ih.e o h1).1, rt_ntN (ih.e o h1).1⟩
      · exact snd_cmp1 ih pos o h
    · exact snd_cmp1 ih pos o h
  · rename_i o1 o2 b c
    split at h
    · rename_i q
      rw [Bool.not_eq_true'] at q
      split at h
      · rename_i x y z h1 h2 h3
        cases h
        exact ⟨r_chn o.K o.hu q (ih.e o h1).1 (ih.e o h2).1 (ih.e o h3).1, rt_chn o.K o.hu q (ih.e o h1).1 (ih.e o h2).1 (ih.e o h3).1⟩
      · cases h
    · cases h
  · cases h
theorem snd_i (ih : Snd n) {tg e : Expr} {ir : Src} (o : XO X G Sg C k) (h : cI C (n + 1) X.env.scope tg e = some ir) : PI X tg e (tI G (wpI Sg ir)) := by
  unfold cI at h
  split at h
  · rename_i x p args q
    split at h
    · rename_i c
      rw [Bool.and_eq_true, decide_eq_true_eq] at c
      obtain ⟨rfl, hg⟩ := c
      have hg' : Gl X "range" := isGl_of hg
      have hm : X.mg "range" = none := o.bi _ (by simp [bnames])
      split at h
      · rename_i a
        split at h
        · rename_i s1
          obtain ⟨y, h1, rfl⟩ := map_some h
          exact ri_r1 hg' hm (ih.e o h1).1 (star_cons s1 [] _)
        · cases h
      · rename_i a b
        split at h
        · rename_i s1
          rw [Bool.and_eq_true] at s1
          split at h
          · rename_i y z h1 h2
            cases h
            exact ri_r2 hg' hm (ih.e o h1).1 (ih.e o h2).1 (star_cons s1.1 _ _) (star_cons s1.2 [] _)
          · cases h
        · cases h
      · rename_i a b c
        split at h
        · rename_i s1
          rw [Bool.and_eq_true, Bool.and_eq_true] at s1
          split at h
          · rename_i y z w h1 h2 h3
            cases h
            refine ri_r3 hg' hm (ra_cons (ih.e o h1).1 (ra_cons (ih.e o h2).1 (ra_cons (ih.e o h3).1 ra_nil (star_cons s1.2 _ _)) (star_cons s1.1.2 _ _)) (star_cons s1.1.1 _ _)) (star_cons s1.1.1 _ _) (star_plain fun e he => ?_)
            simp only [List.mem_cons, List.not_mem_nil, or_false] at he
            rcases he with rfl | rfl
            · exact s1.1.2
            · exact s1.2
          · cases h
        · cases h
      · cases h
    · split at h
      · rename_i c
        rw [Bool.and_eq_true, decide_eq_true_eq] at c
        obtain ⟨rfl, hg⟩ := c
        have hg' : Gl X "zip" := isGl_of hg
        have hm : X.mg "zip" = none := o.bi _ (by simp [bnames])
        split at h
        · rename_i a b
          split at h
          · rename_i s1
            rw [Bool.and_eq_true, Bool.and_eq_true] at s1
            split at h
            · rename_i y z h1 h2
              cases h
              obtain ⟨⟨t1, s1⟩, s2⟩ := s1
              cases tg <;> first | (cases t1; done) | skip
              refine ri_zip o.K hg' hm (ra_cons (ih.e o h1).1 (ra_cons (ih.e o h2).1 ra_nil (star_cons s2 _ _)) (star_cons s1 _ _)) (star_cons s1 _ _) (star_plain fun e he => ?_)
              rw [List.mem_singleton.mp he]
              exact s2
            · cases h
          · cases h
        · cases h
      · obtain ⟨y, h1, rfl⟩ := map_some h
        exact ri_it o.K (ih.e o h1).1
  · obtain ⟨y, h1, rfl⟩ := map_some h
    exact ri_it o.K (ih.e o h1).1

def tgG (K : PySem.W.Frag) : Tg → TG
  | .one i => gName i
  | .two i j => gTup K 2 (gCons (gName i) (gCons (gName j) gNil))
  | .three i j l => gTup K 3 (gCons (gName i) (gCons (gName j) (gCons (gName l) gNil)))
theorem tgG_ok (t : Tg) : TgOk G t (tgG G.K t) := by
  cases t with
  | one i => exact tg_one i
  | two i j => exact tg_two i j
  | three i j l => exact tg_three i j l
theorem tg_pg {tg : Expr} {t : Tg} (hN : X.N = C.N) (hd : X.N.Nodup) (hc : X.calm = true) (h : cTg C X.env.scope tg = some t) (hf : ∀ x ∈ tgNames tg, X.fn x = true ∨ X.env.scope.names.lookup x = some .local) : PG X tg (tgG X.K t) := by
  have one : ∀ {x : Str} {p : Pos} {i : Nat}, lslot C X.env.scope x = some i → (X.fn x = true ∨ X.env.scope.names.lookup x = some .local) → PG X (.Name x p) (gName i) := fun h hf => by
    obtain ⟨_, l, g⟩ := lslot_of h
    exact pg_name hd (by rw [hN]; exact g) l hf
  unfold cTg at h
  split at h
  · obtain ⟨i, h1, rfl⟩ := map_some h
    exact one h1 (hf _ (by simp [tgNames]))
  · split at h
    · rename_i i j h1 h2
      cases h
      exact pg_tup hc (pgs_cons (one h1 (hf _ (by simp [tgNames]))) (pgs_cons (one h2 (hf _ (by simp [tgNames]))) pgs_nil))
    · cases h
  · split at h
    · rename_i i j l h1 h2 h3
      cases h
      exact pg_tup hc (pgs_cons (one h1 (hf _ (by simp [tgNames]))) (pgs_cons (one h2 (hf _ (by simp [tgNames]))) (pgs_cons (one h3 (hf _ (by simp [tgNames]))) pgs_nil)))
    · cases h
  · cases h
theorem tgLoc_of {sc : Scope} {tg : Expr} (h : tgLoc sc tg = true) : ∀ x ∈ tgNames tg, sc.names.lookup x = some .local := fun x hx => by
  unfold tgLoc at h
  rw [List.all_eq_true] at h
  exact of_decide_eq_true (h x hx)
theorem noSetE_of {e : Expr} (h : noSetE e = true) (env : Env) : ∀ x, foldedSetIterable e env x = pure x := by
  intro x
  cases e <;> first | rfl | cases h

theorem isaName_of {t : Str} (h : isaName t = true) : ∃ T : String, t = Str.ofString T ∧ (T = "int" ∨ T = "bool" ∨ T = "tuple") := by
  unfold isaName at h
  simp only [Bool.or_eq_true, decide_eq_true_eq] at h
  rcases h with (h | h) | h
  · exact ⟨"int", h, .inl rfl⟩
  · exact ⟨"bool", h, .inr (.inl rfl)⟩
  · exact ⟨"tuple", h, .inr (.inr rfl)⟩
theorem XO.gl (o : XO X G Sg C k) {x : Str} (h : isGl X.env.scope x = true) : Gl X x := isGl_of h
theorem snd_bi (ih : Snd n) {x : Str} {e : Expr} {es : List Expr} {f : Bi} {as : Es} (p pos : Pos) (o : XO X G Sg C k) (hg : isGl X.env.scope x = true) (hf : biOf x = some f) (ha : cL (cE C n X.env.scope) (e :: es) = some as) :
    PE X (.Call (.Name x p) (e :: es) [] pos) (tE G (wpE Sg (.bi f as))) := by
  obtain ⟨h1, h2⟩ := cL_ok ih o ha
  have g := isGl_of hg
  have s1 := star_cons (h2 e List.mem_cons_self) es X.env
  have s2 : (backTo pos (starEach es X.env)).any (·.1) = false := star_plain fun y hy => h2 y (List.mem_cons_of_mem _ hy)
  have b : ∀ y ∈ bnames, X.mg y = none := o.bi
  unfold biOf at hf
  split at hf
  · rename_i q; cases hf; subst q
    exact r_len o.K g (b _ (by simp [bnames])) h1 s1 s2
  split at hf
  · rename_i q; cases hf; subst q
    exact r_abs g (b _ (by simp [bnames])) h1 s1 s2
  split at hf
  · rename_i q; cases hf; subst q
    exact r_int g (b _ (by simp [bnames])) h1 s1 s2
  split at hf
  · rename_i q; cases hf; subst q
    exact r_max o.K o.calm g (b _ (by simp [bnames])) h1 s1 s2
  split at hf
  · rename_i q; cases hf; subst q
    exact r_min o.calm g (b _ (by simp [bnames])) h1 s1 s2
  split at hf
  · rename_i q; cases hf; subst q
    exact r_sum o.K o.calm g (b _ (by simp [bnames])) h1 s1 s2
  split at hf
  · rename_i q; cases hf; subst q
    exact r_list o.K g (b _ (by simp [bnames])) h1 s1 s2
  split at hf
  · rename_i q; cases hf; subst q
    exact r_tuple o.K g (b _ (by simp [bnames])) h1 s1 s2
  split at hf
  · rename_i q; cases hf; subst q
    exact r_sorted o.K g (b _ (by simp [bnames])) h1 s1 s2
  · cases hf
theorem Room.le {j m : Nat} {A : Around} (h : Room m A) (hj : j ≤ m) : Room j A := h.mono hj
theorem snd_call (ih : Snd n) {x : Str} {args : List Expr} {ir : E} (p pos : Pos) (o : XO X G Sg C k) (hx : okName x = true) (h : cCall C (n + 1) X.env.scope x args = some ir) : PE X (.Call (.Name x p) args [] pos) (tE G (wpE Sg ir)) := by
  unfold cCall at h
  split at h
  · rename_i hg
    split at h
    · rename_i ps hf
      split at h
      · rename_i q
        obtain ⟨as, h1, rfl⟩ := map_some h
        obtain ⟨a1, a2⟩ := cL_ok ih o h1
        match args, q, a1, a2 with
        | e :: es, q, a1, a2 =>
          rw [q.1] at a1
          exact r_call (o.fs x ps hf) o.K (o.room.mono (by omega)) (isGl_of hg) (ok1 hx).1 a1 (star_cons (a2 e List.mem_cons_self) es _) (star_plain fun y hy => a2 y (List.mem_cons_of_mem _ hy))
        | [], q, _, _ => exact (q.2 rfl).elim
      · cases h
    · split at h
      · rename_i y py
        split at h
        · rename_i i q
          cases h
          split at q
          · rename_i e
            subst e
            obtain ⟨a1, a2, a3⟩ := vslot_of q
            exact r_lenv o.K (by rw [o.N]; exact a3) a2 (ok1 a1).1 (ok1 a1).2 (isGl_of hg) (o.bi _ (by simp [bnames]))
          · cases q
        · split at h
          · rename_i f as h1 h2
            cases h
            exact snd_bi ih p pos o hg h1 h2
          · cases h
      · rename_i a t pt
        split at h
        · rename_i e
          subst e
          split at h
          · rename_i q
            rw [Bool.and_eq_true, Bool.and_eq_true] at q
            obtain ⟨⟨q1, q2⟩, q3⟩ := q
            obtain ⟨y, h1, rfl⟩ := map_some h
            obtain ⟨T, e1, e2⟩ := isaName_of q1
            have ht : t ∈ bnames := by
              subst e1
              rcases e2 with rfl | rfl | rfl <;> simp [bnames]
            exact r_isi o.K e1 e2 (isGl_of hg) (o.bi _ (by simp [bnames])) (isGl_of q2) (o.bi _ ht) (ih.e o h1).1 (star_cons q3 _ _) rfl rfl
          · cases h
        · split at h
          · rename_i f as h1 h2
            cases h
            exact snd_bi ih p pos o hg h1 h2
          · cases h
      · split at h
        · cases h
        · rename_i ne
          split at h
          · rename_i f as h1 h2
            cases h
            match args, ne, h2 with
            | e :: es, _, h2 => exact snd_bi ih p pos o hg h1 h2
            | [], ne, _ => exact (ne rfl).elim
          · cases h
  · cases h
theorem snd_e (ih : Snd n) {e : Expr} {ir : E} (o : XO X G Sg C k) (h : cE C (n + 1) X.env.scope e = some ir) : PE X e (tE G (wpE Sg ir)) ∧ noStar e = true := by
  unfold cE at h
  split at h
  · split at h
    · rename_i i hv
      cases h
      obtain ⟨a1, a2, a3⟩ := vslot_of hv
      exact ⟨r_v (by rw [o.N]; exact a3) a2 (ok1 a1).1 (ok1 a1).2, rfl⟩
    · split at h
      · rename_i q
        rw [Bool.and_eq_true] at q
        obtain ⟨d, h1, rfl⟩ := map_some h
        obtain ⟨u, v, e1, e2, e3⟩ := o.ks _ d h1
        exact ⟨r_glob (isGl_of q.2) e1 e2 (fun F => e3 _ F) (ok1 q.1).1, rfl⟩
      · cases h
  · split at h
    · cases h; exact ⟨r_c pe_non fun F => .non, rfl⟩
    · cases h; exact ⟨r_c pe_bl fun F => .bl _, rfl⟩
    · cases h; exact ⟨r_c pe_int fun F => .int _, rfl⟩
    · cases h; exact ⟨r_c pe_str fun F => .str _, rfl⟩
    · cases h
  · split at h
    · rename_i x y h1 h2
      cases h
      exact ⟨r_bin o.K (ih.e o h1).1 (ih.e o h2).1, rfl⟩
    · cases h
  · obtain ⟨x, h1, rfl⟩ := map_some h
    exact ⟨r_neg (ih.e o h1).1, rfl⟩
  · obtain ⟨x, h1, rfl⟩ := map_some h
    exact ⟨r_no (ih.e o h1).1, rfl⟩
  · split at h
    · rename_i x y h1 h2
      cases h
      exact ⟨r_and (ih.e o h1).1 (ih.e o h2).1, rfl⟩
    · cases h
  · split at h
    · rename_i x y h1 h2
      cases h
      exact ⟨r_orT o.K (ih.e o h1).1 (ih.e o h2).1, rfl⟩
    · cases h
  · rename_i op a p
    refine ⟨?_, rfl⟩
    exact pe_one (ih.e o h).1
  · split at h
    · rename_i z x y h1 h2 h3
      cases h
      exact ⟨r_ite (ih.t o h1).1 (ih.e o h2).1 (ih.e o h3).1, rfl⟩
    · cases h
  · exact ⟨(ih.cmp _ o h).1, rfl⟩
  · split at h
    · rename_i hl
      obtain ⟨x, h1, rfl⟩ := map_some h
      exact ⟨r_tup hl (cL_ok ih o h1).1, rfl⟩
    · cases h
  · split at h
    · rename_i hl
      obtain ⟨x, h1, rfl⟩ := map_some h
      exact ⟨r_lst hl (cL_ok ih o h1).1, rfl⟩
    · cases h
  · obtain ⟨x, h1, rfl⟩ := map_some h
    exact ⟨r_rev o.K (ih.e o h1).1, rfl⟩
  · split at h
    · rename_i x l hh h1 h2 h3
      cases h
      exact ⟨r_sl o.K (ih.e o h1).1 (ih.o o h2) (ih.o o h3), rfl⟩
    · cases h
  · split at h
    · rename_i q
      split at h
      · rename_i j y h1 h2
        cases h
        obtain ⟨a1, a2, a3⟩ := vslot_of h1
        exact ⟨r_ixv o.K (by rw [o.N]; exact a3) a2 (ok1 a1).1 (ok1 a1).2 (plainIx_of q) (ih.e o h2).1, rfl⟩
      · cases h
    · cases h
  · split at h
    · rename_i q
      split at h
      · rename_i x y h1 h2
        cases h
        exact ⟨r_ix o.K (plainIx_of q) (ih.e o h1).1 (ih.e o h2).1, rfl⟩
      · cases h
    · cases h
  · split at h
    · rename_i elt tg iter ifs scope pos _ _ _ _ t s c x h1 h2 h3 h4
      split at h
      · rename_i q
        cases h
        rw [Bool.and_eq_true, Bool.and_eq_true, Bool.and_eq_true, decide_eq_true_eq] at q
        obtain ⟨⟨⟨q1, q2⟩, q3⟩, q4⟩ := q
        refine ⟨r_comp o.calm (by rw [o.N]; exact o.nd) (by rw [o.N]; exact blkOk_by q2) q4 (g := tgG G.K t) (tgG_ok t) (ih.i o h2) (fun s H C' cl fp => ?_) (fun s H C' cl fp => ?_) (fun s H C' cl fp => ?_) (noSetE_of q3 _), rfl⟩
        · rw [← o.K]
          exact tg_pg (C := C) (X := X.blk s H scope (compEnvC scope cl C' X.env) fp) o.N (by show X.N.Nodup; rw [o.N]; exact o.nd) o.calm h1 fun x hx => .inr (tgLoc_of q1 x hx)
        · exact ih.ifs (o.blk s H scope (compEnvC scope cl C' X.env) fp) h3
        · exact (ih.e (o.blk s H scope (compEnvC scope cl C' X.env) fp) h4).1
      · cases h
    · cases h
  · split at h
    · rename_i x p pos _ params f bp e es bpos scope lpos
      split at h
      · rename_i q
        simp only [Bool.and_eq_true, decide_eq_true_eq] at q
        obtain ⟨⟨⟨⟨⟨⟨rfl, q2⟩, q3⟩, q4⟩, q5⟩, q6⟩, q7⟩ := q
        split at h
        · rename_i ps hf
          split at h
          · rename_i hl
            obtain ⟨as, h1, rfl⟩ := map_some h
            obtain ⟨p1, p2, p3, p4, p5, p6, p7⟩ := noArgs_of q4
            have hst : ∀ y ∈ e :: es, noStar y = true := cL_stars h1
            refine ⟨r_refused (k := k) (o.rf q3) (o.fs f ps hf) p1 p2 p3 p4 p5 p6 p7 (LamX.lamS_by q5) (isGl_of q2) q7 (ok1 q6).1 (fun A outer s H E fa c' hr => ?_) (fun env => star_cons (hst e List.mem_cons_self) es env) (fun env => star_plain fun y hy => hst y (List.mem_cons_of_mem _ hy)), rfl⟩
            rw [← hl]
            exact (cL_ok (X := LamX.lamCx X A outer s H E scope fa c') ih (o.lam A outer s H E scope fa c' hr) h1).1
          · cases h
        · cases h
      · cases h
    · rename_i x p pos _ elt y py iter scope gpos
      split at h
      · rename_i q
        simp only [Bool.and_eq_true, decide_eq_true_eq] at q
        obtain ⟨⟨⟨rfl, q2⟩, q3⟩, q4⟩ := q
        split at h
        · rename_i i hi
          split at h
          · rename_i q5
            split at h
            · rename_i is ie h1 h2
              cases h
              obtain ⟨hr, hd⟩ := o.rg q3
              refine ⟨r_all o.K o.calm (hr.mono (by omega)) (by rw [o.N]; exact o.nd) (by rw [o.N]; exact hd) (isGl_of q2) (o.bi _ (by simp [bnames])) (o.tb _ q3) (by rw [o.N]; exact genOk_by q5) (ih.i o h1) (fun s H code fp pn => ?_) (noListE_of q4 _), rfl⟩
              exact (ih.e (o.gen s H (genEnv scope (cloFrom X.env.cells scope.names []) s.heap.objs.size code builtinsNs X.env) fp _ pn (((hr.in1).in1).deeper _)) h2).1
            · cases h
          · cases h
        · cases h
      · cases h
    · rename_i x p pos _ g gp e es p'
      split at h
      · rename_i q
        rw [Bool.and_eq_true] at q
        split at h
        · rename_i q2
          simp only [Bool.and_eq_true] at q2
          obtain ⟨⟨⟨q3, q4⟩, q5⟩, q6⟩ := q2
          split at h
          · rename_i psf psg hf hg
            split at h
            · rename_i hl
              obtain ⟨as, h1, rfl⟩ := map_some h
              obtain ⟨a1, a2⟩ := cL_ok ih o h1
              rw [hl.2] at a1
              exact ⟨r_callc (o.fs _ _ hf) hl.1 (o.fs _ _ hg) (o.fr q.1) (o.room.mono (by omega)) (isGl_of q4) (isGl_of q6) (ok1 q3).1 (ok1 q5).1 a1 (star_cons (a2 e List.mem_cons_self) es _) (star_plain fun y hy => a2 y (List.mem_cons_of_mem _ hy)), rfl⟩
            · cases h
          · cases h
        · cases h
      · split at h
        · rename_i q
          exact ⟨ih.call _ _ o q h, rfl⟩
        · cases h
    · split at h
      · rename_i q
        exact ⟨ih.call _ _ o q h, rfl⟩
      · cases h
  · split at h
    · rename_i x px m apos b cpos q
      simp only [Bool.and_eq_true, decide_eq_true_eq] at q
      obtain ⟨⟨rfl, q2⟩, q3⟩ := q
      split at h
      · rename_i i ib h1 h2
        cases h
        obtain ⟨a1, a2, a3⟩ := vslot_of h1
        refine ⟨r_index o.K (r_v (by rw [o.N]; exact a3) a2 (ok1 a1).1 (ok1 a1).2) (ih.e o h2).1 (star_cons q2 _ _) rfl ?_ q3, rfl⟩
        rw [star_cons q2]
        rfl
      · cases h
    · cases h
  · rename_i x p args kk ks pos
    split at h
    · rename_i q
      rw [Bool.and_eq_true] at q
      split at h
      · rename_i ps hf
        split at h
        · rename_i hl
          split at h
          · rename_i as bs h1 h2
            cases h
            obtain ⟨a1, a2⟩ := cL_ok ih o h1
            obtain ⟨b1, b2, b3, b4⟩ := cKw_ok (pos := pos) ih o h2
            have r1 := o.room.mono (j := k) (by omega)
            have hl2 : args.length + (ps.drop args.length).length = ps.length := by
              rw [List.length_drop]
              omega
            refine ⟨?_, rfl⟩
            match args, a1, a2, b1, b3, hl2 with
            | [], a1, a2, b1, b3, hl2 =>
              have e0 : as = .nil := by
                cases h1
                rfl
              subst e0
              exact r_callk0 (o.fs x ps hf) r1 (isGl_of q.2) (ok1 q.1).1 b1 b2 b3 (by rw [b4]; rfl)
            | e :: es, a1, a2, b1, b3, hl2 =>
              exact r_callk (o.fs x ps hf) hl2 r1 (isGl_of q.2) (ok1 q.1).1 a1 (star_cons (a2 e List.mem_cons_self) es _) b1 b2 b3 (by rw [b4, star_plain a2]; rfl)
          · cases h
        · cases h
      · cases h
    · cases h
  · cases h
/-- name = [..] on one line -/
theorem snd_lcs (ih : Snd n) {elt tg iter : Expr} {ifs : List Expr} {scope : Scope} {lpos spos py : Pos} {y : Str} {i : Nat} {ir : E} (o : XO X G Sg C k) (h : cE C (n + 1) X.env.scope (.ListComp elt [⟨tg, iter, ifs, 0⟩] scope lpos) = some ir)
    (hy : X.N[i]? = some y) (hyl : X.env.scope.names.lookup y = some .local) (hsw : swapsWith (.ListComp elt [⟨tg, iter, ifs, 0⟩] scope lpos) (some (.Name y py)) spos.line X.env = pure true) :
    PS X (.Assign [.Name y py] (.ListComp elt [⟨tg, iter, ifs, 0⟩] scope lpos) spos) (tAsg (tE G (wpE Sg ir)) (gName i)) := by
  unfold cE at h
  split at h
  all_goals (first | (rename_i e; cases e; done) | (cases h; done) | skip)
  rename_i elt' tg' iter' ifs' scope' lpos' e
  cases e
  split at h
  · rename_i t s c x h1 h2 h3 h4
    split at h
    · rename_i q
      cases h
      rw [Bool.and_eq_true, Bool.and_eq_true, Bool.and_eq_true, decide_eq_true_eq] at q
      obtain ⟨⟨⟨q1, q2⟩, q3⟩, q4⟩ := q
      refine rs_comp o.calm (by rw [o.N]; exact o.nd) hy hyl hsw (by rw [o.N]; exact blkOk_by q2) q4 (g := tgG G.K t) (tgG_ok t) (ih.i o h2) (fun s H C' cl fp => ?_) (fun s H C' cl fp => ?_) (fun s H C' cl fp => ?_) (noSetE_of q3 _)
      · rw [← o.K]
        exact tg_pg (C := C) (X := X.blk s H scope (compEnvC scope cl C' X.env) fp) o.N (by show X.N.Nodup; rw [o.N]; exact o.nd) o.calm h1 fun x hx => .inr (tgLoc_of q1 x hx)
      · exact ih.ifs (o.blk s H scope (compEnvC scope cl C' X.env) fp) h3
      · exact (ih.e (o.blk s H scope (compEnvC scope cl C' X.env) fp) h4).1
    · cases h
  · cases h
end
end DL
end
section
namespace DL
open PySem PySem.Spec PyProof.Rows L2

theorem snd : ∀ n, Snd n
  | 0 => ⟨(fun _ h => nomatch h), (fun _ _ _ _ h => nomatch h), (fun _ _ h => nomatch h), (fun _ h => nomatch h), (fun _ h => nomatch h), (fun _ h => nomatch h), (fun _ h => nomatch h)⟩
  | n + 1 =>
    have ih := snd n
    ⟨fun o h => snd_e ih o h, fun p pos o hx h => snd_call ih p pos o hx h, fun pos o h => snd_cmp ih pos o h, fun o h => snd_o ih o h, fun o h => snd_ifs ih o h, fun o h => snd_t ih o h, fun o h => snd_i ih o h⟩

abbrev P0 : Addr → Prop := fun _ => False
/-- what is wanted behind, by data and by values -/
structure EndsOk (G : En) (E : XK) (F : Hp) (N : Nd) (D : Ends) : Prop where
  nx : ∀ st' σ' H' F', N.nx st' → Rel G P0 st' σ' H' F' → Evl.Ex F F' → D.nx σ' H'
  rt : ∀ r st' σ' v H' F', N.rt r st' → Rel G P0 st' σ' H' F' → VOk G P0 st' σ' H' F' r v → D.rt v H'
  bk : ∀ st' σ' H' F', N.bk st' → Rel G P0 st' σ' H' F' → Evl.Ex F F' → D.bk σ' H'
  rs : ∀ n st' H' F' d, N.rs n st' → Glob G st'.cel H' F' → ExIs G.C n (.ref G.C) d H' → E (.ref G.C) d H'
theorem EndsOk.mono {G : En} {E : XK} {F F' : Hp} {N : Nd} {D : Ends} (h : EndsOk G E F N D) (e : Evl.Ex F F') : EndsOk G E F' N D :=
  ⟨fun _ _ _ _ q R x => h.nx _ _ _ _ q R (e.trans x), h.rt, fun _ _ _ _ q R x => h.bk _ _ _ _ q R (e.trans x), h.rs⟩
def tS (G : En) (E : XK) (w : Nd → DS → Prop) : TS := fun D σ H => ∃ st F N, Rel G P0 st σ H F ∧ w N st ∧ EndsOk G E F N D
/-- raise BadArgument(e) -/
def tRz (G : En) (w : WV) : L2.St → Hp → XK → Prop := fun σ H Q => ∃ (st : DS) (F : Hp) (Qd : Str → DS → Prop), Rel G P0 st σ H F ∧ w st (fun x st1 => ∃ n, x.dat = .str n ∧ n.length ≤ 1000 ∧ Qd n st1) ∧
  ∀ n st' H' F' d, Qd n st' → Glob G st'.cel H' F' → ExIs G.C n (.ref G.C) d H' → Q (.ref G.C) d H'
structure RzX (X : Cx) (G : En) (Sg : Tab) : Prop where
  is : ∀ (e : Expr) (ie : E) (p pos : Pos), Gl X "BadArgument" → PE X e (tE G (wpE Sg ie)) → noStar e = true → PMk X (.Call (.Name "BadArgument" p) [e] [] pos) (tRz G (wpE Sg ie))
structure XS (X : Cx) (G : En) (Sg : Tab) (C : CC) (k : Nat) (E : XK) : Prop where
  o : XO X G Sg C k
  fn : ∀ x, X.fn x = true
  kind : X.env.scope.kind = .function
  po : PassesOwn (model X.prog X.w) X.A X.env X.xe
  tk : Takes X (fun cls d _ H => E cls d H)
  rz : RzX X G Sg

section
variable {X : Cx} {G : En} {Sg : Tab} {E : XK} {e a b c d : Expr} {ie ia ib ic id : DL.E} {pos p p' : Pos} {x y : Str}
theorem ss_asg {i : Nat} {x : Str} (hN : X.N.Nodup) (hi : X.N[i]? = some x) (hx : Loc X.env.scope x) (hf : X.fn x = true) (he : PE X e (tE G (wpE Sg ie))) (hs : swapsWith e (some (.Name x p')) pos.line X.env = pure false) :
    PS X (.Assign [.Name x p'] e pos) (tS G E (wpS Sg (.asg i ie))) :=
  ps_imp (ps_set hN hi hx he hs (.inl hf)) fun D σ H ⟨st, F, N, R, hq, ok⟩ =>
    ⟨P0, st, F, fun r st1 => N.nx (st1.set i r.sl), R, hq, fun r st1 v H1 F1 q R1 o1 s1 => ok.nx _ _ _ _ q (R1.storeV i o1) s1.f⟩
theorem ss_asgT {i : Nat} (h : PS X (.Assign [.Name x p'] e pos) (tAsg (tE G (wpE Sg ie)) (gName i))) : PS X (.Assign [.Name x p'] e pos) (tS G E (wpS Sg (.asg i ie))) :=
  ps_imp h fun D σ H ⟨st, F, N, R, hq, ok⟩ =>
    ⟨P0, st, F, fun r st1 => N.nx (st1.set i r.sl), R, hq, fun r st1 v H1 F1 q R1 o1 s1 => ok.nx _ _ _ _ q (R1.storeV i o1) s1.f⟩
theorem ss_unp {t : Tg} {tg : Expr} {g : TG} (to : TgOk G t g) (hg : PG X tg g) (he : PE X e (tE G (wpE Sg ie))) (hs : swapsWithSole [tg] e pos.line X.env = pure false) (hw : swappedStores [tg] e X.env = pure none) (h1 : (assignEach [tg] X.env).map (·.2) = [assign tg X.env]) :
    PS X (.Assign [tg] e pos) (tS G E (wpS Sg (.unp t ie))) :=
  ps_imp (ps_asg (pe_D he) hg hs hw h1) fun D σ H ⟨st, F, N, R, hq, ok⟩ =>
    ⟨P0, st, F, fun r st1 => ∃ st2, putT t r st1 = some st2 ∧ N.nx st2, R, hq, fun r st1 v H1 F1 q R1 d1 s1 => by
      obtain ⟨st2, e2, q⟩ := q
      exact to.run _ _ _ _ _ _ _ _ _ R1 d1 e2 fun σ' R2 _ => ok.nx _ _ _ _ q R2 s1.f⟩
theorem ss_ret (he : PE X e (tE G (wpE Sg ie))) : PS X (.Return (some e) pos) (tS G E (wpS Sg (.ret ie))) :=
  ps_imp (ps_ret he) fun D σ H ⟨st, F, N, R, hq, ok⟩ => ⟨P0, st, F, N.rt, R, hq, fun r st1 v H1 F1 q R1 o1 s1 => ok.rt _ _ _ _ _ _ q R1 o1⟩
theorem ss_brk : PS X (.Break pos) (tS G E (wpS Sg .brk)) := ps_imp ps_break fun D σ H ⟨st, F, N, R, hq, ok⟩ => ok.bk _ _ _ _ hq R (Evl.Ex.refl F)
theorem ss_doc {z : Str} {j : Nat} : PS X (.Expr (.Constant (.str z) j p) pos) (tS G E (wpS Sg .skip)) := ps_imp ps_doc fun D σ H ⟨st, F, N, R, hq, ok⟩ => ok.nx _ _ _ _ hq R (Evl.Ex.refl F)
theorem sss_nil : PSs X [] (tS G E (wpSs Sg .nil)) := pss_imp pss_nil fun D σ H ⟨st, F, N, R, hq, ok⟩ => ok.nx _ _ _ _ hq R (Evl.Ex.refl F)
theorem sss_cons {s : Stmt} {r : List Stmt} {is : S} {ir : Ss} (h1 : PS X s (tS G E (wpS Sg is))) (h2 : PSs X r (tS G E (wpSs Sg ir))) : PSs X (s :: r) (tS G E (wpSs Sg (.cons is ir))) :=
  pss_imp (pss_cons h1 h2) fun D σ H ⟨st, F, N, R, hq, ok⟩ =>
    ⟨st, F, { N with nx := fun st' => wpSs Sg ir N st' }, R, hq, fun st' σ' H' F' q R' ex => ⟨st', F', N, R', q, ok.mono ex⟩, ok.rt, ok.bk, ok.rs⟩
theorem ss_if {q r : List Stmt} {iq ir : Ss} (hc : PT X c (tT G (toB (wpE Sg ic)))) (h1 : PSs X q (tS G E (wpSs Sg iq))) (h2 : PSs X r (tS G E (wpSs Sg ir))) : PS X (.If c q r pos) (tS G E (wpS Sg (.iff ic iq ir))) :=
  ps_imp (ps_if hc h1 h2) fun D σ H ⟨st, F, N, R, hq, ok⟩ =>
    ⟨P0, st, F, fun b st1 => if b = true then wpSs Sg iq N st1 else wpSs Sg ir N st1, R, hq, fun b st1 H1 F1 q R1 s1 => by
      cases b with
      | true =>
        rw [if_pos rfl] at q ⊢
        exact ⟨st1, F1, N, R1, q, ok.mono s1.f⟩
      | false =>
        rw [if_neg Bool.false_ne_true] at q ⊢
        exact ⟨st1, F1, N, R1, q, ok.mono s1.f⟩⟩
theorem ss_whl {q : List Stmt} {iq : Ss} (hp : PassesOwn (model X.prog X.w) X.A X.env X.xe) (hc : PT X c (tT G (toB (wpE Sg ic)))) (h1 : PSs X q (tS G E (wpSs Sg iq))) : PS X (.While c q [] pos) (tS G E (wpS Sg (.whl ic iq))) :=
  ps_imp (ps_while hp hc h1) fun D σ H ⟨st, F, N, R, hq, ok⟩ => by
    obtain ⟨W, ⟨m0, w0⟩, turn⟩ := hq
    refine ⟨fun m σ H => ∃ st1 F1, Rel G P0 st1 σ H F1 ∧ Evl.Ex F F1 ∧ W m st1, ⟨m0, st, F, R, Evl.Ex.refl F, w0⟩, fun m σ1 H1 ⟨st1, F1, R1, ex1, w1⟩ => ?_⟩
    refine ⟨P0, st1, F1, fun b st2 => if b = true then wpSs Sg iq { N with nx := fun st2 => ∃ m', m' < m ∧ W m' st2, bk := N.nx } st2 else N.nx st2, R1, turn m st1 w1, fun b st2 H2 F2 q2 R2 s2 => ?_⟩
    cases b with
    | true =>
      rw [if_pos rfl] at q2 ⊢
      refine ⟨fun σ H => ∃ m', m' < m ∧ ∃ st1 F1, Rel G P0 st1 σ H F1 ∧ Evl.Ex F F1 ∧ W m' st1, fun σ' H' z => z, st2, F2, _, R2, q2, ?_, ok.rt, ?_, ok.rs⟩
      · rintro st' σ' H' F' ⟨m', hm, w'⟩ R' ex'
        exact ⟨m', hm, st', F', R', (ex1.trans s2.f).trans ex', w'⟩
      · intro st' σ' H' F' q' R' ex'
        exact ok.nx _ _ _ _ q' R' ((ex1.trans s2.f).trans ex')
    | false =>
      rw [if_neg Bool.false_ne_true] at q2 ⊢
      exact ok.nx _ _ _ _ q2 R2 (ex1.trans s2.f)
theorem ss_fr {t : Tg} {tg iter : Expr} {g : TG} {is : Src} {q : List Stmt} {iq : Ss} (hp : PassesOwn (model X.prog X.w) X.A X.env X.xe) (hc : X.calm = true) (to : TgOk G t g) (hi : PI X tg iter (tI G (wpI Sg is))) (hg : PG X tg g) (h1 : PSs X q (tS G E (wpSs Sg iq)))
    (hs : ∀ x, foldedSetIterable iter X.env x = pure x) : PS X (.For tg iter q [] pos) (tS G E (wpS Sg (.fr t is iq))) :=
  ps_imp (ps_for hp hc hi hg h1 hs) fun D σ H ⟨st, F, N, R, hq, ok⟩ => by
    refine ⟨P0, st, F, fun xs st1 => wFor t (fun N st => wpSs Sg iq N st) N xs st1, R, hq, fun xs st1 H1 F1 J q1 R1 it s1 => ?_⟩
    let Z : Nat → L2.St → Hp → Prop := fun i σ H => ∃ st' F', Rel G P0 st' σ H F' ∧ Evl.Ex F1 F' ∧ wFor t (fun N st => wpSs Sg iq N st) N (xs.drop i) st'
    refine ⟨fun i m σ H => m = xs.length - i ∧ i ≤ xs.length ∧ Z i σ H, ⟨xs.length, rfl, Nat.zero_le _, st1, F1, R1, Evl.Ex.refl F1, q1⟩, ?_⟩
    rintro i m σ2 H2 ⟨rfl, hi, st2, F2, R2, ex2, q2⟩
    by_cases hlt : i < xs.length
    · right
      have hx : xs[i]? = some xs[i] := List.getElem?_eq_getElem hlt
      rw [List.drop_eq_getElem_cons hlt] at q2
      obtain ⟨st3, e3, q3⟩ := q2
      refine ⟨it.go i _ _ _ σ2 H2 F2 ex2 R2 hx, Z (i + 1), fun σ' H' z => ⟨xs.length - (i + 1), by omega, rfl, hlt, z⟩, fun v H3 hy => ?_⟩
      obtain ⟨F3, R3, dv, s3⟩ := it.yld i _ _ _ σ2 H2 F2 v H3 ex2 R2 hx hy
      refine to.run _ _ st3 _ H3 F3 _ v _ R3 dv e3 fun σ4 R4 _ => ?_
      refine ⟨st3, F3, _, R4, q3, ?_, ok.rt, ?_, ok.rs⟩
      · intro st' σ' H' F' q' R' ex'
        exact ⟨st', F', R', (ex2.trans s3.f).trans ex', q'⟩
      · intro st' σ' H' F' q' R' ex'
        exact ok.nx _ _ _ _ q' R' (((s1.f.trans ex2).trans s3.f).trans ex')
    · left
      have e : i = xs.length := by omega
      subst e
      rw [List.drop_length] at q2
      exact ⟨it.stop _ _ _ σ2 H2 F2 ex2 R2 (Nat.le_refl _), ok.nx _ _ _ _ q2 R2 (s1.f.trans ex2)⟩
theorem ss_aug {i : Nat} {op : Operator} (hop : op = .Add ∨ op = .Sub) (hN : X.N.Nodup) (hi : X.N[i]? = some x) (hx : Loc X.env.scope x) (hf : X.fn x = true) (he : PE X e (tE G (wpE Sg ie))) : PS X (.AugAssign (.Name x p') op e pos) (tS G E (wpS Sg (.aug i op ie))) := by
  have key : ∀ (ti : TIp) (f : Int → Int → Int), PIp X op ti → (∀ a b H Q, Q (.int (f a b)) H → ti (.int a) (.int b) H Q) → (∀ N st, wpS Sg (.aug i op ie) N st → wpE Sg ie st fun y st1 => ∃ a b, st1.env[i]? = some (.d (.int a)) ∧ y.dat = .int b ∧ N.nx (st1.set i (.d (.int (f a b))))) →
      (∀ N st, wpS Sg (.aug i op ie) N st → ∃ s, st.env[i]? = some s ∧ s.isSet) → PS X (.AugAssign (.Name x p') op e pos) (tS G E (wpS Sg (.aug i op ie))) := by
    intro ti f hti h1 h2 h3
    refine ps_imp (ps_aug hN hi hx (pe_D he) hti (.inl hf)) fun D σ H ⟨st, F, N, R, hq, ok⟩ => ?_
    obtain ⟨s, e0, hset⟩ := h3 N st hq
    obtain ⟨v, ev⟩ := (R.slot i s e0).set hset
    refine ⟨v, ev, P0, st, F, fun y st1 => ∃ a b, st1.env[i]? = some (.d (.int a)) ∧ y = .int b ∧ N.nx (st1.set i (.d (.int (f a b)))), R, h2 N st hq, fun y st1 u H1 F1 q1 R1 d1 s1 => ?_⟩
    obtain ⟨a, b, e1, rfl, q⟩ := q1
    cases d1
    obtain ⟨w, e2, d2⟩ := R1.slot i _ e1
    rw [ev] at e2
    cases e2
    cases d2
    exact h1 _ _ _ _ (ok.nx _ _ _ _ q (R1.storeD i (.int _)) s1.f)
  rcases hop with rfl | rfl
  · refine key _ (fun a b => a + b) ip_add (fun a b H Q q => ⟨a, b, rfl, rfl, q⟩) (fun N st h => h.2) fun N st h => h.1
  · refine key _ (fun a b => a - b) ip_sub (fun a b H Q q => ⟨a, b, rfl, rfl, q⟩) (fun N st h => h.2) fun N st h => h.1
end
end DL
end
section
namespace DL
open PySem PySem.Spec PyProof.Rows L2


def Vl.isOwn : Vl → Prop
  | .own _ => True
  | _ => False
def addP (P : Addr → Prop) (r : Vl) (v : V) : Addr → Prop := fun a => P a ∨ (r.isOwn ∧ v = .ref a)
section
variable {G : En} {st st' : DS} {P P' : Addr → Prop} {σ : L2.St} {H H' F F' : Hp} {p : Addr}
def VOks (G : En) (st : DS) (σ : L2.St) (H F : Hp) : (Addr → Prop) → List Vl → List V → Prop
  | _, [], [] => True
  | P, r :: rs, v :: vs => VOk G P st σ H F r v ∧ VOks G st σ H F (addP P r v) rs vs
  | _, _, _ => False
theorem VOk.loose {r : Vl} {v : V} (h : VOk G P' st σ H F r v) (hp : ∀ a, P a → P' a) : VOk G P st σ H F r v := by
  cases r with
  | d x => exact h
  | own xs =>
    obtain ⟨p, vs, e, w, hp', q, fr, np⟩ := h
    exact ⟨p, vs, e, w, hp', q, fr, fun z => np (hp _ z)⟩
  | tp xs => exact h
theorem VOks.loose : ∀ {rs : List Vl} {vs : List V} {P P' : Addr → Prop}, VOks G st σ H F P' rs vs → (∀ a, P a → P' a) → VOks G st σ H F P rs vs
  | [], [], _, _, _, _ => trivial
  | r :: rs, v :: vs, P, P', h, hp => ⟨h.1.loose hp, h.2.loose fun a z => z.elim (fun z => .inl (hp a z)) .inr⟩
/-- a value is kept apart -/
theorem VOk.protect {r : Vl} {v : V} (R : Rel G P st σ H F) (h : VOk G P st σ H F r v) : Rel G (addP P r v) st σ H F := by
  cases r with
  | d x => exact R.loose fun a z => z.elim id fun z => z.1.elim
  | tp x => exact R.loose fun a z => z.elim id fun z => z.1.elim
  | own xs =>
    obtain ⟨p, vs, rfl, w, hp, q, fr, np⟩ := h
    refine (R.protect hp noT_lst w.1 w.2.2 fr).loose fun a z => z.elim .inl fun z => .inr ?_
    cases z.2
    rfl
/-- a value kept apart still stands -/
theorem VOk.after {r : Vl} {v : V} (h : VOk G P st σ H F r v) (R' : Rel G (addP P r v) st' σ H' F') (s : Stp G H F H' F') : VOk G P st' σ H' F' r v := by
  cases r with
  | d x => exact Dat.mono s.f h
  | tp xs =>
    obtain ⟨p, vs, rfl, hp, q⟩ := h
    exact ⟨p, vs, rfl, s.f _ _ hp, q.mono s.f⟩
  | own xs =>
    obtain ⟨p, vs, rfl, w, hp, q, fr, np⟩ := h
    obtain ⟨h1, h2, h3, _⟩ := R'.prot p (.inr ⟨trivial, rfl⟩)
    exact ⟨p, vs, rfl, ⟨h1, w.2⟩, s.keep _ _ hp noT_lst w.2.2, q.mono s.f, h2, np⟩
/-- a value behind a store of another one -/
theorem VOk.store {r r1 : Vl} {v v1 : V} {i : Nat} (h : VOk G (addP P r1 v1) st σ H F r v) : VOk G P (st.set i r1.sl) (σ.set i (some v1)) H F r v := by
  cases r with
  | d x => exact h
  | tp x => exact h
  | own xs =>
    obtain ⟨p, vs, rfl, w, hp, q, fr, np⟩ := h
    refine ⟨p, vs, rfl, w, hp, q, fun j s e o a => ?_, fun z => np (.inl z)⟩
    have e' : (st.env.set i r1.sl)[j]? = some s := e
    rcases set_get e' with ⟨e1, e2, hl⟩ | ⟨ne, e2⟩
    · subst e1
      subst e2
      have ho : r1.isOwn := by
        cases r1 with
        | d x => exact o
        | tp x => exact o
        | own x => trivial
      by_cases hl2 : j < σ.length
      · rw [List.getElem?_set_self hl2] at a
        exact np (.inr ⟨ho, Option.some.inj (Option.some.inj a)⟩)
      · rw [List.getElem?_eq_none (by rw [List.length_set]; omega)] at a
        cases a
    · rw [List.getElem?_set_ne (fun z => ne z.symm)] at a
      exact fr j s e2 o a
theorem VOks.store {r1 : Vl} {v1 : V} {i : Nat} : ∀ {rs : List Vl} {vs : List V} {P : Addr → Prop}, VOks G st σ H F (addP P r1 v1) rs vs → VOks G (st.set i r1.sl) (σ.set i (some v1)) H F P rs vs
  | [], [], _, _ => trivial
  | r :: rs, v :: vs, P, h => by
    refine ⟨h.1.store, VOks.store (h.2.loose fun a z => ?_)⟩
    rcases z with (z | z) | z
    · exact .inl (.inl z)
    · exact .inr z
    · exact .inl (.inr z)
def setAllV : List Nat → List V → L2.St → L2.St
  | i :: is, v :: vs, σ => setAllV is vs (σ.set i (some v))
  | _, _, σ => σ
theorem Rel.setAll : ∀ {is : List Nat} {rs : List Vl} {vs : List V} {st st' : DS} {σ : L2.St}, Rel G P st σ H F → VOks G st σ H F P rs vs → setAll is rs st = some st' → Rel G P st' (setAllV is vs σ) H F
  | [], [], [], st, st', σ, R, o, e => by
    cases e
    exact R
  | i :: is, r :: rs, v :: vs, st, st', σ, R, o, e => Rel.setAll (is := is) (rs := rs) (vs := vs) (R.storeV i o.1) o.2.store e
  | i :: is, r :: rs, [], _, _, _, _, o, _ => o.elim
  | [], [], v :: vs, _, _, _, _, o, _ => o.elim
/-- a new object stands besides -/
theorem VOk.new {r : Vl} {v : V} {o : HO} (h : VOk G P st σ H F r v) (hp : H p = none) : VOk G P st σ (upd H p o) F r v := by
  cases r with
  | d x => exact h
  | tp x => exact h
  | own xs =>
    obtain ⟨q, vs, rfl, w, hq, d, fr, np⟩ := h
    exact ⟨q, vs, rfl, w, by rw [upd_ne (ne_of_none hq hp)]; exact hq, d, fr, np⟩
theorem VOks.new {o : HO} (hp : H p = none) : ∀ {rs : List Vl} {vs : List V} {P : Addr → Prop}, VOks G st σ H F P rs vs → VOks G st σ (upd H p o) F P rs vs
  | [], [], _, _ => trivial
  | r :: rs, v :: vs, P, h => ⟨h.1.new hp, h.2.new hp⟩
end
def tAV (G : En) (n : Nat) (w : DS → (List Vl → DS → Prop) → Prop) : TA := fun σ H Q => ∃ P st F Qd, Rel G P st σ H F ∧ w st Qd ∧
  ∀ rs st' vs H' F', Qd rs st' → rs.length = n → Rel G P st' σ H' F' → VOks G st' σ H' F' P rs vs → Stp G H F H' F' → Q vs H'
section
variable {X : Cx} {G : En} {Sg : Tab} {E : XK} {e a b c d : Expr} {es : List Expr} {ias : Es} {ie ia ib ic id : DL.E} {pos p p' : Pos} {x y : Str}
theorem rv_nil : PA X [] (tAV G 0 (wpVs Sg .nil)) := pa_imp pa_nil fun σ H Q ⟨P, st, F, Qd, R, hq, k⟩ => k [] st [] H F hq rfl R trivial Stp.refl
theorem rv_cons {n : Nat} (ha : PE X e (tE G (wpE Sg ia))) (hr : PA X es (tAV G n (wpVs Sg ias))) (hs : starEach (e :: es) X.env = (false, eval e X.env) :: starEach es X.env) : PA X (e :: es) (tAV G (n + 1) (wpVs Sg (.cons ia ias))) := by
  refine pa_imp (pa_cons ha hr hs) fun σ H Q ⟨P, st, F, Qd, R, hq, k⟩ => ?_
  refine ⟨P, st, F, fun x st1 => wpVs Sg ias st1 fun xs st2 => Qd (x :: xs) st2, R, hq, fun r st1 v H1 F1 q1 R1 o1 s1 => ?_⟩
  refine ⟨addP P r v, st1, F1, fun xs st2 => Qd (r :: xs) st2, o1.protect R1, q1, fun rs st2 vs H2 F2 q2 hn R2 o2 s2 => ?_⟩
  exact k (r :: rs) st2 (v :: vs) H2 F2 q2 (by rw [List.length_cons, hn]) (R2.loose fun a z => .inl z) ⟨o1.after R2 s2, o2⟩ (s1.trans s2)
/-- a, b = x, y; the names stored from the right or by way of a tuple -/
theorem par_imp {n : Nat} {is : List Nat} {t : TS} (hl : is.length = n) (ht : ∀ D σ H, (tAV G n (wpVs Sg ias) σ H fun vs H1 => D.nx (setAllV is vs σ) H1 ∧ ∀ T, H1 T = none → D.nx (setAllV is vs σ) (upd H1 T (.tup vs))) → t D σ H) (D : Ends) (σ : L2.St) (H : Hp) (h : tS G E (wpS Sg (.par is ias)) D σ H) : t D σ H := by
  obtain ⟨st, F, N, R, hq, ok⟩ := h
  refine ht D σ H ⟨P0, st, F, fun rs st1 => ∃ st2, setAll is rs st1 = some st2 ∧ N.nx st2, R, hq, fun rs st1 vs H1 F1 q1 hn R1 o1 s1 => ?_⟩
  obtain ⟨st2, e2, q2⟩ := q1
  refine ⟨ok.nx _ _ _ _ q2 (R1.setAll o1 e2) s1.f, fun T hT => ?_⟩
  exact ok.nx _ _ _ _ q2 (Rel.setAll (R1.new hT) (o1.new hT) e2) s1.f
theorem ss_par2 {i j : Nat} {px py pt : Pos} {kt k2 : Nat} {pt2 : Pos} (hc : X.calm = true) (hN : X.N.Nodup) (hi : X.N[i]? = some x) (hj : X.N[j]? = some y) (hij : i ≠ j) (hx : X.env.scope.names.lookup x = some .local) (hy : X.env.scope.names.lookup y = some .local)
    (ha : PA X [a, b] (tAV G 2 (wpVs Sg ias))) (hw : swappedStores [.Tuple [.Name x px, .Name y py] kt pt] (.Tuple [a, b] k2 pt2) X.env = pure (some [x, y])) :
    PS X (.Assign [.Tuple [.Name x px, .Name y py] kt pt] (.Tuple [a, b] k2 pt2) pos) (tS G E (wpS Sg (.par [i, j] ias))) :=
  ps_imp (ps_par hc hN hi hj hij hx hy ha hw) (par_imp (n := 2) rfl fun D σ H ⟨P, st, F, Qd, R, hq, k⟩ => ⟨P, st, F, Qd, R, hq, fun rs st' vs H' F' q hn R' o s => by
    have k := k rs st' vs H' F' q hn R' o s
    match rs, vs, hn, o, k with
    | [r1, r2], [v1, v2], _, _, k => exact ⟨v1, v2, rfl, k.1⟩
    | [r1, r2], [], _, o, _ => exact o.elim
    | [r1, r2], [_], _, o, _ => exact o.2.elim
    | [r1, r2], _ :: _ :: _ :: _, _, o, _ => exact o.2.2.elim⟩)
theorem ss_par3 {i j l : Nat} {z : Str} {px py pz pt : Pos} {kt k2 : Nat} {pt2 : Pos} (hc : X.calm = true) (hN : X.N.Nodup) (hi : X.N[i]? = some x) (hj : X.N[j]? = some y) (hl : X.N[l]? = some z) (hij : i ≠ j) (hil : i ≠ l) (hjl : j ≠ l)
    (hx : X.env.scope.names.lookup x = some .local) (hy : X.env.scope.names.lookup y = some .local) (hz : X.env.scope.names.lookup z = some .local)
    (ha : PA X [a, b, c] (tAV G 3 (wpVs Sg ias))) (hw : swappedStores [.Tuple [.Name x px, .Name y py, .Name z pz] kt pt] (.Tuple [a, b, c] k2 pt2) X.env = pure (some [x, y, z])) :
    PS X (.Assign [.Tuple [.Name x px, .Name y py, .Name z pz] kt pt] (.Tuple [a, b, c] k2 pt2) pos) (tS G E (wpS Sg (.par [i, j, l] ias))) :=
  ps_imp (ps_par3 hc hN hi hj hl hij hil hjl hx hy hz ha hw) (par_imp (n := 3) rfl fun D σ H ⟨P, st, F, Qd, R, hq, k⟩ => ⟨P, st, F, Qd, R, hq, fun rs st' vs H' F' q hn R' o s => by
    have k := k rs st' vs H' F' q hn R' o s
    match rs, vs, hn, o, k with
    | [r1, r2, r3], [v1, v2, v3], _, _, k => exact ⟨v1, v2, v3, rfl, k.1⟩
    | [r1, r2, r3], [], _, o, _ => exact o.elim
    | [r1, r2, r3], [_], _, o, _ => exact o.2.elim
    | [r1, r2, r3], [_, _], _, o, _ => exact o.2.2.elim
    | [r1, r2, r3], _ :: _ :: _ :: _ :: _, _, o, _ => exact o.2.2.2.elim⟩)
/-- .. by way of a tuple -/
theorem ss_par2T {i j : Nat} {px py pt : Pos} {kt k2 : Nat} {pt2 : Pos} (hc : X.calm = true) (hN : X.N.Nodup) (hi : X.N[i]? = some x) (hj : X.N[j]? = some y) (hx : Loc X.env.scope x) (hy : Loc X.env.scope y) (hf : ∀ x, X.fn x = true)
    (ha : PA X [a, b] (tAV G 2 (wpVs Sg ias))) (hw : swappedStores [.Tuple [.Name x px, .Name y py] kt pt] (.Tuple [a, b] k2 pt2) X.env = pure none) :
    PS X (.Assign [.Tuple [.Name x px, .Name y py] kt pt] (.Tuple [a, b] k2 pt2) pos) (tS G E (wpS Sg (.par [i, j] ias))) :=
  ps_imp (ps_asg (pe_tup ha) (pg_tup hc (pgs_cons (pg_name hN hi hx (.inl (hf x))) (pgs_cons (pg_name hN hj hy (.inl (hf y))) pgs_nil))) rfl hw) (par_imp (n := 2) rfl fun D σ H ⟨P, st, F, Qd, R, hq, k⟩ => ⟨P, st, F, Qd, R, hq, fun rs st' vs H' F' q hn R' o s => by
    have k := k rs st' vs H' F' q hn R' o s
    match rs, vs, hn, o, k with
    | [r1, r2], [v1, v2], _, _, k => exact ⟨(by show 2 ≤ sizeLine; decide), fun T hT => ⟨T, [v1, v2], rfl, Evl.st_of upd_same, rfl, v1, [v2], rfl, v2, [], rfl, rfl, k.2 T hT⟩⟩
    | [r1, r2], [], _, o, _ => exact o.elim
    | [r1, r2], [_], _, o, _ => exact o.2.elim
    | [r1, r2], _ :: _ :: _ :: _, _, o, _ => exact o.2.2.elim⟩)
theorem ss_par3T {i j l : Nat} {z : Str} {px py pz pt : Pos} {kt k2 : Nat} {pt2 : Pos} (hc : X.calm = true) (hN : X.N.Nodup) (hi : X.N[i]? = some x) (hj : X.N[j]? = some y) (hl : X.N[l]? = some z) (hx : Loc X.env.scope x) (hy : Loc X.env.scope y) (hz : Loc X.env.scope z) (hf : ∀ x, X.fn x = true)
    (ha : PA X [a, b, c] (tAV G 3 (wpVs Sg ias))) (hw : swappedStores [.Tuple [.Name x px, .Name y py, .Name z pz] kt pt] (.Tuple [a, b, c] k2 pt2) X.env = pure none) :
    PS X (.Assign [.Tuple [.Name x px, .Name y py, .Name z pz] kt pt] (.Tuple [a, b, c] k2 pt2) pos) (tS G E (wpS Sg (.par [i, j, l] ias))) :=
  ps_imp (ps_asg (pe_tup ha) (pg_tup hc (pgs_cons (pg_name hN hi hx (.inl (hf x))) (pgs_cons (pg_name hN hj hy (.inl (hf y))) (pgs_cons (pg_name hN hl hz (.inl (hf z))) pgs_nil)))) rfl hw) (par_imp (n := 3) rfl fun D σ H ⟨P, st, F, Qd, R, hq, k⟩ => ⟨P, st, F, Qd, R, hq, fun rs st' vs H' F' q hn R' o s => by
    have k := k rs st' vs H' F' q hn R' o s
    match rs, vs, hn, o, k with
    | [r1, r2, r3], [v1, v2, v3], _, _, k => exact ⟨(by show 3 ≤ sizeLine; decide), fun T hT => ⟨T, [v1, v2, v3], rfl, Evl.st_of upd_same, rfl, v1, [v2, v3], rfl, v2, [v3], rfl, v3, [], rfl, rfl, k.2 T hT⟩⟩
    | [r1, r2, r3], [], _, o, _ => exact o.elim
    | [r1, r2, r3], [_], _, o, _ => exact o.2.elim
    | [r1, r2, r3], [_, _], _, o, _ => exact o.2.2.elim
    | [r1, r2, r3], _ :: _ :: _ :: _ :: _, _, o, _ => exact o.2.2.2.elim⟩)
end
end DL
end
section
namespace DL
open PySem PySem.Spec PyProof.Rows L2

section
variable {G : En} {st st' : DS} {P P' : Addr → Prop} {σ : L2.St} {H H' F F' : Hp} {p : Addr}
theorem set_same {σ : L2.St} {i : Nat} {v : Option V} (h : σ[i]? = some v) : σ.set i v = σ := by
  apply List.ext_getElem?
  intro j
  by_cases e : i = j
  · subst e
    obtain ⟨h1, h2⟩ := List.getElem?_eq_some_iff.mp h
    rw [List.getElem?_set_self h1, h]
  · rw [List.getElem?_set_ne e]
/-- an object that a slot owns is written -/
theorem Rel.write {i : Nat} {s s' : Sl} {o u : HO} (R : Rel G P st σ H F) (hs : st.env[i]? = some s) (ho : s.isOwn) (hv : σ[i]? = some (some (.ref p))) (w : Own G F p) (hp : H p = some u) (hu : noTbl u) (hu2 : ∀ c q, u ≠ LamX.CodeO c q) (hn : noTbl o)
    (h' : SlOk G (upd H p o) F s' (some (some (.ref p)))) : Rel G P (st.set i s') σ (upd H p o) F := by
  have R1 : Rel G P (st.set i .un) σ H F := R.word i .un (fun _ => trivial) fun z => z
  have fr : Free (st.set i .un) σ p := fun j t hj ht ej => by
    have hj' : (st.env.set i .un)[j]? = some t := hj
    rcases set_get hj' with ⟨_, e3, _⟩ | ⟨ne, hj'⟩
    · subst e3
      exact ht
    · exact ne (R.dist j i t _ p hj' hs ht ho ej hv)
  have R2 : Rel G P (st.set i .un) σ (upd H p o) F := R1.grow w fr hn (tabs_grow R.g.tabs hp hu hu2)
  have R3 := R2.store i s' (some (.ref p)) h' fun _ q e => by
    cases e
    exact ⟨fr, fun z => (R.prot p z).2.1 i _ hs ho hv⟩
  rw [set_same hv] at R3
  have e3 : (st.set i .un).set i s' = st.set i s' := by
    unfold DS.set
    simp
  rw [e3] at R3
  exact R3
/-- the shared list is written -/
theorem Rel.setCell {c' : List Int} (R : Rel G P st σ H F) (hc : G.ca = some p) : Rel G P { st with cel := c' } σ (upd H p (.lst (c'.map V.int))) F where
  g := {
    sub := fun a u h => by
      obtain ⟨h1, h2⟩ := R.g.sub a u h
      exact ⟨by rw [upd_ne (fun z => by rw [z, (R.g.cell p hc).2] at h; cases h)]; exact h1, h2⟩
    cell := fun a h => by
      rw [hc] at h
      cases h
      exact ⟨upd_same, (R.g.cell p hc).2⟩
    tabs := tabs_grow R.g.tabs (R.g.cell p hc).1 noT_lst lst_code
    keep := fun a u h n k => by
      rw [upd_ne (fun z => k (by rw [z]; exact hc))]
      exact R.g.keep a u h n k
    f0 := R.g.f0
    fnew := R.g.fnew }
  len := R.len
  slot := fun i s h => by
    have q := R.slot i s h
    cases s with
    | un => trivial
    | d x => exact q
    | tp xs => exact q
    | own xs =>
      obtain ⟨a, vs, e, w', ha, d⟩ := q
      exact ⟨a, vs, e, w', by rw [upd_ne (fun z => w'.2.2 (by rw [z]; exact hc))]; exact ha, d⟩
    | dk ks =>
      obtain ⟨a, e, w', ha⟩ := q
      exact ⟨a, e, w', by rw [upd_ne (fun z => w'.2.2 (by rw [z]; exact hc))]; exact ha⟩
  dist := R.dist
  prot := fun q hq => by
    obtain ⟨h1, h2, h3, u, h4, h5⟩ := R.prot q hq
    exact ⟨h1, h2, h3, u, by rw [upd_ne (fun z => h3 (by rw [z]; exact hc))]; exact h4, h5⟩
/-- x[j] = y -/
theorem put_run {i : Nat} {j y : D} {Qn : DS → Prop} {v u w : V} {K : Hp → Prop} (h : putAt i j y st Qn) (R : Rel G P st σ H F) (hv : σ[i]? = some (some v)) (dj : Dat G.K G.ca F j u) (dy : Dat G.K G.ca F y w) (k : ∀ st' H', Qn st' → Rel G P st' σ H' F → K H') : rSetL v u w H K := by
  unfold putAt at h
  split at h
  · rename_i xs j e
    obtain ⟨m, h1, q⟩ := h
    obtain ⟨p, vs, e1, wn, hp, d⟩ := R.slot i _ e
    rw [hv] at e1
    cases e1
    cases dj
    refine ⟨p, vs, j, m, rfl, rfl, hp, by rw [← d.len]; exact h1, ?_⟩
    exact k _ _ q (R.write e trivial hv wn hp noT_lst lst_code noT_lst ⟨p, _, rfl, wn, upd_same, d.set m dy⟩)
  · rename_i j e
    obtain ⟨m, z, h1, rfl, q⟩ := h
    obtain ⟨v', e1, d⟩ := R.slot i _ e
    rw [hv] at e1
    cases e1
    cases dj
    cases dy
    cases d with
    | cell hc =>
      obtain ⟨h2, _⟩ := R.g.cell _ hc
      refine ⟨_, _, j, m, rfl, rfl, h2, by rw [List.length_map]; exact h1, ?_⟩
      have e3 : (st.cel.map V.int).set m (.int z) = (st.cel.set m z).map V.int := (List.map_set ..).symm
      rw [e3]
      exact k _ _ q (R.setCell hc)
  · exact h.elim
end
section
variable {X : Cx} {G : En} {Sg : Tab} {E : XK} {e a b c d : Expr} {es : List Expr} {ias : Es} {ie ia ib ic id : DL.E} {pos p p' p2 p3 : Pos} {x y : Str}
theorem ss_setv {i : Nat} (hN : X.N[i]? = some x) (hv : Vis X.env.scope x) (hd : (x == ("__debug__" : Str)) = false) (hcd : (x == ("__classdict__" : Str)) = false) (ha : PE X a (tE G (wpE Sg ia))) (he : PE X e (tE G (wpE Sg ie)))
    (hs : swapsWithSole [.Subscript (.Name x p) a p'] e pos.line X.env = pure false) (hw : swappedStores [.Subscript (.Name x p) a p'] e X.env = pure none) (h1 : (assignEach [.Subscript (.Name x p) a p'] X.env).map (·.2) = [assign (.Subscript (.Name x p) a p') X.env])
    (ht : ∀ v, assign (.Subscript (.Name x p) a p') X.env v = (do
      let ov ← holding [v] (eval (.Name x p) X.env)
      let iv ← holding [v, ov] (eval a X.env)
      standAt p'
      holding [v, ov, iv] (setItem ov iv v)
      release [v, ov, iv] [])) :
    PS X (.Assign [.Subscript (.Name x p) a p'] e pos) (tS G E (wpS Sg (.setv i ia ie))) :=
  ps_imp (ps_asg (pe_D he) (pg_sub (pe_var hN hv hd hcd) (pe_D ha) set_list ht) hs hw h1) fun D σ H ⟨st, F, N, R, hq, ok⟩ => by
    obtain ⟨⟨s, e0, hset⟩, hq⟩ := hq
    obtain ⟨v, ev⟩ := (R.slot i s e0).set hset
    refine ⟨P0, st, F, fun y st1 => wpE Sg ia st1 fun j st2 => putAt i j.dat y st2 N.nx, R, hq, fun y st1 w H1 F1 q1 R1 dy s1 => ⟨v, ev, ?_⟩⟩
    refine ⟨P0, st1, F1, fun j st2 => putAt i j y st2 N.nx, R1, q1, fun j st2 u H2 F2 q2 R2 dj s2 => ?_⟩
    exact put_run q2 R2 ev dj (dy.mono s2.f) fun st3 H3 q3 R3 => ok.nx _ _ _ _ q3 R3 (s1.f.trans s2.f)
theorem ss_swp {i : Nat} {q1 q2 q3 q4 q5 q6 : Pos} {kt k2 : Nat} (hc : X.calm = true) (hN : X.N[i]? = some x) (hv : Vis X.env.scope x) (hd : (x == ("__debug__" : Str)) = false) (hcd : (x == ("__classdict__" : Str)) = false) (ha : PE X a (tE G (wpE Sg ia))) (hb : PE X b (tE G (wpE Sg ib)))
    (hcd2 : PA X [c, d] (tA G 2 (wpEs Sg (.cons ic (.cons id .nil)))))
    (ht1 : ∀ v, assign (.Subscript (.Name x q1) a q2) X.env v = (do
      let ov ← holding [v] (eval (.Name x q1) X.env)
      let iv ← holding [v, ov] (eval a X.env)
      standAt q2
      holding [v, ov, iv] (setItem ov iv v)
      release [v, ov, iv] []))
    (ht2 : ∀ v, assign (.Subscript (.Name x q3) b q4) X.env v = (do
      let ov ← holding [v] (eval (.Name x q3) X.env)
      let iv ← holding [v, ov] (eval b X.env)
      standAt q4
      holding [v, ov, iv] (setItem ov iv v)
      release [v, ov, iv] []))
    (hw : swappedStores [.Tuple [.Subscript (.Name x q1) a q2, .Subscript (.Name x q3) b q4] kt q5] (.Tuple [c, d] k2 q6) X.env = pure none) :
    PS X (.Assign [.Tuple [.Subscript (.Name x q1) a q2, .Subscript (.Name x q3) b q4] kt q5] (.Tuple [c, d] k2 q6) pos) (tS G E (wpS Sg (.swp i ia ib ic id))) :=
  ps_imp (ps_asg (pe_tup hcd2) (pg_tup hc (pgs_cons (pg_sub (pe_var hN hv hd hcd) (pe_D ha) set_list ht1) (pgs_cons (pg_sub (pe_var hN hv hd hcd) (pe_D hb) set_list ht2) pgs_nil))) rfl hw) fun D σ H ⟨st, F, N, R, hq, ok⟩ => by
    obtain ⟨⟨s, e0, hset⟩, hq⟩ := hq
    obtain ⟨v, ev⟩ := (R.slot i s e0).set hset
    refine ⟨P0, st, F, fun ds st2 => ∃ x y, ds = [x, y] ∧ wpE Sg ia st2 fun p st3 => putAt i p.dat x st3 fun st4 => wpE Sg ib st4 fun q st5 => putAt i q.dat y st5 N.nx, R, ?_, fun ds st2 vs H2 F2 q2 hn R2 d2 s2 => ?_⟩
    · show wpE Sg ic st fun x st1 => wpE Sg id st1 fun y st2 => ∃ x' y', [x.dat, y.dat] = [x', y'] ∧ wpE Sg ia st2 fun p st3 => putAt i p.dat x' st3 fun st4 => wpE Sg ib st4 fun q st5 => putAt i q.dat y' st5 N.nx
      have e1 : ∀ (x y : Vl) (st2 : DS), (∃ x' y', [x.dat, y.dat] = [x', y'] ∧ wpE Sg ia st2 fun p st3 => putAt i p.dat x' st3 fun st4 => wpE Sg ib st4 fun q st5 => putAt i q.dat y' st5 N.nx) = (wpE Sg ia st2 fun p st3 => putAt i p.dat x.dat st3 fun st4 => wpE Sg ib st4 fun q st5 => putAt i q.dat y.dat st5 N.nx) := fun x y st2 => by
        apply propext
        constructor
        · rintro ⟨x', y', e, h⟩
          cases e
          exact h
        · exact fun h => ⟨_, _, rfl, h⟩
      simp only [e1]
      exact hq
    · obtain ⟨x1, y1, rfl, q2⟩ := q2
      obtain ⟨u1, u2, rfl, g1, g2⟩ := ds2 d2
      refine ⟨by show 2 ≤ sizeLine; decide, fun T hT => ⟨T, [u1, u2], rfl, Evl.st_of upd_same, rfl, u1, [u2], rfl, v, ev, ?_⟩⟩
      refine ⟨P0, st2, F2, fun p st3 => putAt i p x1 st3 fun st4 => wpE Sg ib st4 fun q st5 => putAt i q.dat y1 st5 N.nx, R2.new hT, q2, fun p st3 w3 H3 F3 q3 R3 d3 s3 => ?_⟩
      refine put_run q3 R3 ev d3 (g1.mono s3.f) fun st4 H4 q4 R4 => ⟨u2, [], rfl, v, ev, ?_⟩
      refine ⟨P0, st4, F3, fun q st5 => putAt i q y1 st5 N.nx, R4, q4, fun q st5 w5 H5 F5 q5 R5 d5 s5 => ?_⟩
      exact put_run q5 R5 ev d5 ((g2.mono s3.f).mono s5.f) fun st6 H6 q6 R6 => ⟨rfl, ok.nx _ _ _ _ q6 R6 ((s2.f.trans s3.f).trans s5.f)⟩
theorem ss_app {i : Nat} {pm : Pos} (hN : X.N[i]? = some x) (hv : Vis X.env.scope x) (hd : (x == ("__debug__" : Str)) = false) (hcd : (x == ("__classdict__" : Str)) = false) (he : PE X e (tE G (wpE Sg ie))) (hst : starEach [e] X.env = (false, eval e X.env) :: starEach [] X.env)
    (hbase : attributeBase (.Name x p) "append" X.env (eval (.Name x p) X.env) = eval (.Name x p) X.env) (hline : (pm.endLine == p'.line) = true)
    (hfew : ((backTo p' (starEach [e] X.env)).all (fun x => !x.1) && (backToKw p' (keywordEach [] X.env)).all (fun x => x.1.isSome) && decide (([e] : List Expr).length + ([] : List Keyword).length + (if ([] : List Keyword).isEmpty then 0 else 1) < 30)) = true) :
    PS X (.Expr (.Call (.Attribute (.Name x p) "append" pm) [e] [] p') pos) (tS G E (wpS Sg (.app i ie))) :=
  ps_imp (ps_expr (pe_bm PySem.F.plainAttrs_list PySem.F.slot_list_append PySem.F.type_list_append mt_append (pe_var hN hv hd hcd) (ra_cons he ra_nil hst) hbase hfew hline hst rfl) rfl) fun D σ H ⟨st, F, N, R, hq, ok⟩ => by
    obtain ⟨⟨xs0, e0⟩, hq⟩ := hq
    obtain ⟨p0, vs0, ev, w0, hp0, d0⟩ := R.slot i _ e0
    refine ⟨.ref p0, ev, .inl ⟨rfl, vs0, by rw [show X.K = X.K from rfl]; exact Evl.sq_of hp0⟩, P0, st, F, fun ds st1 => ∃ y, ds = [y] ∧ match st1.env[i]? with
      | some (.own xs) => xs.length < 100000 ∧ N.nx (st1.set i (.own (xs ++ [y])))
      | _ => False, R, ?_, fun ds st1 vs H1 F1 q1 hn R1 d1 s1 => ?_⟩
    · show wpE Sg ie st fun y st1 => ∃ y', [y.dat] = [y'] ∧ _
      have e1 : ∀ (y : Vl) (st1 : DS), (∃ y', [y.dat] = [y'] ∧ match st1.env[i]? with
        | some (.own xs) => xs.length < 100000 ∧ N.nx (st1.set i (.own (xs ++ [y'])))
        | _ => False) = match st1.env[i]? with
        | some (.own xs) => xs.length < 100000 ∧ N.nx (st1.set i (.own (xs ++ [y.dat])))
        | _ => False := fun y st1 => by
        apply propext
        constructor
        · rintro ⟨y', e, h⟩
          cases e
          exact h
        · exact fun h => ⟨_, rfl, h⟩
      simp only [e1]
      exact hq
    · obtain ⟨y, rfl, q1⟩ := q1
      obtain ⟨u, rfl, g1⟩ := ds1 d1
      split at q1
      · rename_i xs e1
        obtain ⟨p1, vs, ev1, w1, hp1, dd⟩ := R1.slot i _ e1
        rw [ev] at ev1
        cases ev1
        refine ⟨_, vs, u, rfl, rfl, hp1, ?_, ?_⟩
        · rw [← dd.len]
          exact Nat.lt_of_lt_of_le q1.1 (by decide)
        · exact ok.nx _ _ _ _ q1.2 (R1.write e1 trivial ev w1 hp1 noT_lst lst_code noT_lst ⟨_, _, rfl, w1, upd_same, dd.append (.cons g1 .nil)⟩) s1.f
      · exact q1.elim
theorem ss_ext {i : Nat} {pm : Pos} (hN : X.N[i]? = some x) (hv : Vis X.env.scope x) (hd : (x == ("__debug__" : Str)) = false) (hcd : (x == ("__classdict__" : Str)) = false) (he : PE X e (tE G (wpE Sg ie))) (hst : starEach [e] X.env = (false, eval e X.env) :: starEach [] X.env)
    (hbase : attributeBase (.Name x p) "extend" X.env (eval (.Name x p) X.env) = eval (.Name x p) X.env) (hline : (pm.endLine == p'.line) = true)
    (hfew : ((backTo p' (starEach [e] X.env)).all (fun x => !x.1) && (backToKw p' (keywordEach [] X.env)).all (fun x => x.1.isSome) && decide (([e] : List Expr).length + ([] : List Keyword).length + (if ([] : List Keyword).isEmpty then 0 else 1) < 30)) = true) :
    PS X (.Expr (.Call (.Attribute (.Name x p) "extend" pm) [e] [] p') pos) (tS G E (wpS Sg (.ext i ie))) :=
  ps_imp (ps_expr (pe_bm PySem.F.plainAttrs_list PySem.F.slot_list_extend PySem.F.type_list_extend mt_extend (pe_var hN hv hd hcd) (ra_cons he ra_nil hst) hbase hfew hline hst rfl) rfl) fun D σ H ⟨st, F, N, R, hq, ok⟩ => by
    obtain ⟨⟨xs0, e0⟩, hq⟩ := hq
    obtain ⟨p0, vs0, ev, w0, hp0, d0⟩ := R.slot i _ e0
    refine ⟨.ref p0, ev, .inl ⟨rfl, vs0, by rw [show X.K = X.K from rfl]; exact Evl.sq_of hp0⟩, P0, st, F, fun ds st1 => ∃ y, ds = [y] ∧ ∃ ys, y = .lst ys ∧ match st1.env[i]? with
      | some (.own xs) => xs.length + ys.length ≤ 100000 ∧ N.nx (st1.set i (.own (xs ++ ys)))
      | _ => False, R, ?_, fun ds st1 vs H1 F1 q1 hn R1 d1 s1 => ?_⟩
    · show wpE Sg ie st fun y st1 => ∃ y', [y.dat] = [y'] ∧ _
      have e1 : ∀ (y : Vl) (st1 : DS), (∃ y', [y.dat] = [y'] ∧ ∃ ys, y' = .lst ys ∧ match st1.env[i]? with
        | some (.own xs) => xs.length + ys.length ≤ 100000 ∧ N.nx (st1.set i (.own (xs ++ ys)))
        | _ => False) = ∃ ys, y.dat = .lst ys ∧ match st1.env[i]? with
        | some (.own xs) => xs.length + ys.length ≤ 100000 ∧ N.nx (st1.set i (.own (xs ++ ys)))
        | _ => False := fun y st1 => by
        apply propext
        constructor
        · rintro ⟨y', e, h⟩
          cases e
          exact h
        · exact fun h => ⟨_, rfl, h⟩
      simp only [e1]
      exact hq
    · obtain ⟨y, rfl, ys, rfl, q1⟩ := q1
      obtain ⟨u, rfl, g1⟩ := ds1 d1
      obtain ⟨b, us, rfl, hb, db⟩ := g1.lst_iff
      split at q1
      · rename_i xs e1
        obtain ⟨p1, vs, ev1, w1, hp1, dd⟩ := R1.slot i _ e1
        rw [ev] at ev1
        cases ev1
        refine ⟨_, b, vs, us, rfl, rfl, hp1, R1.g.ex _ _ hb, ?_, ?_⟩
        · rw [← dd.len, ← db.len]
          exact sz q1.1
        · exact ok.nx _ _ _ _ q1.2 (R1.write e1 trivial ev w1 hp1 noT_lst lst_code noT_lst ⟨_, _, rfl, w1, upd_same, dd.append db⟩) s1.f
      · exact q1.elim
theorem ss_ex {k : Nat} {ps : List Str} (f : FnIs X G Sg k x ps) (tk : Takes X (fun cls d _ H => E cls d H)) (hr : Room k X.A) (hg : Gl X x) (hdb : (x == ("__debug__" : Str)) = false) (ha : PA X (e :: es) (tA G ps.length (wpEs Sg ias)))
    (he : starEach (e :: es) X.env = (false, eval e X.env) :: starEach es X.env) (hpl : (backTo p' (starEach es X.env)).any (·.1) = false) : PS X (.Expr (.Call (.Name x p) (e :: es) [] p') pos) (tS G E (wpS Sg (.ex x ias))) := by
  obtain ⟨ad, fd, hm, hk, F, _, hb⟩ := f.is
  refine ps_imp (ps_expr (pe_callS F hr hg hm hk hb (fun σ => passAt tk σ) ha hdb he hpl) rfl) fun D σ H ⟨st, F, N, R, hq, ok⟩ => ?_
  refine ⟨P0, st, F, fun ds st1 => Sg x ds st1.cel (fun _ c => N.nx { st1 with cel := c }) fun n c => N.rs n { st1 with cel := c }, R, hq, fun ds st1 vs H1 F1 q1 hn R1 d1 s1 => ?_⟩
  refine ⟨G.sub H1 F1, ds, st1.cel, _, _, rfl, rfl, rfl, rfl, R1.g.enter, hn, d1, q1, fun r c' v H' F' hq g' hr => ?_, fun m c' cls d H' F' hq g' hx => ?_⟩
  · exact ok.nx _ _ _ _ hq (R1.leave g') (s1.f.trans g'.f0)
  · obtain ⟨rfl, hx2⟩ := hx
    exact ok.rs m _ H' F' d hq (R1.g.leave g') ⟨rfl, hx2⟩
theorem ss_rais (hc : X.calm = true) (tk : Takes X (fun cls d _ H => E cls d H)) (rz : RzX X G Sg) (hg : Gl X "BadArgument") (he : PE X e (tE G (wpE Sg ie))) (hn : noStar e = true) : PS X (.Raise (some (.Call (.Name "BadArgument" p) [e] [] p')) none pos) (tS G E (wpS Sg (.rais ie))) :=
  ps_imp (ps_raise hc tk (rz.is e ie p p' hg he hn)) fun D σ H ⟨st, F, N, R, hq, ok⟩ =>
    ⟨st, F, fun n st1 => N.rs n st1, R, hq, fun n st1 H' F' d hq g' hx => ok.rs n st1 H' F' d hq g' hx⟩
theorem ss_newd {i : Nat} {pd : Pos} (hN : X.N.Nodup) (hi : X.N[i]? = some x) (hx : Loc X.env.scope x) (hf : X.fn x = true) : PS X (.Assign [.Name x p'] (.Dict [] [] pd) pos) (tS G E (wpS Sg (.newd i))) :=
  ps_imp (ps_set hN hi hx pe_dnewT rfl (.inl hf)) fun D σ H ⟨st, F, N, R, hq, ok⟩ => fun q hp =>
    ok.nx _ _ _ _ hq ((R.new hp).store i (.dk []) (some (.ref q)) ⟨q, rfl, R.own hp, upd_same⟩ fun _ q' e => by
      cases e
      exact ⟨R.free hp, R.np hp⟩) (Evl.Ex.refl F)
theorem ints_eq : ∀ {ds : List D} {ns : List Int}, D.ints ds = some ns → ds = ns.map D.int
  | [], ns, h => by cases h; rfl
  | d :: ds, ns, h => by
    cases d with
    | int i =>
      obtain ⟨ms, h1, rfl⟩ := map_some (show (D.ints ds).map (i :: ·) = some ns from h)
      rw [ints_eq h1]
      rfl
    | _ => cases h
theorem putK_ints (ks : List (List Int)) (ns : List Int) : putK (ks.map fun k => (k.map (Sum.inl : Int → Key), V.bl true)) (ns.map Sum.inl) (V.bl true) = (if ns ∈ ks then ks else ks ++ [ns]).map fun k => (k.map (Sum.inl : Int → Key), V.bl true) := by
  have inj : ∀ {a b : List Int}, a.map (Sum.inl : Int → Key) = b.map Sum.inl → a = b := fun {a b} h => (List.map_inj_right (fun x y e => Sum.inl.inj e)).mp h
  unfold putK
  by_cases h : ns ∈ ks
  · rw [if_pos h, if_pos]
    · rw [List.map_map]
      apply List.map_congr_left
      intro k hk
      show (if k.map (Sum.inl : Int → Key) = ns.map Sum.inl then (k.map (Sum.inl : Int → Key), V.bl true) else (k.map Sum.inl, V.bl true)) = _
      split <;> rfl
    · rw [List.any_eq_true]
      exact ⟨_, List.mem_map_of_mem h, by simp⟩
  · rw [if_neg h, if_neg]
    · rw [List.map_append]
      rfl
    · intro hz
      rw [List.any_eq_true] at hz
      obtain ⟨kv, h1, h2⟩ := hz
      obtain ⟨k, h3, rfl⟩ := List.mem_map.mp h1
      exact h (by rw [← inj (of_decide_eq_true h2)]; exact h3)
theorem ss_dput {i : Nat} (hu : X.A.units + 1 < cLine) (hN : X.N[i]? = some x) (hv : Vis X.env.scope x) (hd : (x == ("__debug__" : Str)) = false) (hcd : (x == ("__classdict__" : Str)) = false) (ha : PE X a (tE G (wpE Sg ia))) (he : PE X e (tE G (wpE Sg ie)))
    (hs : swapsWith e (some (.Subscript (.Name x p) a p')) pos.line X.env = pure false) : PS X (.Assign [.Subscript (.Name x p) a p'] e pos) (tS G E (wpS Sg (.dput i ia ie))) :=
  ps_imp (ps_dput hu (pe_var hN hv hd hcd) ha (pe_D he) hs) fun D σ H ⟨st, F, N, R, hq, ok⟩ => by
    obtain ⟨⟨s, e0, hset⟩, hq⟩ := hq
    obtain ⟨v, ev⟩ := (R.slot i s e0).set hset
    refine ⟨P0, st, F, fun y st1 => wpE Sg ia st1 fun k st2 => ∃ ds ns ks, k = .tp ds ∧ DL.D.ints ds = some ns ∧ y = .bl true ∧ st2.env[i]? = some (.dk ks) ∧ ks.length < 100000 ∧ N.nx (st2.set i (.dk (if ns ∈ ks then ks else ks ++ [ns]))), R, hq, fun y st1 w H1 F1 q1 R1 dy s1 => ⟨v, ev, ?_⟩⟩
    refine ⟨P0, st1, F1, _, R1, q1, fun k st2 u H2 F2 q2 R2 ok2 s2 => ?_⟩
    obtain ⟨ds, ns, ks, rfl, e1, rfl, e2, hl, q⟩ := q2
    obtain ⟨pk, vs, rfl, hk, dk⟩ := ok2
    cases dy
    obtain ⟨pd, ev2, wd, hpd⟩ := R2.slot i _ e2
    rw [ev] at ev2
    cases ev2
    have e3 := ints_eq e1
    subst e3
    have e4 := dk.ints
    subst e4
    refine ⟨_, _, rfl, DPut.t (k := ns.map Sum.inl) hpd ?_ ?_, ?_⟩
    · rw [R2.g.ex _ _ hk, List.map_map]
      rfl
    · rw [List.length_map]
      exact Nat.lt_of_lt_of_le hl (by decide)
    · rw [putK_ints]
      exact ok.nx _ _ _ _ q (R2.write e2 trivial ev wd hpd noT_dk dk_code noT_dk ⟨_, rfl, wd, upd_same⟩) (s1.f.trans s2.f)
end
end DL
end
section
namespace DL
open PySem PySem.Spec PyProof.Rows L2
def isStarE : Expr → Bool
  | .Starred _ _ => true
  | _ => false
/-- as the model says which names are stored from the right; none: it says nothing -/
def swB (sc : Scope) (ts vs : List Expr) : Option (Option (List Str)) :=
  if (!(ts.length == 2 || ts.length == 3) || vs.length != ts.length) = true then some none
  else if (vs.any isStarE) = true then some none
  else
    let line := (ts.head?.map (·.pos.line)).getD 0
    let names := ts.filterMap fun
      | .Name id pos => if sc.names.lookup id == some .local && pos.line == line then some id else none
      | _ => none
    if (names.length != ts.length || names.eraseDups.length != names.length) = true then some none
    else if (vs.all (foldedForSure 8)) = true then some none
    else if (vs.all (constantsAlone 8)) = true then none
    else some (some names)
theorem bk_fun {env : Env} (hk : env.scope.kind = .function) : env.blockKind = .function := by
  unfold Env.blockKind
  rw [hk]
  rfl
theorem swB_ok {env : Env} {ts vs : List Expr} {r : Option (List Str)} {k k2 : Nat} {p p2 : Pos} (hk : env.scope.kind = .function) (h : swB env.scope ts vs = some r) : swappedStores [.Tuple ts k p] (.Tuple vs k2 p2) env = pure r := by
  unfold swB at h
  unfold swappedStores
  have e1 : (env.blockKind != .function) = false := by rw [bk_fun hk]; rfl
  simp only [e1, Bool.or_false] at h ⊢
  generalize hA : List.any vs _ = A
  generalize hB : vs.any isStarE = B at h
  have eAB : A = B := by
    rw [← hA, ← hB]
    congr 1
  generalize hM : List.filterMap _ ts = nm
  generalize hM2 : List.filterMap _ ts = nm2 at h
  have eN : nm = nm2 := by
    rw [← hM, ← hM2]
    congr 1
  subst eAB
  subst eN
  split at h
  · rename_i c
    cases h
    rw [if_pos c]
  · rename_i c
    rw [if_neg c]
    split at h
    · rename_i c2
      cases h
      rw [if_pos c2]
    · rename_i c2
      rw [if_neg c2]
      split at h
      · rename_i c3
        cases h
        rw [if_pos c3]
      · rename_i c3
        rw [if_neg c3]
        split at h
        · rename_i c4
          cases h
          rw [if_pos c4]
        · rename_i c4
          rw [if_neg c4]
          split at h
          · cases h
          · rename_i c5
            cases h
            rw [if_neg c5]
/-- whether a comprehension lets its block go behind the store -/
def swC (sc : Scope) (y : Str) (py : Pos) : Expr → Option Bool
  | .ListComp _ _ s p => some (decide (sc.names.lookup y = some .local) && py.line == p.line && !(s.names.any fun (n, k) => n == y && (k == .local || k == .cell)))
  | .SetComp _ _ _ _ => none
  | .DictComp _ _ _ _ _ => none
  | _ => some false
theorem swC_ok {env : Env} {y : Str} {py : Pos} {e : Expr} {b : Bool} {l : Nat} (hk : env.scope.kind = .function) (h : swC env.scope y py e = some b) : swapsWith e (some (.Name y py)) l env = pure b := by
  unfold swC at h
  split at h
  · rename_i elt gs s p
    have hb := bk_fun hk
    have e2 : (env.kindOf y == some .local) = decide (env.scope.names.lookup y = some .local) := by
      show (env.scope.names.lookup y == some .local) = _
      cases hq : env.scope.names.lookup y with
      | none => rfl
      | some q => cases q <;> rfl
    unfold swapsWith
    simp only [hb, e2, Expr.pos]
    rw [← Option.some.inj h]
    rfl
  · cases h
  · cases h
  · rename_i h1 h2 h3
    cases h
    cases e <;> first | rfl | exact (h1 _ _ _ _ rfl).elim | exact (h2 _ _ _ _ rfl).elim | exact (h3 _ _ _ _ _ rfl).elim

def isLcE : Expr → Bool
  | .ListComp _ _ _ _ => true
  | .SetComp _ _ _ _ => true
  | .DictComp _ _ _ _ _ => true
  | _ => false
def nodupB (is : List Nat) : Bool := match is with
  | [i, j] => decide (i ≠ j)
  | [i, j, l] => decide (i ≠ j) && decide (i ≠ l) && decide (j ≠ l)
  | _ => false
def cKey (C : CC) (n : Nat) (sc : Scope) : Expr → Option E
  | .Tuple es _ _ => if es.length ≤ 1000 then (cL (cE C n sc) es).map .tpl else none
  | .Name x _ => (vslot C sc x).map .vtp
  | _ => none
def cRet (C : CC) (n : Nat) (sc : Scope) (e : Expr) : Option E := if C.fresh = true then match e with
    | .Tuple es _ _ => if es.length ≤ 1000 then (cL (cE C n sc) es).map .tpl else none
    | e => cE C n sc e
  else cE C n sc e
mutual
def cS (C : CC) : Nat → Scope → Stmt → Option S
  | 0, _, _ => none
  | n + 1, sc, s => match s with
    | .Assign [.Name x p] e _ => match e with
      | .Dict [] [] _ => if okName x = true then (lslot C sc x).map .newd else none
      | e => match lslot C sc x, cE C n sc e, swC sc x p e with
        | some i, some ie, some _ => some (.asg i ie)
        | _, _, _ => none
    | .Assign [.Subscript (.Name x _) a _] e _ => if (plainIxB a && !isLcE e) = true then match vslot C sc x with
      | some i => if x ∈ C.dks then match cKey C n sc a, cE C n sc e with
          | some ia, some ie => some (.dput i ia ie)
          | _, _ => none
        else match cE C n sc a, cE C n sc e with
          | some ia, some ie => some (.setv i ia ie)
          | _, _ => none
      | none => none else none
    | .Assign [.Tuple [.Name x px, .Name y py] k p] (.Tuple [a, b] k2 p2) _ => match lslot C sc x, lslot C sc y, cL (cE C n sc) [a, b], swB sc [.Name x px, .Name y py] [a, b] with
      | some i, some j, some as, some _ => if i ≠ j then some (.par [i, j] as) else none
      | _, _, _, _ => none
    | .Assign [.Tuple [.Name x px, .Name y py, .Name z pz] k p] (.Tuple [a, b, c] k2 p2) _ => match lslot C sc x, lslot C sc y, lslot C sc z, cL (cE C n sc) [a, b, c], swB sc [.Name x px, .Name y py, .Name z pz] [a, b, c] with
      | some i, some j, some l, some as, some _ => if i ≠ j ∧ i ≠ l ∧ j ≠ l then some (.par [i, j, l] as) else none
      | _, _, _, _, _ => none
    | .Assign [.Tuple [.Subscript (.Name x q1) a q2, .Subscript (.Name y q3) b q4] k p] (.Tuple [c, d] k2 p2) _ =>
      if (decide (x = y) && plainIxB a && plainIxB b && noStar c && noStar d && decide (x ∉ C.dks)) = true then match vslot C sc x, cE C n sc a, cE C n sc b, cE C n sc c, cE C n sc d with
        | some i, some ia, some ib, some ic, some id => some (.swp i ia ib ic id)
        | _, _, _, _, _ => none else none
    | .Assign [.Tuple ts k p] e _ => if isTupE e = true then none else match cTg C sc (.Tuple ts k p), cE C n sc e with
      | some t, some ie => some (.unp t ie)
      | _, _ => none
    | .AugAssign (.Name x _) op e _ => if op = .Add ∨ op = .Sub then match lslot C sc x, cE C n sc e with
      | some i, some ie => some (.aug i op ie)
      | _, _ => none else none
    | .Expr (.Constant (.str _) _ _) _ => some .skip
    | .Expr (.Call (.Attribute (.Name x _) m pm) [e] [] p') _ => if (pm.endLine == p'.line && noStar e) = true then match vslot C sc x, cE C n sc e with
      | some i, some ie => if m = "append" then some (.app i ie) else if m = "extend" then some (.ext i ie) else none
      | _, _ => none else none
    | .Expr (.Call (.Name x _) args [] _) _ => if (okName x && isGl sc x && !args.isEmpty) = true then match C.gf.lookup x with
      | some ps => if args.length = ps.length then (cL (cE C n sc) args).map (.ex x) else none
      | none => none else none
    | .Return (some e) _ => (cRet C n sc e).map .ret
    | .If c a b _ => match cT C n sc c, cSs C n sc a, cSs C n sc b with
      | some ic, some ia, some ib => some (.iff ic ia ib)
      | _, _, _ => none
    | .While c b [] _ => match cT C n sc c, cSs C n sc b with
      | some ic, some ib => some (.whl ic ib)
      | _, _ => none
    | .For tg iter b [] _ => if noSetE iter = true then match cTg C sc tg, cI C n sc tg iter, cSs C n sc b with
      | some t, some is, some ib => some (.fr t is ib)
      | _, _, _ => none else none
    | .Break _ => some .brk
    | .Raise (some (.Call (.Name x _) [e] [] _)) none _ => if (decide (x = "BadArgument") && noStar e && isGl sc x) = true then (cE C n sc e).map .rais else none
    | _ => none
def cSs (C : CC) : Nat → Scope → List Stmt → Option Ss
  | 0, _, _ => none
  | n + 1, sc, [] => some .nil
  | n + 1, sc, s :: r => match cS C n sc s, cSs C n sc r with
    | some a, some b => some (.cons a b)
    | _, _ => none
end
end DL
end
section
namespace DL
open PySem PySem.Spec PyProof.Rows L2
section
variable {C : CC} {X : Cx} {G : En} {Sg : Tab} {k : Nat} {E : XK}
theorem vget (o : XO X G Sg C k) {x : Str} {i : Nat} (h : vslot C X.env.scope x = some i) : X.N[i]? = some x ∧ Vis X.env.scope x ∧ (x == ("__debug__" : Str)) = false ∧ (x == ("__classdict__" : Str)) = false := by
  obtain ⟨a1, a2, a3⟩ := vslot_of h
  exact ⟨by rw [o.N]; exact a3, a2, (ok1 a1).1, (ok1 a1).2⟩
theorem lget (o : XO X G Sg C k) {x : Str} {i : Nat} (h : lslot C X.env.scope x = some i) : X.N[i]? = some x ∧ Loc X.env.scope x := by
  obtain ⟨a1, a2, a3⟩ := lslot_of h
  exact ⟨by rw [o.N]; exact a3, a2⟩
theorem XO.ndX (o : XO X G Sg C k) : X.N.Nodup := by
  rw [o.N]
  exact o.nd
theorem asg_sub {o a : Expr} {p : Pos} {env : Env} (h : plainIxB a = true) : ∀ v, assign (.Subscript o a p) env v = (do
      let ov ← holding [v] (eval o env)
      let iv ← holding [v, ov] (eval a env)
      standAt p
      holding [v, ov, iv] (setItem ov iv v)
      release [v, ov, iv] []) := by
  intro v
  cases a <;> first | rfl | skip
  rename_i lo hi st q
  cases st with
  | none => cases h
  | some s => rfl
theorem isTupE_of {e : Expr} (h : isTupE e = false) {ts : List Expr} {k : Nat} {p : Pos} {env : Env} : swappedStores [.Tuple ts k p] e env = pure none := by
  cases e <;> first | rfl | cases h
theorem noLc_sw {e : Expr} (h : isLcE e = false) {t : Option Expr} {l : Nat} {env : Env} : swapsWith e t l env = pure false := by
  cases e <;> first | rfl | cases h
theorem snd_key {n : Nat} {e : Expr} {ir : DL.E} (o : XO X G Sg C k) (h : cKey C n X.env.scope e = some ir) : PE X e (tE G (wpE Sg ir)) := by
  unfold cKey at h
  split at h
  · split at h
    · rename_i hl
      obtain ⟨as, h1, rfl⟩ := map_some h
      exact r_tpl hl (cL_ok (snd n) o h1).1
    · cases h
  · obtain ⟨i, h1, rfl⟩ := map_some h
    obtain ⟨a1, a2, a3, a4⟩ := vget o h1
    exact r_vtp a1 a2 a3 a4
  · cases h
theorem snd_ret {n : Nat} {e : Expr} {ir : DL.E} (o : XO X G Sg C k) (h : cRet C n X.env.scope e = some ir) : PE X e (tE G (wpE Sg ir)) := by
  unfold cRet at h
  split at h
  · split at h
    · split at h
      · rename_i hl
        obtain ⟨as, h1, rfl⟩ := map_some h
        exact r_tpl hl (cL_ok (snd n) o h1).1
      · cases h
    · exact ((snd n).e o h).1
  · exact ((snd n).e o h).1
theorem cLV_ok {n : Nat} (o : XO X G Sg C k) : ∀ {es : List Expr} {ir : Es}, cL (cE C n X.env.scope) es = some ir → PA X es (tAV G es.length (wpVs Sg ir)) ∧ ∀ e ∈ es, noStar e = true
  | [], ir, h => by
    cases h
    exact ⟨rv_nil, fun e he => absurd he (by simp)⟩
  | e :: es, ir, h => by
    unfold cL at h
    split at h
    · rename_i hs
      split at h
      · rename_i x xs h1 h2
        cases h
        obtain ⟨a, b⟩ := cLV_ok o h2
        refine ⟨rv_cons ((snd n).e o h1).1 a (star_cons hs es _), fun y hy => ?_⟩
        rcases List.mem_cons.mp hy with z | z
        · rw [z]
          exact hs
        · exact b y z
      · cases h
    · cases h
theorem swB_names {sc : Scope} {ts vs : List Expr} {r : List Str} (h : swB sc ts vs = some (some r)) : r = (ts.filterMap fun
      | .Name id pos => if sc.names.lookup id == some .local && pos.line == (ts.head?.map (·.pos.line)).getD 0 then some id else none
      | _ => none) ∧ r.length = ts.length := by
  unfold swB at h
  simp only at h
  split at h
  · cases h
  split at h
  · cases h
  split at h
  · cases h
  rename_i c
  split at h
  · cases h
  split at h
  · cases h
  cases h
  refine ⟨rfl, ?_⟩
  simp only [Bool.or_eq_true, not_or, bne_iff_ne, ne_eq, Decidable.not_not] at c
  exact c.1
theorem fmap_len {α β : Type} {f : α → Option β} : ∀ {l : List α}, (l.filterMap f).length = l.length → ∀ x ∈ l, ∃ y, f x = some y
  | [], _, x, hx => absurd hx (by simp)
  | a :: l, h, x, hx => by
    have hle : (l.filterMap f).length ≤ l.length := List.length_filterMap_le ..
    rw [List.filterMap_cons] at h
    cases e : f a with
    | none =>
      rw [e] at h
      simp only [List.length_cons] at h
      omega
    | some y =>
      rw [e] at h
      simp only [List.length_cons, Nat.add_right_cancel_iff] at h
      rcases List.mem_cons.mp hx with z | z
      · rw [z]
        exact ⟨y, e⟩
      · exact fmap_len h x z
/-- the names are locals, and they are they -/
theorem swB_two {sc : Scope} {x y : Str} {px py : Pos} {vs : List Expr} {r : List Str} (h : swB sc [.Name x px, .Name y py] vs = some (some r)) : r = [x, y] ∧ sc.names.lookup x = some .local ∧ sc.names.lookup y = some .local := by
  obtain ⟨e1, e2⟩ := swB_names h
  have lo : ∀ {z : Str} {pz : Pos}, Expr.Name z pz ∈ [Expr.Name x px, .Name y py] → ∃ w, (if sc.names.lookup z == some .local && pz.line == ((([Expr.Name x px, .Name y py] : List Expr).head?.map (·.pos.line)).getD 0) then some z else none) = some w := fun {z pz} hz => by
    rw [e1] at e2
    exact fmap_len e2 _ hz
  have get : ∀ {z : Str} {b : Bool}, (∃ w, (if (sc.names.lookup z == some .local && b) = true then some z else none) = some w) → sc.names.lookup z = some .local ∧ b = true := fun {z b} hw => by
    obtain ⟨w, hw⟩ := hw
    split at hw
    · rename_i c
      rw [Bool.and_eq_true] at c
      refine ⟨?_, c.2⟩
      have c1 := c.1
      cases q : sc.names.lookup z with
      | none => rw [q] at c1; cases c1
      | some u =>
        rw [q] at c1
        cases u <;> first | rfl | cases c1
    · cases hw
  obtain ⟨lx, bx⟩ := get (lo (z := x) (pz := px) (by simp))
  obtain ⟨ly, bY⟩ := get (lo (z := y) (pz := py) (by simp))
  refine ⟨?_, lx, ly⟩
  rw [e1]
  simp only [List.filterMap_cons, List.filterMap_nil, lx, ly, bx, bY]
  rfl
theorem swB_three {sc : Scope} {x y z : Str} {px py pz : Pos} {vs : List Expr} {r : List Str} (h : swB sc [.Name x px, .Name y py, .Name z pz] vs = some (some r)) : r = [x, y, z] ∧ sc.names.lookup x = some .local ∧ sc.names.lookup y = some .local ∧ sc.names.lookup z = some .local := by
  obtain ⟨e1, e2⟩ := swB_names h
  have lo : ∀ {w : Str} {pw : Pos}, Expr.Name w pw ∈ [Expr.Name x px, .Name y py, .Name z pz] → ∃ u, (if sc.names.lookup w == some .local && pw.line == ((([Expr.Name x px, .Name y py, .Name z pz] : List Expr).head?.map (·.pos.line)).getD 0) then some w else none) = some u := fun {z pz} hz => by
    rw [e1] at e2
    exact fmap_len e2 _ hz
  have get : ∀ {z : Str} {b : Bool}, (∃ w, (if (sc.names.lookup z == some .local && b) = true then some z else none) = some w) → sc.names.lookup z = some .local ∧ b = true := fun {z b} hw => by
    obtain ⟨w, hw⟩ := hw
    split at hw
    · rename_i c
      rw [Bool.and_eq_true] at c
      refine ⟨?_, c.2⟩
      have c1 := c.1
      cases q : sc.names.lookup z with
      | none => rw [q] at c1; cases c1
      | some u =>
        rw [q] at c1
        cases u <;> first | rfl | cases c1
    · cases hw
  obtain ⟨lx, bx⟩ := get (lo (w := x) (pw := px) (by simp))
  obtain ⟨ly, bY⟩ := get (lo (w := y) (pw := py) (by simp))
  obtain ⟨lz, bZ⟩ := get (lo (w := z) (pw := pz) (by simp))
  refine ⟨?_, lx, ly, lz⟩
  rw [e1]
  simp only [List.filterMap_cons, List.filterMap_nil, lx, ly, lz, bx, bY, bZ]
  rfl
structure SndS (n : Nat) : Prop where
  s : ∀ {C : CC} {X : Cx} {G : En} {Sg : Tab} {k : Nat} {E : XK} {st : Stmt} {ir : S}, XS X G Sg C k E → cS C n X.env.scope st = some ir → PS X st (tS G E (wpS Sg ir))
  ss : ∀ {C : CC} {X : Cx} {G : En} {Sg : Tab} {k : Nat} {E : XK} {st : List Stmt} {ir : Ss}, XS X G Sg C k E → cSs C n X.env.scope st = some ir → PSs X st (tS G E (wpSs Sg ir))
theorem snd_ss {n : Nat} (ih : SndS n) {st : List Stmt} {ir : Ss} (o : XS X G Sg C k E) (h : cSs C (n + 1) X.env.scope st = some ir) : PSs X st (tS G E (wpSs Sg ir)) := by
  cases st with
  | nil =>
    unfold cSs at h
    cases h
    exact sss_nil
  | cons s r =>
    unfold cSs at h
    split at h
    · rename_i a b h1 h2
      cases h
      exact sss_cons (ih.s o h1) (ih.ss o h2)
    · cases h
theorem snd_s {n : Nat} (ih : SndS n) {st : Stmt} {ir : S} (o : XS X G Sg C k E) (h : cS C (n + 1) X.env.scope st = some ir) : PS X st (tS G E (wpS Sg ir)) := by
  have hN := o.o.ndX
  unfold cS at h
  split at h
  · -- x = e
    rename_i x p e pos
    split at h
    · split at h
      · obtain ⟨i, h1, rfl⟩ := map_some h
        obtain ⟨a1, a2⟩ := lget o.o h1
        exact ss_newd hN a1 a2 (o.fn x)
      · cases h
    · split at h
      · rename_i i ie b h1 h2 h3
        cases h
        obtain ⟨a1, a2⟩ := lget o.o h1
        cases b with
        | false => exact ss_asg hN a1 a2 (o.fn x) ((snd n).e o.o h2).1 (swC_ok o.kind h3)
        | true =>
          have hsw := swC_ok (l := pos.line) o.kind h3
          cases e with
          | ListComp elt gs s lp =>
            have h3' := Option.some.inj h3
            rw [Bool.and_eq_true, Bool.and_eq_true, decide_eq_true_eq] at h3'
            obtain ⟨m, hm⟩ : ∃ m, n = m + 1 := by
              cases n with
              | zero => cases h2
              | succ m => exact ⟨m, rfl⟩
            subst hm
            have hgs : ∃ tg iter ifs, gs = [⟨tg, iter, ifs, 0⟩] := by
              unfold cE at h2
              split at h2
              all_goals (first | (rename_i ee; cases ee; done) | (cases h2; done) | skip)
              rename_i ee
              cases ee
              exact ⟨_, _, _, rfl⟩
            obtain ⟨tg, iter, ifs, rfl⟩ := hgs
            exact ss_asgT (snd_lcs (snd m) o.o h2 a1 h3'.1.1 hsw)
          | _ => cases h3
      · cases h
  · -- x[a] = e
    rename_i x p1 a p2 e pos
    split at h
    · rename_i c
      rw [Bool.and_eq_true, Bool.not_eq_true'] at c
      split at h
      · rename_i i h1
        obtain ⟨a1, a2, a3, a4⟩ := vget o.o h1
        split at h
        · split at h
          · rename_i ia ie h2 h3
            cases h
            exact ss_dput (by have := o.o.hu; omega) a1 a2 a3 a4 (snd_key o.o h2) ((snd n).e o.o h3).1 (noLc_sw c.2)
          · cases h
        · split at h
          · rename_i ia ie h2 h3
            cases h
            refine ss_setv a1 a2 a3 a4 ((snd n).e o.o h2).1 ((snd n).e o.o h3).1 (by show swapsWith e (some (.Subscript (.Name x p1) a p2)) pos.line X.env = pure false; exact noLc_sw c.2) ?_ rfl (asg_sub c.1)
            cases e <;> rfl
          · cases h
      · cases h
    · cases h
  · -- x, y = a, b
    rename_i x px y py kk p a b k2 p2 pos
    split at h
    · rename_i i j as r h1 h2 h3 h4
      split at h
      · rename_i hij
        cases h
        obtain ⟨a1, a2⟩ := lget o.o h1
        obtain ⟨b1, b2⟩ := lget o.o h2
        have pa := (cLV_ok o.o h3).1
        cases r with
        | none => exact ss_par2T o.o.calm hN a1 b1 a2 b2 o.fn pa (swB_ok o.kind h4)
        | some r =>
          obtain ⟨rfl, l1, l2⟩ := swB_two h4
          exact ss_par2 o.o.calm hN a1 b1 hij l1 l2 pa (swB_ok o.kind h4)
      · cases h
    · cases h
  · -- x, y, z = a, b, c
    rename_i x px y py z pz kk p a b c k2 p2 pos
    split at h
    · rename_i i j l as r h1 h2 h2' h3 h4
      split at h
      · rename_i hij
        cases h
        obtain ⟨a1, a2⟩ := lget o.o h1
        obtain ⟨b1, b2⟩ := lget o.o h2
        obtain ⟨c1, c2⟩ := lget o.o h2'
        have pa := (cLV_ok o.o h3).1
        cases r with
        | none => exact ss_par3T o.o.calm hN a1 b1 c1 a2 b2 c2 o.fn pa (swB_ok o.kind h4)
        | some r =>
          obtain ⟨rfl, l1, l2, l3⟩ := swB_three h4
          exact ss_par3 o.o.calm hN a1 b1 c1 hij.1 hij.2.1 hij.2.2 l1 l2 l3 pa (swB_ok o.kind h4)
      · cases h
    · cases h
  · -- x[a], x[b] = c, d
    rename_i x q1 a q2 y q3 b q4 kk p c d k2 p2 pos
    split at h
    · rename_i g
      simp only [Bool.and_eq_true, decide_eq_true_eq] at g
      obtain ⟨⟨⟨⟨⟨rfl, g1⟩, g2⟩, g3⟩, g4⟩, _⟩ := g
      split at h
      · rename_i i ia ib ic id h1 h2 h3 h4 h5
        cases h
        obtain ⟨a1, a2, a3, a4⟩ := vget o.o h1
        have hsw : swappedStores [.Tuple [.Subscript (.Name x q1) a q2, .Subscript (.Name x q3) b q4] kk p] (.Tuple [c, d] k2 p2) X.env = pure none := by
          refine swB_ok o.kind (r := none) ?_
          unfold swB
          simp only [List.filterMap_cons, List.filterMap_nil]
          split
          · rfl
          split
          · rfl
          rfl
        exact ss_swp o.o.calm a1 a2 a3 a4 ((snd n).e o.o h2).1 ((snd n).e o.o h3).1 (ra_cons ((snd n).e o.o h4).1 (ra_cons ((snd n).e o.o h5).1 ra_nil (star_cons g4 _ _)) (star_cons g3 _ _)) (asg_sub g1) (asg_sub g2) hsw
      · cases h
    · cases h
  · -- (..) = e
    rename_i ts kk p e pos _ _ _
    split at h
    · cases h
    · rename_i ht
      split at h
      · rename_i t ie h1 h2
        cases h
        have pg : PG X (.Tuple ts kk p) (tgG X.K t) := tg_pg (C := C) o.o.N hN o.o.calm h1 fun x _ => .inl (o.fn x)
        rw [o.o.K] at pg
        refine ss_unp (tgG_ok t) pg ((snd n).e o.o h2).1 ?_ (isTupE_of (by simpa using ht)) rfl
        show swapsWith e (some (.Tuple ts kk p)) pos.line X.env = pure false
        cases e <;> rfl
      · cases h
  · -- x op= e
    rename_i x p op e pos
    split at h
    · rename_i hop
      split at h
      · rename_i i ie h1 h2
        cases h
        obtain ⟨a1, a2⟩ := lget o.o h1
        exact ss_aug hop hN a1 a2 (o.fn x) ((snd n).e o.o h2).1
      · cases h
    · cases h
  · cases h
    exact ss_doc
  · -- x.m(e)
    rename_i x px m pm e p' pos
    split at h
    · rename_i g
      rw [Bool.and_eq_true] at g
      split at h
      · rename_i i ie h1 h2
        obtain ⟨a1, a2, a3, a4⟩ := vget o.o h1
        split at h
        · rename_i hm
          cases h
          subst hm
          refine ss_app a1 a2 a3 a4 ((snd n).e o.o h2).1 (star_cons g.2 _ _) rfl g.1 ?_
          rw [star_cons g.2]
          rfl
        · split at h
          · rename_i hm
            cases h
            subst hm
            refine ss_ext a1 a2 a3 a4 ((snd n).e o.o h2).1 (star_cons g.2 _ _) rfl g.1 ?_
            rw [star_cons g.2]
            rfl
          · cases h
      · cases h
    · cases h
  · -- f(..)
    rename_i x px args p' pos
    split at h
    · rename_i g
      rw [Bool.and_eq_true, Bool.and_eq_true] at g
      split at h
      · rename_i ps hf
        split at h
        · rename_i hl
          obtain ⟨as, h1, rfl⟩ := map_some h
          obtain ⟨b1, b2⟩ := cL_ok (snd n) o.o h1
          rw [hl] at b1
          match args, g, b1, b2 with
          | e :: es, g, b1, b2 => exact ss_ex (o.o.fs x ps hf) o.tk (o.o.room.mono (by omega)) (isGl_of g.1.2) (ok1 g.1.1).1 b1 (star_cons (b2 e List.mem_cons_self) es _) (star_plain fun y hy => b2 y (List.mem_cons_of_mem _ hy))
          | [], g, _, _ => cases g.2
        · cases h
      · cases h
    · cases h
  · obtain ⟨ie, h1, rfl⟩ := map_some h
    exact ss_ret (snd_ret o.o h1)
  · split at h
    · rename_i ic ia ib h1 h2 h3
      cases h
      exact ss_if ((snd n).t o.o h1).1 (ih.ss o h2) (ih.ss o h3)
    · cases h
  · split at h
    · rename_i ic ib h1 h2
      cases h
      exact ss_whl o.po ((snd n).t o.o h1).1 (ih.ss o h2)
    · cases h
  · rename_i tg iter b pos
    split at h
    · rename_i hs
      split at h
      · rename_i t is ib h1 h2 h3
        cases h
        have pg : PG X tg (tgG X.K t) := tg_pg (C := C) o.o.N hN o.o.calm h1 fun x _ => .inl (o.fn x)
        rw [o.o.K] at pg
        exact ss_fr o.po o.o.calm (tgG_ok t) ((snd n).i o.o h2) pg (ih.ss o h3) (noSetE_of hs _)
      · cases h
    · cases h
  · cases h
    exact ss_brk
  · rename_i x px e p' pos
    split at h
    · rename_i g
      rw [Bool.and_eq_true, Bool.and_eq_true, decide_eq_true_eq] at g
      obtain ⟨⟨rfl, g2⟩, g3⟩ := g
      obtain ⟨ie, h1, rfl⟩ := map_some h
      exact ss_rais o.o.calm o.tk o.rz (isGl_of g3) ((snd n).e o.o h1).1 g2
    · cases h
  · cases h
theorem sndS : ∀ n, SndS n
  | 0 => ⟨(fun _ h => nomatch h), (fun _ h => nomatch h)⟩
  | n + 1 => ⟨(fun o h => snd_s (sndS n) o h), (fun o h => snd_ss (sndS n) o h)⟩
end
end DL
end
section
namespace DL
open PySem PySem.Spec PyProof.Rows L2
/-- the context stands in this module -/
structure InM (P : Program) (w : World) (K : PySem.W.Frag) (mg : Str → Option Value) (base : Heap) (X : Cx) : Prop where
  prog : X.prog = P
  w : X.w = w
  K : X.K = K
  mg : X.mg = mg
  base : X.base = base
  calm : X.calm = true
/-- a def of the module, its promise kept by level k -/
structure FnAt (P : Program) (w : World) (K : PySem.W.Frag) (mg : Str → Option Value) (base : Heap) (T : List (Addr × Str)) (Cc : Addr) (Sg : Tab) (k : Nat) (x : Str) (ps : List Str) : Prop where
  is : ∃ (f : Addr) (fd : FuncData), mg x = some (.ref f) ∧ PySem.W.keepIn K (.ref f) = true ∧ FnOk P w K mg base (L2.CX P w) k f fd ps (spD K T Cc ps.length (Sg x)) ∧
    (∀ n, n ≤ ps.length → KBinds K fd ps (ps.drop n) (kcat n) (kcat n)) ∧ Binds K fd ps []
section
variable {P : Program} {w : World} {K : PySem.W.Frag} {mg : Str → Option Value} {base : Heap} {T : List (Addr × Str)} {Cc : Addr} {Sg : Tab}
theorem start_get {N : List Str} {vs : List V} {ds : List D} (hl : ds.length = vs.length) {i : Nat} {s : Sl} (h : (ds.map Sl.d ++ List.replicate (N.length - ds.length) Sl.un)[i]? = some s) : s = .un ∨ ∃ d v, s = .d d ∧ ds[i]? = some d ∧ vs[i]? = some v ∧ (L2.start N vs)[i]? = some (some v) := by
  by_cases hi : i < ds.length
  · rw [List.getElem?_append_left (by rw [List.length_map]; exact hi), List.getElem?_map] at h
    obtain ⟨d, h1⟩ : ∃ d, ds[i]? = some d := ⟨_, List.getElem?_eq_getElem hi⟩
    obtain ⟨v, h2⟩ : ∃ v, vs[i]? = some v := ⟨_, List.getElem?_eq_getElem (by omega)⟩
    rw [h1] at h
    refine .inr ⟨d, v, (Option.some.inj h).symm, h1, h2, ?_⟩
    unfold L2.start
    rw [List.getElem?_append_left (by rw [List.length_map]; omega), List.getElem?_map, h2]
    rfl
  · rw [List.getElem?_append_right (by rw [List.length_map]; omega)] at h
    obtain ⟨_, h3⟩ := List.getElem?_eq_some_iff.mp h
    rw [List.getElem_replicate] at h3
    exact .inl h3.symm
theorem rel_start {G : En} {N : List Str} {vs : List V} {ds : List D} {c : List Int} (g : Glob G c G.H0 G.F0) (d : Dats G.K G.ca G.F0 ds vs) (hN : ds.length ≤ N.length) : Rel G P0 ⟨ds.map Sl.d ++ List.replicate (N.length - ds.length) .un, c⟩ (L2.start N vs) G.H0 G.F0 where
  g := g
  len := by
    show (ds.map Sl.d ++ List.replicate (N.length - ds.length) Sl.un).length = (L2.start N vs).length
    unfold L2.start
    rw [List.length_append, List.length_append, List.length_map, List.length_map, List.length_replicate, List.length_replicate, d.len]
  slot := fun i s h => by
    rcases start_get d.len h with rfl | ⟨x, v, rfl, h1, h2, h3⟩
    · trivial
    · obtain ⟨u, h4, h5⟩ := d.get h1
      rw [h2] at h4
      cases h4
      exact ⟨v, h3, h5⟩
  dist := fun i j s t p h1 h2 o1 o2 e1 e2 => by
    rcases start_get d.len h1 with rfl | ⟨x, v, rfl, _⟩
    · exact o1.elim
    · exact o1.elim
  prot := fun p hp => hp.elim
/-- a promise by data where the shared list's place is told -/
def spQ (K : PySem.W.Frag) (T : List (Addr × Str)) (C : Addr) (n : Nat) (qa : Option Addr → Prop) (sp : Spec) : Sp := fun vs H Q E => ∃ G ds c Qd Ed, G.K = K ∧ G.T = T ∧ G.C = C ∧ G.H0 = H ∧ Glob G c H G.F0 ∧ ds.length = n ∧ Dats K G.ca G.F0 ds vs ∧ sp ds c Qd Ed ∧
  (∀ r c' v H' F', Qd r c' → Glob G c' H' F' → RetOk G H' F' r v → Q v H') ∧ (∀ m c' cls d H' F', Ed m c' → Glob G c' H' F' → ExIs C m cls d H' → E cls d H') ∧ qa G.ca
theorem fnQ {qa : Option Addr → Prop} {f : Addr} {name qual : Str} {params : Arguments} {body : List Stmt} {scope : Scope} {dV kV doc pm cdv ct oc : Value} {an od : Option Addr} {osl : Array (Option Value)} {N ps : List Str} {sp : Spec} {C : CC} {k m : Nat} {b : Ss}
    (lk : K.lookup f = some ⟨oc, od, .func (PySem.W.fnOf name qual params body scope dV kV doc pm an cdv ct), osl⟩) (hcd : PySem.W.codeIn K cdv qual = true) (S : FnScope N ps scope) (hCN : C.N = N)
    (hb : cSs C m scope body = some b) (hk : Keeps Sg N.length b sp) (bi : ∀ x ∈ bnames, mg x = none) (ks : ∀ x d, C.gk.lookup x = some d → ∃ u v, mg x = some u ∧ RelV v u ∧ ∀ ca F, Dat K ca F d v)
    (fs : ∀ x ps, C.gf.lookup x = some ps → FnAt P w K mg base T Cc Sg k x ps)
    (tb : ∀ b, C.tab = some b → ∃ c Pa, cdv = .ref c ∧ LamX.TabB base mg c Pa ∧ (Pa, qual ++ ".<locals>." ++ sufx b) ∈ T ∧ ∀ p ∈ T, p.1 = Pa → p.2 = qual ++ ".<locals>." ++ sufx b)
    (rz : ∀ X G, InM P w K mg base X → Room (k + 2) X.A → G.K = K → G.T = T → G.C = Cc → RzX X G Sg)
    (rf : C.rf = true → ∀ X G, InM P w K mg base X → Room (k + 5) X.A → G.K = K → G.T = T → G.C = Cc → TabX X G true → RefX X G (k + 2)) (hrf : C.rf = true → C.tab = some true) (hdot : C.tab = some false → (".0" : Str) ∉ N) (hfr : C.fresh = true → ∀ ca, qa ca → ca = none) :
    FnOk P w K mg base (L2.CX P w) (k + 6) f (PySem.W.fnOf name qual params body scope dV kV doc pm an cdv ct) ps (spQ K T Cc ps.length qa sp) := by
  refine fn_of lk hcd S (fun vs H Q E ⟨G, ds, c, Qd, Ed, e1, e2, e3, e4, g, hn, d, _⟩ => by rw [← d.len, hn]) fun A outer s H vs Q E hr hsp => ?_
  obtain ⟨G, ds, c, Qd, Ed, e1, e2, e3, e4, g, hn, d, hq, k1, k2, hqa⟩ := hsp
  have hM : InM P w K mg base (cxOf (L2.CX P w) P w K mg base N qual scope f cdv A outer s H E) := ⟨rfl, rfl, rfl, rfl, rfl, rfl⟩
  have tb' : ∀ b, C.tab = some b → TabX (cxOf (L2.CX P w) P w K mg base N qual scope f cdv A outer s H E) G b := fun b hb => by
    obtain ⟨c, Pa, rfl, h1, h2, h3⟩ := tb b hb
    exact ⟨c, Pa, rfl, h1, by rw [e2]; exact h2, by rw [e2]; exact h3⟩
  have o : XO (cxOf (L2.CX P w) P w K mg base N qual scope f cdv A outer s H E) G Sg C k := {
    K := e1.symm
    N := hCN.symm
    nd := by rw [hCN]; exact S.nd
    calm := rfl
    room := hr.mono (by omega)
    bi := bi
    ks := fun x d h => by
      obtain ⟨u, v, h1, h2, h3⟩ := ks x d h
      exact ⟨u, v, h1, h2, fun ca F => by rw [e1]; exact h3 ca F⟩
    fs := fun x ps h => by
      obtain ⟨f, fd, h1, h2, h3, h4, h5⟩ := (fs x ps h).is
      exact ⟨f, fd, h1, h2, by rw [e1, e2, e3]; exact h3, h4, h5⟩
    tb := tb'
    rf := fun h => rf h _ G hM hr e1 e2 e3 (tb' true (hrf h))
    rg := fun h => ⟨hr, by rw [hCN]; exact hdot h⟩
    fr := fun h => hfr h _ hqa }
  have xs : XS (cxOf (L2.CX P w) P w K mg base N qual scope f cdv A outer s H E) G Sg C k E := {
    o := o
    fn := fun _ => rfl
    kind := S.kind
    po := passes_of rfl
    tk := takes_of rfl rfl rfl rfl
    rz := rz _ G hM (hr.mono (by omega)) e1 e2 e3 }
  have hpl : ps.length ≤ N.length := by have := congrArg List.length S.pre; rw [List.length_take] at this; omega
  subst e4
  subst e1
  refine ⟨_, (sndS m).ss xs hb, ⟨ds.map Sl.d ++ List.replicate (N.length - ds.length) .un, c⟩, G.F0, _, rel_start g d (by omega), hk ds c Qd Ed hq, ?_, ?_, ?_, ?_⟩
  · intro st' σ' H' F' q R' ex
    exact k1 (.d .non) _ _ _ F' q R'.g .non
  · intro r st' σ' v H' F' q R' o'
    exact k1 r _ _ _ F' q R'.g o'.ret
  · intro st' σ' H' F' q
    exact q.elim
  · intro n st' H' F' d q g' hx
    exact k2 n _ _ d H' F' q g' (by rw [← e3]; exact hx)
end
end DL
end
section
namespace PySem
namespace BadX
open PySem.W PySem.Calls PyProof.Rows PySem.HandSPX
def iA (p1 p2 : Pos) : Arguments := { posonlyargs := [], args := [{ arg := "self", annotation := none, pos := p1 }, { arg := "name", annotation := none, pos := p2 }], vararg := none, kwonlyargs := [], kw_defaults := [], kwarg := none, defaults := [] }
def iB (q1 q2 q3 q4 q5 q6 q7 q8 q9 q10 q11 q12 : Pos) : List Stmt := [.Expr (.Call (.Attribute (.Call (.Name "super" q1) [] [] q2) "__init__" q3) [.BinOp (.Constant (.str "bad argument: ") 0 q4) .Add (.Name "name" q5) q6] [] q7) q8,
  .Assign [.Attribute (.Name "self" q9) "name" q10] (.Name "name" q11) q12]
def iS : Scope := { kind := .function, names := [(PySem.Str.ofString "self", .local), (PySem.Str.ofString "name", .local), (PySem.Str.ofString "__class__", .free), (PySem.Str.ofString "super", .globalImplicit)], isGenerator := false, isCoroutine := false, more := [] }
/-- what the written part says of BadArgument, at C, of its __init__, at fI, of the cell that holds the class, at cc, and of the code object, at cda -/
structure BadTxt (P : Program) (K : Frag) (mg : Str → Option Value) (C fI cc cda : Addr) : Prop where
  gC : mg "BadArgument" = some (.ref C)
  gS : mg "super" = none
  cls : ∃ nm q N bs bm sn sub ab col dd k0 k1 k2 k3 k5, K.lookup C = some (excClassObj nm q C N bs bm true sn sub ab col dd k0 k1 k2 k3 k5 "ValueError.__new__") ∧ refsVE bm = true ∧ alongIn K "__init__" bm = some (some (.builtin "ValueError.__init__"))
  sa : findIn K (.ref C) "__setattr__" = some (some (.builtin "object.__setattr__"))
  ga : findIn K (.ref C) "__getattribute__" = some (some (.builtin "BaseException.__getattribute__"))
  gg : findIn K (.ref C) "__getattr__" = some none
  noN : findIn K (.ref C) "name" = some none
  iC : findIn K (.ref C) "__init__" = some (some (.ref fI))
  tC : typeIn K (.ref fI) = some (.type "function")
  kC : keepIn K (.ref C) = true
  exC : subIn K (.ref C) (.type "BaseException") = some true
  veC : subIn K (.ref C) (.type "ValueError") = some true
  mrC : mroIn K C (.ref C) = some true
  tyC : typeIn K (.ref C) = some (.type "type")
  hdC : hasDictIn K C = true
  te : exmOne K (.ref C) (.ref C) = some true
  opq : nsIn K cStatics "thirdparty.any" = some none
  cell : ∃ cl cld csl, K.lookup cc = some ⟨cl, cld, .cell (some (.ref C)), csl⟩
  code : ∃ ccl cdd vs ccs file tf, K.lookup cda = some ⟨ccl, cdd, .fields vs, ccs⟩ ∧ vs[2]? = some (.str file tf) ∧ ((P.main.file : Str) == file) = true
  top : (P.main.scope.names.lookup ("super" : Str)).isSome = false
  fn : ∃ (oc : Value) (od : Option Addr) (doc pm : Value) (an : Option Addr) (ct : Value) (osl : Array (Option Value)) (p1 p2 q1 q2 q3 q4 q5 q6 q7 q8 q9 q10 q11 q12 : Pos),
    K.lookup fI = some ⟨oc, od, .func (ksFn "__init__" "BadArgument.__init__" (iA p1 p2) (iB q1 q2 q3 q4 q5 q6 q7 q8 q9 q10 q11 q12) iS .none .none doc pm an (.ref cda) ct cc), osl⟩ ∧ codeIn K (.ref cda) "BadArgument.__init__" = true ∧ (q3.endLine == q7.line) = true
theorem one_size (v : Value) : [v].length ≤ sizeLine := by
  rw [sizeLine_eq]
  exact (by decide : 1 ≤ 16777216)
theorem kept_but {K : Frag} {h h' : Heap} {x : Addr} (X : K.In h) (hx : K.lookup x = none) (k : ∀ b o, b ≠ x → h.get? b = some o → h'.get? b = some o) : K.In h' := fun a o e =>
  k a o (fun z => by rw [z, hx] at e; cases e) (X a o e)
theorem ldE {M : Model} {s : Shared} {env : Env} {m : Str → Option Value} {x : Str} {pos : Pos} {v : Value} {Q : Value → Shared → Prop} {A : Around} {E : Value → Shared → Prop} (hn : s.heap.Ns env.locals m) (hv : m x = some v) (h : Q v s)
    (hk : env.scope.kind = .function) (hl : env.kindOf x = some .local) (hd : (x == ("__debug__" : Str)) = false) : wpAny M A (eval (.Name x pos) env) Q E s := wpAny_Name (wpAny_loadName_local hk hl hn hv h) hd
/-- ValueError.__init__ bound to an exception, called -/
theorem call_vb {prog : Program} {w : World} {A : Around} {E : Value → Shared → Prop} {h : Heap} {g : Array GenState} {d : Drawn} {t : Nat} {os : OsState} {nm q : Str} {C N : Addr} {bs bm : List Value} {hdct : Bool} {sn : List Str} {sub : List Value} {ab : Bool} {col : Option Bool} {dd : Option Addr} {k0 k1 k2 k3 k5 : Option Value} {u e t0 : Addr} {rest : List Value} {Q : Value → Shared → Prop}
    (hC : h.get? C = some (excClassObj nm q C N bs bm hdct sn sub ab col dd k0 k1 k2 k3 k5 "ValueError.__new__")) (he : h.get? e = some (excO C t0)) (hu : h.get? u = some (kxs_mw "ValueError.__init__" e)) (hrest : rest.length ≤ sizeLine)
    (hq : ∀ h' t1, (∀ b o, b ≠ e → h.get? b = some o → h'.get? b = some o) → h'.get? e = some (excO C t1) → Q .none ⟨h', g, d, t, os⟩) :
    wpAny (model prog w) A (call (.ref u) rest) Q E ⟨h, g, d, t, os⟩ := by
  refine wpAny_call (codeAny_of_tree ?_)
  show wpAny _ A.in1 (callAny (.ref u) ⟨rest, []⟩) _ _ _
  simp only [callAny]
  refine wpAny_bind (wpAny_load hu ?_)
  simp only [kxs_mw, show (Value.type "method-wrapper" == Value.type "method" || Value.type "method-wrapper" == Value.type "builtin_function_or_method" || Value.type "method-wrapper" == Value.type "method-wrapper") = true by decide, if_true]
  refine KFB.if_so (by decide) ?_
  refine wpAny_bind (check_bound_init PySem.F.excBase_ValueError.toExcCallFacts hC he rfl ?_)
  refine wpAny_bind (wpAny_pure (wpAny_pure ?_))
  refine ⟨plainId_quiet PySem.F.excBase_ValueError.init.plain _, codeAny_builtin PySem.F.excBase_ValueError.initEntry ?_⟩
  exact exc_init_tree (cls := .ref C) (t0 := t0) (dv := none) (c2 := .none) (c3 := .none) (b4 := .bool false) he hrest fun h' k e' t' => hq h' _ k e'
/-- what __init__ leaves of a fresh exception at x -/
structure InitEnd (h h' : Heap) (x C dx t1 : Addr) (v : Value) : Prop where
  keep : ∀ b o, b ≠ x → h.get? b = some o → h'.get? b = some o
  obj : h'.get? x = some { cls := .ref C, dict := some dx, data := .fields #[.ref t1, .none, .none, .none, .bool false, .none] }
  dbig : h.objs.size ≤ dx
  dne : dx ≠ x
  ns : h'.Ns1 dx (fun y => if y = "name" then some v else none)
structure OwnMade (h h' : Heap) (e C d : Addr) (v : Value) : Prop where
  keep : ∀ b o, h.get? b = some o → h'.get? b = some o
  new : h.objs.size ≤ e
  obj : ∃ oe vs, h'.get? e = some oe ∧ oe.cls = .ref C ∧ oe.dict = some d ∧ oe.data = .fields vs ∧ vs[1]? = some .none
  dbig : h.objs.size ≤ d
  dne : d ≠ e
  ns : h'.Ns1 d (fun y => if y = "name" then some v else none)
section
variable {prog : Program} {w : World} {A : Around} {E : Value → Shared → Prop} {R : Result → Shared → Prop} {s : Shared} {K : Frag} {mg mb : Str → Option Value} {C fI cc cda : Addr}
theorem bad_init (T : BadTxt prog K mg C fI cc cda) {x t0 : Addr} {nm : Str} {tk0 : Tok} (X : K.In s.heap) (hlim : s.heap.NoLimit) (G : s.heap.Ns mainGlobals mg) (B : s.heap.Ns builtinsNs mb) (hB : ∀ x : Str, x ≠ "__name__" → mb x = bootBuiltins x)
    (hx : s.heap.get? x = some (excO C t0)) (hnx : K.lookup x = none) (hroom : A.depth < recursionLimit) (hz : nm.length ≤ 1000)
    (hq : ∀ h' tk dx t1, InitEnd s.heap h' x C dx t1 (.str nm tk0) → R (.ok (.ret .none)) { s with heap := h', toks := tk }) :
    codeAny (model prog w) A (.call (.ref fI) ⟨[.ref x, .str nm tk0], []⟩) R s := by
  obtain ⟨oc, od, doc, pm, an, ct, osl, p1, p2, q1, q2, q3, q4, q5, q6, q7, q8, q9, q10, q11, q12, ho, hcd, hline⟩ := T.fn
  obtain ⟨cnm, q, N, bs, bm, sn, sub, ab, col, dd, k0, k1, k2, k3, k5, hC, hbm, hal⟩ := T.cls
  obtain ⟨cl, cld, csl, hcell⟩ := T.cell
  obtain ⟨ccl, cdd, vs, ccs, file, tf, hcode, hvs, hfile⟩ := T.code
  have hcl : clsIn K C = some { name := cnm, bases := bs, mro := .ref C :: bm, ns := N, qualname := q, hasDict := true, slotNames := sn, subclasses := sub, abstract := ab, collection := col, hasDel := false } := by unfold clsIn; rw [hC] <;> rfl
  refine ks_codeAny_call_defAt (fd := ksFn "__init__" "BadArgument.__init__" (iA p1 p2) (iB q1 q2 q3 q4 q5 q6 q7 q8 q9 q10 q11 q12) iS .none .none doc pm an (.ref cda) ct cc) (body := iB q1 q2 q3 q4 q5 q6 q7 q8 q9 q10 q11 q12) (binds := [("self", .ref x), ("name", .str nm tk0)]) hroom (X _ _ ho) rfl hlim (codeRec_of X hcd) rfl
    (BindsTo.of_eq (by first | rfl | with_unfolding_all rfl)) (show ∀ x ∈ iS.names, x.2 ≠ .cell by decide) (fun y hy => ?_) (fun h₁ hns k => ?_) rfl rfl rfl
  · rcases List.mem_cons.mp hy with e | hy
    · rw [e]; rfl
    · rw [List.mem_singleton.mp hy]; rfl
  have X₁ : K.In h₁ := X.keeps k
  have G₁ : h₁.Ns mainGlobals mg := G.keeps k
  have B₁ : h₁.Ns builtinsNs mb := B.keeps k
  have hx₁ := k _ _ hx
  obtain ⟨m0, hm0⟩ : ∃ m0 : Str → Option Value, m0 = fun y => ([("self", Value.ref x), ("name", .str nm tk0)] : List (Str × Value)).reverse.lookup y := ⟨_, rfl⟩
  have hn : h₁.Ns s.heap.objs.size m0 := by rw [hm0]; exact hns
  have lss : ∀ {h : Heap} {m : Str → Option Value}, h.Ns s.heap.objs.size m → h.Ns (ksEnv "BadArgument.__init__" iS s.heap.objs.size fI (.ref cda) cc).locals m := fun z => z
  have hxC : x ≠ C := fun z => by rw [z] at hnx; rw [hnx] at hC; cases hC
  have kS : (ksEnv "BadArgument.__init__" iS s.heap.objs.size fI (.ref cda) cc).kindOf "self" = some .local := rfl
  have kN : (ksEnv "BadArgument.__init__" iS s.heap.objs.size fI (.ref cda) cc).kindOf "name" = some .local := rfl
  have mS : m0 (Str.ofString "self") = some (Value.ref x) := by rw [hm0]; first | rfl | simp [List.lookup]
  have mN : m0 (Str.ofString "name") = some (Value.str nm tk0) := by rw [hm0]; first | rfl | simp [List.lookup]
  have subX : ∀ {h : Heap}, K.In h → Looks (model prog w) h (isSubtype (.ref C) (.ref C)) true := fun X => looks_mroIn X T.mrC
  -- super().__init__('bad argument: ' + name)
  have he : eval (.Call (.Attribute (.Call (.Name "super" q1) [] [] q2) "__init__" q3) [.BinOp (.Constant (.str "bad argument: ") 0 q4) .Add (.Name "name" q5) q6] [] q7) (ksEnv "BadArgument.__init__" iS s.heap.objs.size fI (.ref cda) cc) = (do
      let ov ← attributeBase (.Call (.Name "super" q1) [] [] q2) "__init__" (ksEnv "BadArgument.__init__" iS s.heap.objs.size fI (.ref cda) cc) (eval (.Call (.Name "super" q1) [] [] q2) (ksEnv "BadArgument.__init__" iS s.heap.objs.size fI (.ref cda) cc))
      standAt q3.atName
      let (f, first) ← holding [ov] (getMethod ov "__init__" (L2.plainOf (.Call (.Name "super" q1) [] [] q2) (ksEnv "BadArgument.__init__" iS s.heap.objs.size fI (.ref cda) cc)))
      callWith q7 f first (backTo q7 (starEach [.BinOp (.Constant (.str "bad argument: ") 0 q4) .Add (.Name "name" q5) q6] (ksEnv "BadArgument.__init__" iS s.heap.objs.size fI (.ref cda) cc))) []) := by
    show (attributeBase (.Call (.Name "super" q1) [] [] q2) "__init__" (ksEnv "BadArgument.__init__" iS s.heap.objs.size fI (.ref cda) cc) (eval (.Call (.Name "super" q1) [] [] q2) (ksEnv "BadArgument.__init__" iS s.heap.objs.size fI (.ref cda) cc)) >>= fun ov => standAt q3.atName >>= fun _ =>
      methodCall (.Call (.Name "super" q1) [] [] q2) "__init__" q3 q7 (ksEnv "BadArgument.__init__" iS s.heap.objs.size fI (.ref cda) cc) ov 1 (backTo q7 (starEach [.BinOp (.Constant (.str "bad argument: ") 0 q4) .Add (.Name "name" q5) q6] (ksEnv "BadArgument.__init__" iS s.heap.objs.size fI (.ref cda) cc))) []) = _
    congr 1
    funext ov
    congr 1
    funext _
    exact L2.mcall_line rfl hline
  refine ks_wpAt_execs_cons (ks_wpAt_Expr_any (ks_wpAt_MethodCall ?_ he) rfl rfl)
  refine ks_wpAt_super_base (env := ksEnv "BadArgument.__init__" iS s.heap.objs.size fI (.ref cda) cc) (attr := "__init__") rfl rfl (by decide) rfl (X₁ _ _ ho) rfl (ar := { arg := "self", annotation := none, pos := p1 }) rfl rfl (X₁ _ _ hcode) rfl hvs hfile T.top ?_
  refine ks_loadName_global rfl rfl (loadGlobal_builtin (env := ksEnv "BadArgument.__init__" iS s.heap.objs.size fI (.ref cda) cc) G₁ T.gS B₁ ((hB _ (by decide +kernel)).trans (by decide +kernel : bootBuiltins "super" = some (.type "super"))) ⟨rfl, ?_⟩)
  refine wpAny_loadName_free rfl rfl rfl ⟨_, X₁ _ _ hcell, rfl⟩ ?_
  refine wpAny_loadName_local (name := "self") rfl kS (lss hn) mS ?_
  refine ks_wpAny_isType_cls (X₁ _ _ hC) rfl ⟨rfl, ?_⟩
  refine ks_wpAny_call_super (X₁ _ _ hC) rfl hx₁ rfl (fun c e => by cases e) (subX X₁) (fun h₂ hso k₂ => ?_)
  have X₂ := X₁.keeps k₂
  have hx₂ := k₂ _ _ hx₁
  have I₂ : InstAt h₂ x (excO C t0) C none := ⟨hx₂, rfl, rfl, trivial⟩
  refine kxs_getMethod kxs_ValueError hso (looks_opaque X₂ T.opq) (l₀ := .ref C :: bm) (fun A Q E s k q => wpAny_bind ((looks_clsIn X₂ hcl) A _ E s k (wpAny_pure q))) (l := bm) (by simp [List.dropWhile_cons]) X₂ hal (I₂.type.andThen (looks_subIn X₂ T.veC)) hxC (by decide) ?_
  have k₃ : ∀ b o, h₂.get? b = some o → (h₂.push (kxs_mw "ValueError.__init__" x)).get? b = some o := fun b o e => Heap.get?_push_of_some _ e
  have hu₃ : (h₂.push (kxs_mw "ValueError.__init__" x)).get? h₂.objs.size = some (kxs_mw "ValueError.__init__" x) := Heap.get?_push_at rfl rfl
  have hn₃ := ((hn.keeps k₂).keeps k₃)
  refine kxs_callWith (i := "ValueError.__init__") (x := x) (by rfl) (evalArgs_plain ?_)
  show wpAny _ _ (spliced ((false, eval (.BinOp (.Constant (.str "bad argument: ") 0 q4) .Add (.Name "name" q5) q6) (ksEnv "BadArgument.__init__" iS s.heap.objs.size fI (.ref cda) cc)) :: backTo q7 (starEach [] (ksEnv "BadArgument.__init__" iS s.heap.objs.size fI (.ref cda) cc)))) _ _ _
  refine Calls.spliced_cons (wpAny_BinOp (Calls.Constant_str (ldE (x := "name") (lss hn₃) mN ?_ rfl kN (by decide))))
  have h14 : (Str.ofString "bad argument: ").length = 14 := by decide +kernel
  have hlen : (Str.ofString "bad argument: ").length + nm.length ≤ sizeLine := by
    rw [sizeLine_eq, h14]
    omega
  refine PyProof.Rows.add_str (fun t' tk' => Calls.spliced_nil ⟨hu₃, ?_⟩) hlen
  show wpAny _ _ (call (.ref h₂.objs.size) [_]) _ _ _
  refine call_vb ((X₂.keeps k₃) _ _ hC) (k₃ _ _ hx₂) hu₃ (one_size _) fun h₄ t1 k₄ hx₄ => ?_
  -- self.name = name
  have kk : ∀ b o, b ≠ x → h₁.get? b = some o → h₄.get? b = some o := fun b o hb e => k₄ b o hb (k₃ _ _ (k₂ _ _ e))
  have X₄ : K.In h₄ := kept_but X₁ hnx kk
  have hxL : s.heap.objs.size ≠ x := Nat.ne_of_gt (Heap.lt_size hx)
  have hn₄ : h₄.Ns s.heap.objs.size m0 := hn.at' fun o e => kk _ o hxL e
  refine ks_wpAt_execs_cons (ks_wpAt_Assign_Attr ?_ rfl)
  refine PySem.wpAt_of_wpAny (ldE (x := "name") (lss hn₄) mN ?_ rfl kN (by decide))
  refine ldE (x := "self") (lss hn₄) mS ?_ rfl kS (by decide)
  refine set_plain X₄ (ox := excO C t1) (od := none) ⟨hx₄, rfl, rfl, trivial⟩ T.sa ?_
  refine exc_osa X₄ hx₄ hcl (show refsVE (.ref C :: bm) = true from hbm) rfl T.noN (fun h₅ tk₅ dx k₅ dn dne hx₅ hn₅ => ?_)
  have z : s.heap.objs.size < h₄.objs.size := hn₄.lt
  exact PySem.wpAt_of_wpAny (wpAny_execs_nil (hq h₅ _ dx t1 ⟨fun b o hb e => k₅ b o hb (kk b o hb (k b o e)), hx₅, Nat.le_of_lt (Nat.lt_of_lt_of_le z dn), dne, hn₅⟩))
end
end BadX
end PySem
end
section
namespace PySem
namespace BadX
open PySem.W PySem.Calls PyProof.Rows PySem.HandSPX
section
variable {prog : Program} {w : World} {A : Around} {E : Value → Shared → Prop} {R : Result → Shared → Prop} {s : Shared} {K : Frag} {mg mb : Str → Option Value} {C fI cc cda : Addr}
theorem bad_made (T : BadTxt prog K mg C fI cc cda) {nm : Str} {tk0 : Tok} (X : K.In s.heap) (hlim : s.heap.NoLimit) (G : s.heap.Ns mainGlobals mg) (B : s.heap.Ns builtinsNs mb) (hB : ∀ x : Str, x ≠ "__name__" → mb x = bootBuiltins x) (hroom : A.depth + 1 < recursionLimit) (hz : nm.length ≤ 1000)
    (hq : ∀ h' tk e d, OwnMade s.heap h' e C d (.str nm tk0) → R (.ok (.ret (.ref e))) { s with heap := h', toks := tk }) :
    codeAny (model prog w) A (.call (.ref C) ⟨[.str nm tk0], []⟩) R s := by
  obtain ⟨cnm, q, N, bs, bm, sn, sub, ab, col, dd, k0, k1, k2, k3, k5, hC, hbm, hal⟩ := T.cls
  obtain ⟨hp, g, dr, tk, os⟩ := s
  have k : ∀ b o, hp.get? b = some o → ((hp.push (kdv_tup [.str nm tk0])).push (excO C hp.objs.size)).get? b = some o := fun b o e => Heap.get?_push_of_some _ (Heap.get?_push_of_some _ e)
  have hget : ((hp.push (kdv_tup [.str nm tk0])).push (excO C hp.objs.size)).get? (hp.objs.size + 1) = some (excO C hp.objs.size) := by heap_get
  have hnx : K.lookup (hp.objs.size + 1) = none := by
    cases e : K.lookup (hp.objs.size + 1) with
    | none => rfl
    | some o =>
      have z : hp.get? (hp.objs.size + 1) = some o := X _ _ e
      exact absurd (Nat.lt_of_succ_lt (Heap.lt_size z)) (Nat.lt_irrefl _)
  refine call_own F.excBase_ValueError (fun X => refsVE_contains X bm hbm) (X _ _ hC) (looks_findIn X T.iC) (fun self => bind_fn X self T.tC) (one_size _) ?_
  refine bad_init (s := ⟨(hp.push (kdv_tup [.str nm tk0])).push (excO C hp.objs.size), g, dr, tk, os⟩) T (X.keeps k) (hlim.keeps k) (G.keeps k) (B.keeps k) hB hget hnx ?_ hz fun h' tk' dx t1 ⟨k', hx, dn, dne, hns⟩ => ?_
  · show A.depth + 1 < recursionLimit
    exact hroom
  · have old : ∀ b o, hp.get? b = some o → h'.get? b = some o := fun b o e => k' b o (Nat.ne_of_lt (Nat.lt_succ_of_lt (Heap.lt_size e))) (k b o e)
    have z : hp.objs.size + 1 + 1 ≤ dx := by
      first
        | (simpa only [Heap.size_push] using dn)
        | exact dn
        | (have q := dn; rw [Heap.size_push, Heap.size_push] at q; exact q)
    exact ⟨rfl, hq h' tk' (hp.objs.size + 1) dx ⟨old, Nat.le_succ _, ⟨_, _, hx, rfl, rfl, rfl, rfl⟩, Nat.le_trans (Nat.le_trans (Nat.le_succ _) (Nat.le_succ _)) z, dne, hns⟩⟩
end
end BadX
end PySem
namespace DL
open PySem PySem.Spec PyProof.Rows L2
theorem relO_nm {v : V} {v' : Value} (r : RelV v v') (f : Str) : RelO (List.lookup f [(("name" : Str), v)]) (if f = "name" then some v' else none) := by
  by_cases hw : f = "name"
  · subst hw
    rw [if_pos rfl]
    have q : List.lookup ("name" : Str) [(("name" : Str), v)] = some v := by simp [List.lookup]
    rw [q]
    exact r
  · rw [if_neg hw]
    have qw : (f == ("name" : Str)) = false := by simpa using hw
    have q2 : List.lookup f [(("name" : Str), v)] = none := by simp [List.lookup, qw]
    rw [q2]
    trivial
theorem rz_bad {X : Cx} {G : En} {Sg : Tab} {fI cc cda : Addr} {k : Nat} (T : PySem.BadX.BadTxt X.prog X.K X.mg G.C fI cc cda) (hr : Room k X.A) : RzX X G Sg := by
  refine ⟨fun a ie p pos hg he hn => ?_⟩
  intro pins s σ H Q I ⟨st, F, Qd, R, hq, kk⟩
  refine wpAny_Call_Name_kw (ld_glob I hg T.gC ?_)
  have ha : PA X [a] (tCons (tD G (toD (wpE Sg ie))) tNil) := pa_cons (pe_D he) pa_nil (star_cons hn _ _)
  refine PySem.W.callWith_K (h₀ := X.base) I.ok.mod.kin T.kC (thn (ha.run pos pins s σ H (fun vs H1 => ∃ n st1 F1, vs = [V.str n] ∧ n.length ≤ 1000 ∧ Qd n st1 ∧ Glob G st1.cel H1 F1) I
    ⟨P0, st, F, fun x st1 => ∃ n, x = .str n ∧ n.length ≤ 1000 ∧ Qd n st1, R, hq, fun x st1 v H1 F1 q1 R1 d1 s1 => by
      obtain ⟨n, rfl, hl, q1⟩ := q1
      cases d1
      exact ⟨n, st1, F1, rfl, hl, q1, R1.g⟩⟩) fun us s1 hh => ?_) (star_cons hn _ _) rfl
  obtain ⟨vs, H1, I1, r1, n, st1, F1, ev, hl, q1, g1⟩ := hh
  subst ev
  refine ⟨I1.kIn, ?_⟩
  cases r1 with
  | cons rv rn =>
    rename_i v' us'
    cases rn
    obtain ⟨tk0, rfl⟩ := (show ∃ t, v' = Value.str n t from rv)
    show wpAny _ _ (call (.ref G.C) [.str n tk0]) _ _ _
    have hlim := I1.nolimit
    obtain ⟨mb, B0, hB⟩ := I1.ok.mod.blt
    have Gl1 := I1.ok.mod.glob.keeps I1.bk
    have Bl1 := B0.keeps I1.bk
    have K1 := I1.kIn
    obtain ⟨hp, g, dr, tk, os⟩ := s1
    refine wpAny_call (PySem.BadX.bad_made T K1 hlim Gl1 Bl1 hB (by have := hr.dp; omega) hl fun h' tk' e d M => ?_)
    show MkP X pins σ Q (.ref e) ⟨h', g, dr, tk', os⟩
    obtain ⟨oe, fv, hoe, hc, hd, hdat, h1⟩ := M.obj
    have hns := M.ns
    obtain ⟨G', g1', g2'⟩ := restrict h' fun b => decide (b ≠ e)
    have gk : ∀ b, b ≠ e → G'.get? b = h'.get? b := fun b hb => g1' b (decide_eq_true hb)
    have ge : G'.get? e = none := g2' e (by simp)
    have old : ∀ b o, hp.get? b = some o → G'.get? b = some o := fun b o q => (gk b (Nat.ne_of_lt (Nat.lt_of_lt_of_le (Heap.lt_size q) M.new))).trans (M.keep b o q)
    have ob : ObjOk X.prog X.w (upd H1 d (.xd [(("name" : Str), V.str n)])) G' d (.xd [(("name" : Str), V.str n)]) :=
      ⟨_, hns.at (fun o q => (gk d M.dne).trans q), fun f => relO_nm rv f⟩
    have J : Inv X pins σ (upd H1 d (.xd [(("name" : Str), V.str n)])) ⟨G', g, dr, tk', os⟩ := I1.laid (t' := tk') old M.dbig ob
    have hdn : H1 d = none := I1.hok.fresh M.dbig
    refine ⟨e, oe, fv, ⟨G', g, dr, tk', os⟩, _, .ref G.C, some d, rfl, J, fun b o q => ?_, ge, hoe, ⟨hc, hd⟩, hdat, h1, ?_, rfl, I1.bare, raises_own T.exC T.tyC, ?_⟩
    · by_cases hb : b = e
      · have q' : G'.get? b = some o := q
        rw [hb, ge] at q'; cases q'
      · exact (gk b hb).symm.trans q
    · rw [upd_ne (Ne.symm M.dne)]
      exact I1.hok.fresh M.new
    · exact kk n st1 _ F1 (some d) q1 (g1.new hdn) ⟨rfl, d, _, rfl, upd_same, by simp [List.lookup]⟩
end DL
end
section
namespace DL
open PySem PySem.Spec PyProof.Rows L2
theorem takes_len {X : Cx} {W : WX} (tk : Takes X W) : Takes X (fun cls d σ H => σ.length = X.N.length → W cls d σ H) := fun u s' ⟨a, B, sI, pins, σ, H, cls, d, e, I, nb, up, sky, na, os, ag, w⟩ =>
  tk u s' ⟨a, B, sI, pins, σ, H, cls, d, e, I, nb, up, sky, na, os, ag, w I.len⟩
theorem BadTxt.xf {P : Program} {K : PySem.W.Frag} {mg : Str → Option Value} {C fI cc cda : Addr} (T : PySem.BadX.BadTxt P K mg C fI cc cda) : XfC K C := ⟨T.ga, T.gg, T.exC, T.hdC⟩
theorem refused_gives {X : Cx} {x q : Str} {sg : Scope} {g C fI cc cda : Addr} {cdg : Value} {p1 p2 p3 p4 p5 p6 p7 p8 p9 p10 p11 : Pos} {j : Nat} (T : PySem.BadX.BadTxt X.prog X.K X.mg C fI cc cda)
    (hge : sg.names.lookup ("BadArgument" : Str) = some .globalImplicit) (hle : sg.names.lookup ("e" : Str) = some .local) :
    LamX.GivesTo X ["call", "e"] x sg g cdg [.Try [.Expr (.Call (.Name "call" p1) [] [] p2) p3] [.ExceptHandler (some (.Name "BadArgument" p4)) (some "e") [.Return (some (.Attribute (.Name "e" p5) "name" p6)) p7] p8] [] [] p9, .Return (some (.Constant (.str "") j p10)) p11] "call" q (TTr C) := by
  intro f c' s H Q tl act hc h
  have hgl : Gl (cxOf C8.CX0 X.prog X.w X.K X.mg X.base ["call", "e"] x sg g cdg X.A X.stack s H C8.E0).nox "BadArgument" := hge
  refine ⟨_, pss_cons (ps_try_as (X := (cxOf C8.CX0 X.prog X.w X.K X.mg X.base ["call", "e"] x sg g cdg X.A X.stack s H C8.E0).nox) (i := 1) (c := .ref C) (Wout := fun _ _ _ _ => False)
      (tb := fun W D σ H => ∃ Ech : XK, (∀ cls d σ' H', Ech cls d H' → σ'.length = 2 → W cls d σ' H') ∧ σ[0]? = some (some (.ref f)) ∧ H c' = some (LamX.CodeO c' q) ∧ tl Ech H (fun _ H1 => D.nx σ H1))
      (ts := fun a cls d => tRet (tXf a cls d C "name" (tVar 1)))
      rfl rfl (show (["call", "e"] : List Str).Nodup by decide) rfl hle ⟨hgl, by decide, .inl T.gC⟩ LamX.takes0 (fun W pn xe tk _ => ?_) (fun a oe cls d pn hz hf => pss_one (ps_ret (pe_xf (BadTxt.xf T) T.noN hz hf (pe_var (i := 1) rfl (.inl hle)))))) (pss_one (ps_ret pe_str)), ?_⟩
  · refine ⟨fun pins s' σ H' D I h' => ?_⟩
    obtain ⟨Ech, hW, h1, h2, h3⟩ := h'
    have hp := act (fun cls d σ H => σ.length = 2 → W cls d σ H) pn xe Ech p1 p2 (takes_len tk) (fun cls d σ' H' he hl => hW cls d σ' H' he hl)
    exact (pss_one (ps_expr (pos := p3) hp)).run pins s' σ H' D I ⟨h1, h2, h3⟩
  · refine ⟨fun cls d H' => ∃ n, ExIs C n cls d H' ∧ Q (.str n) H', fun cls d σ' H' ⟨n, ⟨e1, dd, fs, e2, e3, e4⟩, hQ⟩ hl => ?_, rfl, hc, h⟩
    subst e1
    refine ⟨true, T.te, fun _ a _ => ?_, fun z => nomatch z⟩
    exact ⟨.ref a, by rw [List.getElem?_set_self (by rw [hl]; decide)], rfl, rfl, dd, fs, .str n, e2, e3, e4, hQ⟩
theorem ref_x {X : Cx} {G : En} {k : Nat} {g fI cc cda : Addr} {pg : Arguments} {sg : Scope} {dV kV doc pm cdv ct oc : Value} {an od : Option Addr} {osl : Array (Option Value)} {p1 p2 p3 p4 p5 p6 p7 p8 p9 p10 p11 : Pos} {j : Nat} (T : PySem.BadX.BadTxt X.prog X.K X.mg G.C fI cc cda)
    (hm : X.mg "_law_refused" = some (.ref g)) (hk : PySem.W.keepIn X.K (.ref g) = true)
    (lk : X.K.lookup g = some ⟨oc, od, .func (PySem.W.fnOf "_law_refused" "_law_refused" pg [.Try [.Expr (.Call (.Name "call" p1) [] [] p2) p3] [.ExceptHandler (some (.Name "BadArgument" p4)) (some "e") [.Return (some (.Attribute (.Name "e" p5) "name" p6)) p7] p8] [] [] p9, .Return (some (.Constant (.str "") j p10)) p11] sg dV kV doc pm an cdv ct), osl⟩)
    (hcg : PySem.W.codeIn X.K cdv "_law_refused" = true) (hb : L2.Binds X.K (PySem.W.fnOf "_law_refused" "_law_refused" pg [.Try [.Expr (.Call (.Name "call" p1) [] [] p2) p3] [.ExceptHandler (some (.Name "BadArgument" p4)) (some "e") [.Return (some (.Attribute (.Name "e" p5) "name" p6)) p7] p8] [] [] p9, .Return (some (.Constant (.str "") j p10)) p11] sg dV kV doc pm an cdv ct) ["call"] [])
    (Sc : FnScope ["call", "e"] ["call"] sg) (hva : Vis sg "call") (hge : sg.names.lookup ("BadArgument" : Str) = some .globalImplicit) (hle : sg.names.lookup ("e" : Str) = some .local) (tb : TabX X G true) (hr : Room (k + 2) X.A) : RefX X G k := by
  obtain ⟨c, Pa, hcode, TB, hmT, hu⟩ := tb.is
  refine ⟨fun params body scope t p lpos pos h1 h2 h3 h4 h5 h6 h7 L hg hbody => ?_⟩
  obtain ⟨a1, a2, a3, a4, a5, a6, a7⟩ := params
  dsimp only at h1 h2 h3 h4 h5 h6 h7
  subst h1 h2 h3 h4 h5 h6 h7
  exact LamX.pe_lamcall hg hm hk lk hcg hb Sc rfl hva (refused_gives T hge hle) TB hcode hmT hu hr L rfl (fun q cl pm cv ctv => rfl) hbody
end DL
end
section
namespace DL
open PySem PySem.Spec PyProof.Rows L2
/-- the own error's __init__ has this text -/
def initB : Arguments → List Stmt → Bool
  | ⟨[], [⟨a1, none, _⟩, ⟨a2, none, _⟩], none, [], [], none, []⟩, [.Expr (.Call (.Attribute (.Call (.Name n1 _) [] [] _) n2 q3) [.BinOp (.Constant (.str n3) 0 _) .Add (.Name n4 _) _] [] q7) _, .Assign [.Attribute (.Name n5 _) n6 _] (.Name n7 _) _] =>
    decide (a1 = "self") && decide (a2 = "name") && decide (n1 = "super") && decide (n2 = "__init__") && decide (n3 = "bad argument: ") && decide (n4 = "name") && decide (n5 = "self") && decide (n6 = "name") && decide (n7 = "name") && (q3.endLine == q7.line)
  | _, _ => false
theorem initB_ok {a : Arguments} {b : List Stmt} (h : initB a b = true) : ∃ p1 p2 q1 q2 q3 q4 q5 q6 q7 q8 q9 q10 q11 q12, a = PySem.BadX.iA p1 p2 ∧ b = PySem.BadX.iB q1 q2 q3 q4 q5 q6 q7 q8 q9 q10 q11 q12 ∧ (q3.endLine == q7.line) = true := by
  unfold initB at h
  split at h
  · simp only [Bool.and_eq_true, decide_eq_true_eq] at h
    obtain ⟨⟨⟨⟨⟨⟨⟨⟨⟨rfl, rfl⟩, rfl⟩, rfl⟩, rfl⟩, rfl⟩, rfl⟩, rfl⟩, rfl⟩, hl⟩ := h
    exact ⟨_, _, _, _, _, _, _, _, _, _, _, _, _, _, rfl, rfl, hl⟩
  · cases h
abbrev bC (K : PySem.W.Frag) : Addr := He.ga K "BadArgument"
def bI (K : PySem.W.Frag) : Addr := He.ma K (bC K) "__init__"
def bCode (K : PySem.W.Frag) : Addr := match K.lookup (bI K) with
  | some ⟨_, _, .func fd, _⟩ => (match fd.code with
    | .ref c => c
    | _ => 0)
  | _ => 0
def bCell (K : PySem.W.Frag) : Addr := match K.lookup (bI K) with
  | some ⟨_, _, .func fd, _⟩ => (match fd.closure with
    | [(_, c)] => c
    | _ => 0)
  | _ => 0
def clsB (K : PySem.W.Frag) : Bool := match K.lookup (bC K) with
  | some ⟨.type "type", _, .cls cd, sl⟩ => (match cd.mro, sl.toList with
    | .ref C' :: bm, [_, _, _, _, some (.builtin n), _] => C' == bC K && n == "ValueError.__new__" && !cd.hasDel && cd.hasDict && PySem.HandSPX.refsVE bm && decide (PySem.W.alongIn K "__init__" bm = some (some (.builtin "ValueError.__init__")))
    | _, _ => false)
  | _ => false
def fnB (K : PySem.W.Frag) : Bool := match K.lookup (bI K) with
  | some ⟨_, _, .func ⟨nm, q, pa, .stmts bd, sc, gl, [(cn, _)], .none, .none, _, _, _, .ref cd, _, bu⟩, _⟩ => decide (nm = "__init__") && decide (q = "BadArgument.__init__") && initB pa bd && decide (sc = PySem.BadX.iS) && decide (gl = mainGlobals) && decide (cn = "__class__") && decide (bu = builtinsNs) && PySem.W.codeIn K (.ref cd) "BadArgument.__init__"
  | _ => false
def cellB (K : PySem.W.Frag) : Bool := match K.lookup (bCell K) with
  | some ⟨_, _, .cell (some (.ref C)), _⟩ => decide (C = bC K)
  | _ => false
def codeB (file : Str) (K : PySem.W.Frag) : Bool := match K.lookup (bCode K) with
  | some ⟨_, _, .fields vs, _⟩ => (match (vs[2]? : Option Value) with
    | some (.str f _) => file == f
    | _ => false)
  | _ => false
/-- all that is asked of the own error -/
def badB (file : Str) (K : PySem.W.Frag) : Bool :=
  clsB K && decide (PySem.W.findIn K (.ref (bC K)) "__setattr__" = some (some (.builtin "object.__setattr__"))) && decide (PySem.W.findIn K (.ref (bC K)) "__getattribute__" = some (some (.builtin "BaseException.__getattribute__"))) &&
    decide (PySem.W.findIn K (.ref (bC K)) "__getattr__" = some none) && decide (PySem.W.findIn K (.ref (bC K)) "name" = some none) && decide (PySem.W.findIn K (.ref (bC K)) "__init__" = some (some (.ref (bI K)))) && decide (PySem.W.typeIn K (.ref (bI K)) = some (.type "function")) &&
    PySem.W.keepIn K (.ref (bC K)) && decide (PySem.W.subIn K (.ref (bC K)) (.type "BaseException") = some true) && decide (PySem.W.subIn K (.ref (bC K)) (.type "ValueError") = some true) && decide (PySem.W.mroIn K (bC K) (.ref (bC K)) = some true) &&
    decide (PySem.W.typeIn K (.ref (bC K)) = some (.type "type")) && decide (PySem.W.exmOne K (.ref (bC K)) (.ref (bC K)) = some true) && decide (PySem.W.nsIn K cStatics "thirdparty.any" = some none) && cellB K && codeB file K && fnB K
theorem bad_of {P : Program} {K : PySem.W.Frag} {mg : Str → Option Value} (h : badB P.main.file K = true) (gC : mg "BadArgument" = some (.ref (bC K))) (gS : mg "super" = none) (top : (P.main.scope.names.lookup ("super" : Str)).isSome = false) :
    PySem.BadX.BadTxt P K mg (bC K) (bI K) (bCell K) (bCode K) := by
  unfold badB at h
  simp only [Bool.and_eq_true, decide_eq_true_eq] at h
  obtain ⟨⟨⟨⟨⟨⟨⟨⟨⟨⟨⟨⟨⟨⟨⟨⟨h1, h2⟩, h3⟩, h4⟩, h5⟩, h6⟩, h7⟩, h8⟩, h9⟩, h10⟩, h11⟩, h12⟩, h13⟩, h14⟩, h15⟩, h16⟩, h17⟩ := h
  have hcls : (∃ nm q N bs bm sn sub ab col dd k0 k1 k2 k3 k5, K.lookup (bC K) = some (excClassObj nm q (bC K) N bs bm true sn sub ab col dd k0 k1 k2 k3 k5 "ValueError.__new__") ∧ PySem.HandSPX.refsVE bm = true ∧ PySem.W.alongIn K "__init__" bm = some (some (.builtin "ValueError.__init__"))) := by
    unfold clsB at h1
    split at h1
    · rename_i dd cd sl ho
      split at h1
      · rename_i C' bm k0 k1 k2 k3 n k5 hm hs
        simp only [Bool.and_eq_true, beq_iff_eq, Bool.not_eq_true', decide_eq_true_eq] at h1
        obtain ⟨⟨⟨⟨⟨q1, q2⟩, q3⟩, q4⟩, q5⟩, q6⟩ := h1
        obtain ⟨nm, bs, mro, ns, qn, hd, sn, sub, ab, col, del⟩ := cd
        dsimp only at hm q3 q4
        subst q1 q2 q3 q4 hm
        have hsl : sl = #[k0, k1, k2, k3, some (.builtin "ValueError.__new__"), k5] := by
          obtain ⟨l⟩ := sl
          simp only at hs
          rw [hs]
        subst hsl
        exact ⟨nm, qn, ns, bs, bm, sn, sub, ab, col, dd, k0, k1, k2, k3, k5, ho, q5, q6⟩
      · cases h1
    · cases h1
  refine ⟨gC, gS, hcls, h2, h3, h4, h5, h6, h7, h8, h9, h10, h11, h12, ?_, h13, h14, ?_, ?_, top, ?_⟩
  · obtain ⟨nm, q, N, bs, bm, sn, sub, ab, col, dd, k0, k1, k2, k3, k5, ho, _⟩ := hcls
    unfold PySem.W.hasDictIn PySem.W.clsIn
    rw [ho]
    rfl
  · unfold cellB at h15
    split at h15
    · rename_i cl cld C csl ho
      rw [decide_eq_true_eq] at h15
      subst h15
      exact ⟨_, _, _, ho⟩
    · cases h15
  · unfold codeB at h16
    split at h16
    · rename_i ccl cdd vs ccs ho
      split at h16
      · rename_i f tf hv
        exact ⟨_, _, vs, _, f, tf, ho, hv, h16⟩
      · cases h16
    · cases h16
  · unfold fnB at h17
    split at h17
    · rename_i oc od nm q pa bd sc gl cn cc doc pm an cd ct bu osl ho
      simp only [Bool.and_eq_true, decide_eq_true_eq] at h17
      obtain ⟨⟨⟨⟨⟨⟨⟨rfl, rfl⟩, hb⟩, rfl⟩, rfl⟩, rfl⟩, rfl⟩, hcd⟩ := h17
      obtain ⟨p1, p2, q1, q2, q3, q4, q5, q6, q7, q8, q9, q10, q11, q12, rfl, rfl, hl⟩ := initB_ok hb
      have e1 : bCode K = cd := by
        unfold bCode
        rw [ho]
      have e2 : bCell K = cc := by
        unfold bCell
        rw [ho]
      rw [e1, e2]
      exact ⟨oc, od, doc, pm, an, ct, osl, p1, p2, q1, q2, q3, q4, q5, q6, q7, q8, q9, q10, q11, q12, ho, hcd, hl⟩
    · cases h17


abbrev asZ (g : Addr → Option Obj) (n : Nat) : List Addr := cStatics :: He.asD g n
def obsZ (n : Nat) (fa : List He.Fa) (fn : List He.DefD) (tf : List He.Defn) (ex : PySem.W.Frag → Bool) (g : Addr → Option Obj) : He.AlX := (He.obsT fa fn [] (He.frT g (asZ g n)), ex (He.frT g (asZ g n)) && He.tabsB g tf (He.frT g (asZ g n)))
theorem saysZ_of {n : Nat} {fa : List He.Fa} {fn : List He.DefD} {tf : List He.Defn} {ex : PySem.W.Frag → Bool} {w : World} {h : Heap} (e : obsZ n fa fn tf ex h.get? = He.valX fn [] w) : He.SaysX fa fn [] tf ex w h (He.frT h.get? (asZ h.get? n)) := by
  have e1 : He.obsT fa fn [] (He.frT h.get? (asZ h.get? n)) = He.valT fn [] w := congrArg (fun z : He.AlX => z.1) e
  have e2 : (ex (He.frT h.get? (asZ h.get? n)) && He.tabsB h.get? tf (He.frT h.get? (asZ h.get? n))) = true := congrArg (fun z : He.AlX => z.2) e
  obtain ⟨h1, h2⟩ := He.ba e2
  have key : ∀ p ∈ tf, PySem.W.codeHdIn (He.frT h.get? (asZ h.get? n)) (He.cT (He.frT h.get? (asZ h.get? n)) p).1 (He.cT (He.frT h.get? (asZ h.get? n)) p).2 = true ∧ ∃ o, h.get? (He.cT (He.frT h.get? (asZ h.get? n)) p).2 = some o ∧ He.emptyTab o = true := fun p hp => by
    obtain ⟨h3, h4⟩ := He.ba (List.all_eq_true.mp h2 p hp)
    refine ⟨h3, ?_⟩
    cases q : h.get? (He.cT (He.frT h.get? (asZ h.get? n)) p).2 with
    | none =>
      rw [q] at h4
      cases h4
    | some o =>
      rw [q] at h4
      exact ⟨o, rfl, h4⟩
  exact ⟨e1, h1, fun p hp => (key p hp).1, fun p hp => by
    obtain ⟨_, o, q, z⟩ := key p hp
    exact He.frT_none q z, fun p hp => by
    obtain ⟨_, o, q, z⟩ := key p hp
    rw [q, He.emptyTab_eq z]⟩
def hookZ (n : Nat) (fa : List He.Fa) (fn : List He.DefD) (tf : List He.Defn) (ex : PySem.W.Frag → Bool) : PySem.W.Hook where
  α := He.AlX
  obs := fun s => obsZ n fa fn tf ex s.heap.get?
  val := fun w => He.valX fn [] w
  says := fun w h => ∃ K : PySem.W.Frag, K.In h ∧ He.SaysX fa fn [] tf ex w h K
  of := fun _ _ e => ⟨_, He.frT_in, saysZ_of e⟩
  keeps := fun _ _ _ ⟨K, hK, c⟩ k => ⟨K, PySem.W.Frag.In.keeps hK k, ⟨c.t, c.more, c.hd, c.out, fun p hp => k _ _ (c.empty p hp)⟩⟩
theorem obsZ_eq {n : Nat} {fa : List He.Fa} {fn : List He.DefD} {tf : List He.Defn} {ex : PySem.W.Frag → Bool} {g : Addr → Option Obj} {s : Shared} (h : ∀ a, g a = s.heap.get? a) : obsZ n fa fn tf ex g = (hookZ n fa fn tf ex).obs s := by
  have e : g = s.heap.get? := funext h
  rw [e] <;> rfl
end DL
end
section
namespace DL
open PySem PySem.Spec PyProof.Rows L2
/-- how a def with plain parameters binds -/
def BindAll (x : Str) (params : Arguments) (body : List Stmt) (scope : Scope) (ps : List Str) : Prop := ∀ (kV doc pm : Value) (an : Option Addr) (cdv ct : Value) (n : Nat) (us ws : List Value), n ≤ ps.length → us.length = n → ws.length = ps.length - n →
  bindArgs (PySem.W.fnOf x x params body scope .none kV doc pm an cdv ct) ⟨us, (ps.drop n).zip ws⟩ = pure (ps.zip (us ++ ws))
section
variable {P : Program} {w : World} {K : PySem.W.Frag} {mg : Str → Option Value} {base : Heap} {T : List (Addr × Str)} {Cc : Addr} {Sg : Tab}
theorem FnAt.mono {j k : Nat} {x : Str} {ps : List Str} (F : FnAt P w K mg base T Cc Sg j x ps) (h : j ≤ k) : FnAt P w K mg base T Cc Sg k x ps := by
  obtain ⟨f, fd, h1, h2, h3, h4, h5⟩ := F.is
  exact ⟨f, fd, h1, h2, h3.mono h, h4, h5⟩
theorem zip_take {us ws : List Value} {ps : List Str} : ps.zip (us ++ ws) = ps.zip (us ++ ws) := rfl
theorem fs_nil {k : Nat} : ∀ y qs, ([] : List (Str × List Str)).lookup y = some qs → FnAt P w K mg base T Cc Sg k y qs := fun y qs h => nomatch h
theorem fs_cons {k j : Nat} {x : Str} {ps : List Str} {l : List (Str × List Str)} (F : FnAt P w K mg base T Cc Sg j x ps) (hj : j ≤ k) (r : ∀ y qs, l.lookup y = some qs → FnAt P w K mg base T Cc Sg k y qs) : ∀ y qs, ((x, ps) :: l).lookup y = some qs → FnAt P w K mg base T Cc Sg k y qs := fun y qs h => by
  have h2 : (match y == x with | true => some ps | false => l.lookup y) = some qs := h
  cases e : (y == x) with
  | true =>
    rw [e] at h2
    cases h2
    rw [beq_iff_eq.mp e]
    exact F.mono hj
  | false =>
    rw [e] at h2
    exact r y qs h2
theorem ks_nil : ∀ x d, ([] : List (Str × D)).lookup x = some d → ∃ u v, mg x = some u ∧ RelV v u ∧ ∀ ca F, Dat K ca F d v := fun x d h => nomatch h
theorem ks_int {x : Str} {i : Int} {l : List (Str × D)} (h : ∃ t, mg x = some (.int i t)) (r : ∀ y d, l.lookup y = some d → ∃ u v, mg y = some u ∧ RelV v u ∧ ∀ ca F, Dat K ca F d v) : ∀ y d, ((x, D.int i) :: l).lookup y = some d → ∃ u v, mg y = some u ∧ RelV v u ∧ ∀ ca F, Dat K ca F d v := fun y d h0 => by
  have h2 : (match y == x with | true => some (D.int i) | false => l.lookup y) = some d := h0
  cases e : (y == x) with
  | true =>
    rw [e] at h2
    cases h2
    obtain ⟨t, ht⟩ := h
    rw [beq_iff_eq.mp e]
    exact ⟨_, .int i, ht, ⟨t, rfl⟩, fun ca F => .int i⟩
  | false =>
    rw [e] at h2
    exact r y d h2
theorem binds_of {x : Str} {st : Stmt} {f : Addr} {fd : FuncData} {ps : List Str} (F : FunD K x x (defArgs st) (defBody st) (defScope st) [] [] f fd) (hps : ps ≠ []) (B : BindAll x (defArgs st) (defBody st) (defScope st) ps) :
    (∀ n, n ≤ ps.length → KBinds K fd ps (ps.drop n) (kcat n) (kcat n)) ∧ Binds K fd ps [] := by
  obtain ⟨oc, od, dV, kV, doc, pm, an, cdv, ct, osl, rfl, lk, hcd, hD, hK⟩ := F.ex
  rcases hD with ⟨_, rfl⟩ | ⟨e, _⟩
  · refine ⟨fun n hn => ⟨fun s us ws _ hl => ?_, fun {vs us zs ws} r1 r2 => ?_⟩, .all fun us hl => ?_⟩
    · by_cases e : us.length = n
      · rw [kcat_of e] at hl ⊢
        rw [List.length_append] at hl
        exact .of_eq (B kV doc pm an cdv ct n us ws hn e (by omega))
      · exfalso
        unfold kcat at hl
        rw [if_neg e] at hl
        cases ps with
        | nil => exact hps rfl
        | cons a l => cases hl
    · have e := r1.length
      unfold kcat
      by_cases q : us.length = n
      · rw [if_pos q, if_pos (by rw [e, q])]
        exact r1.append r2
      · rw [if_neg q, if_neg (by rw [e]; exact q)]
        exact .nil
    · have h := B kV doc pm an cdv ct ps.length us [] (Nat.le_refl _) hl (by simp)
      rw [List.append_nil] at h
      simpa using h
  · exact absurd rfl e
/-- what the own error, the tables are -/
structure Gd (P : Program) (w : World) (K : PySem.W.Frag) (mg : Str → Option Value) (base : Heap) (T : List (Addr × Str)) (Cc : Addr) (tf : List (Str × Bool)) : Prop where
  bi : ∀ x ∈ bnames, mg x = none
  bad : ∃ fI cc cda, PySem.BadX.BadTxt P K mg Cc fI cc cda
  tab : ∀ p ∈ tf, ∃ Pa, LamX.TabB base mg (He.cT K (p.1, none)).1 Pa ∧ (Pa, p.1 ++ ".<locals>." ++ sufx p.2) ∈ T ∧ ∀ q ∈ T, q.1 = Pa → q.2 = p.1 ++ ".<locals>." ++ sufx p.2
section
variable {tf : List (Str × Bool)} {x : Str} {st : Stmt} {f : Addr} {fd : FuncData} {ps N : List Str} {C : CC} {k m : Nat} {b : Ss}
theorem fnQ_of {qa : Option Addr → Prop} (A : Gd P w K mg base T Cc tf) (F : FunD K x x (defArgs st) (defBody st) (defScope st) [] [] (He.fAd K (x, none)) fd) (S : FnScope N ps (defScope st)) (hCN : C.N = N) (hb : cSs C m (defScope st) (defBody st) = some b) (hk : Keeps Sg N.length b (Sg x))
    (ks : ∀ x d, C.gk.lookup x = some d → ∃ u v, mg x = some u ∧ RelV v u ∧ ∀ ca F, Dat K ca F d v) (fs : ∀ y qs, C.gf.lookup y = some qs → FnAt P w K mg base T Cc Sg k y qs) (ht : ∀ b, C.tab = some b → (x, b) ∈ tf)
    (rf : C.rf = true → ∀ X G, InM P w K mg base X → Room (k + 5) X.A → G.K = K → G.T = T → G.C = Cc → TabX X G true → RefX X G (k + 2)) (hrf : C.rf = true → C.tab = some true) (hdot : C.tab = some false → (".0" : Str) ∉ N) (hfr : C.fresh = true → ∀ ca, qa ca → ca = none) :
    FnOk P w K mg base (L2.CX P w) (k + 6) (He.fAd K (x, none)) fd ps (spQ K T Cc ps.length qa (Sg x)) := by
  obtain ⟨oc, od, dV, kV, doc, pm, an, cdv, ct, osl, rfl, lk, hcd, _, _⟩ := F.ex
  obtain ⟨fI, cc, cda, bad⟩ := A.bad
  refine fnQ lk hcd S hCN hb hk A.bi ks fs (fun b hb => ?_) (fun X G hM hr e1 e2 e3 => ?_) rf hrf hdot hfr
  · obtain ⟨Pa, h1, h2, h3⟩ := A.tab _ (ht b hb)
    obtain ⟨c, hc⟩ := He.codeIn_ref hcd
    have hcc := He.codeOf_eq lk (show (PySem.W.fnOf x x (defArgs st) (defBody st) (defScope st) dV kV doc pm an cdv ct).code = .ref c from hc)
    have e : (He.cT K (x, none)).1 = c := hcc
    rw [e] at h1
    exact ⟨c, Pa, hc, h1, h2, h3⟩
  · refine rz_bad (fI := fI) (cc := cc) (cda := cda) (k := k + 2) ?_ hr
    rw [hM.prog, hM.K, hM.mg, e3]
    exact bad
theorem fnAt_of (A : Gd P w K mg base T Cc tf) (F : FunD K x x (defArgs st) (defBody st) (defScope st) [] [] (He.fAd K (x, none)) fd) (gx : mg x = some (.ref (He.fAd K (x, none)))) (Bd : BindAll x (defArgs st) (defBody st) (defScope st) ps) (hps : ps ≠ []) (S : FnScope N ps (defScope st)) (hCN : C.N = N) (hb : cSs C m (defScope st) (defBody st) = some b) (hk : Keeps Sg N.length b (Sg x))
    (ks : ∀ x d, C.gk.lookup x = some d → ∃ u v, mg x = some u ∧ RelV v u ∧ ∀ ca F, Dat K ca F d v) (fs : ∀ y qs, C.gf.lookup y = some qs → FnAt P w K mg base T Cc Sg k y qs) (ht : ∀ b, C.tab = some b → (x, b) ∈ tf)
    (rf : C.rf = true → ∀ X G, InM P w K mg base X → Room (k + 5) X.A → G.K = K → G.T = T → G.C = Cc → TabX X G true → RefX X G (k + 2)) (hrf : C.rf = true → C.tab = some true) (hdot : C.tab = some false → (".0" : Str) ∉ N) (hfr : C.fresh = false) : FnAt P w K mg base T Cc Sg (k + 6) x ps := by
  obtain ⟨b1, b2⟩ := binds_of F hps Bd
  refine ⟨_, fd, gx, F.kp, (fnQ_of (qa := fun _ => True) A F S hCN hb hk ks fs ht rf hrf hdot (fun h => by rw [hfr] at h; cases h)).imp fun vs H Q E ⟨G, ds, c, Qd, Ed, e1, e2, e3, e4, g, hn, d, hq, k1, k2⟩ => ⟨G, ds, c, Qd, Ed, e1, e2, e3, e4, g, hn, d, hq, k1, k2, True.intro⟩, b1, b2⟩
end
end
end DL
end
section
namespace DL
open PySem PySem.Spec PyProof.Rows L2
def tabT (K : PySem.W.Frag) (tf : List (Str × Bool)) : List (Addr × Str) := tf.map fun p => ((He.cT K (p.1, none)).2, p.1 ++ ".<locals>." ++ sufx p.2)
/-- what is frozen at the entry: the script -/
def F0s (H : Hp) (a : Addr) : Hp := fun b => if b = a then (match H a with
  | some (.tbl _) => none
  | o => o) else none
theorem F0s_sub {H : Hp} {a b : Addr} {o : HO} (h : F0s H a b = some o) : H b = some o ∧ noTbl o := by
  unfold F0s at h
  split at h
  · rename_i e
    subst e
    split at h
    · cases h
    · rename_i z
      exact ⟨h, fun ps e => z ps (by rw [h, e])⟩
  · cases h
theorem F0s_scr {K : PySem.W.Frag} {H : Hp} {a : Addr} {xs : List V} (h : SqL K H a xs) : SqL K (F0s H a) a xs := by
  have key : ∀ o, H a = some o → noTbl o → F0s H a a = some o := fun o e n => by
    unfold F0s
    rw [if_pos rfl, e]
    split
    · rename_i ps z
      exact (n ps (Option.some.inj z)).elim
    · rfl
  rcases h with (h | ⟨o, h⟩) | h
  · exact .inl (.inl (key _ h fun _ z => nomatch z))
  · exact .inl (.inr ⟨o, key _ h fun _ z => nomatch z⟩)
  · exact .inr h
theorem entry_glob {K : PySem.W.Frag} {T : List (Addr × Str)} {Cc : Addr} {H : Hp} {a : Addr} (ht : LamX.Tabs T H) : Glob ⟨K, T, none, H, F0s H a, Cc⟩ [] H (F0s H a) where
  sub := fun b o h => F0s_sub h
  cell := fun b h => nomatch h
  tabs := ht
  keep := fun _ _ h _ _ => h
  f0 := Evl.Ex.refl _
  fnew := fun b h1 h2 => (h1 h2).elim
/-- the law of what its table of promises says -/
theorem law_at {l : PySem.W.OpenLaw} {w : World} {K : PySem.W.Frag} {Cc : Addr} {k n : Nat} {mg : Str → Option Value} {fa : Addr} {h : Heap} {tf : List (Str × Bool)} {fa' : List He.Fa} {fn : List He.DefD} {ex : PySem.W.Frag → Bool} {fd : FuncData} {sp : Spec} (X : K.In h)
    (c : He.SaysX fa' fn [] (tf.map fun p => (p.1, none)) ex w h K) (hb : ∀ (s : Shared) (u : Value), BindsTo s fd ⟨[u], []⟩ [("script", u)]) (hsp : ∀ ns : List Int, ns.length ≤ n → (∀ z ∈ ns, Builtin.Int.intBits z ≤ 1048576) → sp [.scr ns] [] (fun r _ => r = .d (.bl true)) fun _ _ => False)
    (hF : ∀ base : Heap, K.In base → base.Ns mainGlobals mg → (∀ p ∈ tf, LamX.TabB base mg (He.cT K (p.1, none)).1 (He.cT K (p.1, none)).2) → FnOk l.prog w K mg base (L2.CX l.prog w) k fa fd ["script"] (spQ K (tabT K tf) Cc 1 (· = none) sp)) :
    LamX.LawAtS l w K (L2.CX l.prog w) k n "script" mg fa h := by
  have cs1 : ∀ p ∈ (tf.map fun p => ((p.1, none) : He.Defn)).map (He.cT K), ∃ q ∈ (tf.map fun p => ((p.1, none) : He.Defn)), He.cT K q = p := fun p hp => by
    obtain ⟨q, h1, h2⟩ := List.mem_map.mp hp
    exact ⟨q, h1, h2⟩
  refine ⟨fd, (tf.map fun p => ((p.1, none) : He.Defn)).map (He.cT K), _, fun p hp => ?_, fun p hp => ?_, fun p hp => ?_, hb, fun H a ns h1 h2 h3 h4 => ?_, fun base X1 X2 X3 => hF base X1 X2 fun p hp => X3 _ (List.mem_map.mpr ⟨(p.1, none), List.mem_map.mpr ⟨p, hp, rfl⟩, rfl⟩)⟩
  · obtain ⟨q, h1, rfl⟩ := cs1 p hp
    exact c.empty q h1
  · obtain ⟨q, h1, rfl⟩ := cs1 p hp
    exact c.out q h1
  · obtain ⟨q, h1, rfl⟩ := cs1 p hp
    exact PySem.W.codeHd_of_K X (c.hd q h1)
  · refine ⟨⟨K, tabT K tf, none, H, F0s H a, Cc⟩, [.scr ns], [], fun r _ => r = .d (.bl true), fun _ _ => False, rfl, rfl, rfl, rfl, entry_glob (fun p hp => ?_), rfl, .cons (.scr (F0s_scr h4)) .nil, hsp ns h1 h2, fun r c' v H' F' e g hr => ?_, fun m c' cls d H' F' z => z.elim, rfl⟩
    · obtain ⟨q, h5, rfl⟩ := List.mem_map.mp hp
      exact LamX.TabS.nil (h3 _ (List.mem_map.mpr ⟨(q.1, none), List.mem_map.mpr ⟨q, h5, rfl⟩, rfl⟩))
    · subst e
      cases hr
      rfl
theorem nodup_map_inj {α β : Type} {f : α → β} : ∀ {l : List α}, (l.map f).Nodup → ∀ {a b : α}, a ∈ l → b ∈ l → f a = f b → a = b
  | [], _, a, _, ha, _, _ => nomatch ha
  | x :: l, h, a, b, ha, hb, e => by
    rw [List.map_cons, List.nodup_cons] at h
    rcases List.mem_cons.mp ha with h1 | h1
    · rcases List.mem_cons.mp hb with h2 | h2
      · rw [h1, h2]
      · exact (h.1 (List.mem_map.mpr ⟨b, h2, by rw [← e, h1]⟩)).elim
    · rcases List.mem_cons.mp hb with h2 | h2
      · exact (h.1 (List.mem_map.mpr ⟨a, h1, by rw [e, h2]⟩)).elim
      · exact nodup_map_inj h.2 h1 h2 e
theorem gd_of {P : Program} {w : World} {K : PySem.W.Frag} {mg : Str → Option Value} {base : Heap} {tf : List (Str × Bool)} (hbi : ∀ x ∈ bnames, mg x = none) (bad : badB P.main.file K = true) (gC : mg "BadArgument" = some (.ref (bC K))) (gS : mg "super" = none) (top : (P.main.scope.names.lookup ("super" : Str)).isSome = false)
    (nd : ((tf.map fun p => ((p.1, none) : He.Defn)).map fun p => (He.cT K p).2).Nodup) (ht : ∀ p ∈ tf, LamX.TabB base mg (He.cT K (p.1, none)).1 (He.cT K (p.1, none)).2) : Gd P w K mg base (tabT K tf) (bC K) tf := by
  refine ⟨hbi, ⟨_, _, _, bad_of bad gC gS top⟩, fun p hp => ⟨_, ht p hp, List.mem_map.mpr ⟨p, hp, rfl⟩, fun q hq e => ?_⟩⟩
  obtain ⟨p', hp', rfl⟩ := List.mem_map.mp hq
  rw [List.map_map] at nd
  rw [nodup_map_inj nd hp' hp e]
end DL
end
section
namespace L01
open PySem PySem.Spec PyProof.Rows L2 DL
def top (i : Nat) : Stmt := PySem.Challenge.pw_tidemaker_k01_whole_for_ever.main.body.getD i (.Pass ⟨0, 0, 0, 0⟩)
abbrev s_is_integer : Stmt := top 6
def d_is_integer : He.DefD := ⟨("is_integer", none), "is_integer", "is_integer", defArgs s_is_integer, defBody s_is_integer, defScope s_is_integer, [], []⟩
abbrev s_is_wheel : Stmt := top 7
def d_is_wheel : He.DefD := ⟨("is_wheel", none), "is_wheel", "is_wheel", defArgs s_is_wheel, defBody s_is_wheel, defScope s_is_wheel, [], []⟩
abbrev s_is_table : Stmt := top 8
def d_is_table : He.DefD := ⟨("is_table", none), "is_table", "is_table", defArgs s_is_table, defBody s_is_table, defScope s_is_table, [], []⟩
abbrev s_need_table : Stmt := top 9
def d_need_table : He.DefD := ⟨("need_table", none), "need_table", "need_table", defArgs s_need_table, defBody s_need_table, defScope s_need_table, [], []⟩
abbrev s_common : Stmt := top 10
def d_common : He.DefD := ⟨("common", none), "common", "common", defArgs s_common, defBody s_common, defScope s_common, [], []⟩
abbrev s_together : Stmt := top 11
def d_together : He.DefD := ⟨("together", none), "together", "together", defArgs s_together, defBody s_together, defScope s_together, [], []⟩
abbrev s_height_of : Stmt := top 12
def d_height_of : He.DefD := ⟨("height_of", none), "height_of", "height_of", defArgs s_height_of, defBody s_height_of, defScope s_height_of, [], []⟩
abbrev s_turned_by : Stmt := top 13
def d_turned_by : He.DefD := ⟨("turned_by", none), "turned_by", "turned_by", defArgs s_turned_by, defBody s_turned_by, defScope s_turned_by, [], []⟩
abbrev s_cycle_of : Stmt := top 14
def d_cycle_of : He.DefD := ⟨("cycle_of", none), "cycle_of", "cycle_of", defArgs s_cycle_of, defBody s_cycle_of, defScope s_cycle_of, [], []⟩
abbrev s_enough_times : Stmt := top 15
def d_enough_times : He.DefD := ⟨("enough_times", none), "enough_times", "enough_times", defArgs s_enough_times, defBody s_enough_times, defScope s_enough_times, [], []⟩
abbrev s_unlike_of : Stmt := top 16
def d_unlike_of : He.DefD := ⟨("unlike_of", none), "unlike_of", "unlike_of", defArgs s_unlike_of, defBody s_unlike_of, defScope s_unlike_of, [], []⟩
abbrev s_unlike_time : Stmt := top 17
def d_unlike_time : He.DefD := ⟨("unlike_time", none), "unlike_time", "unlike_time", defArgs s_unlike_time, defBody s_unlike_time, defScope s_unlike_time, [], []⟩
abbrev s_same_for_ever : Stmt := top 18
def d_same_for_ever : He.DefD := ⟨("same_for_ever", none), "same_for_ever", "same_for_ever", defArgs s_same_for_ever, defBody s_same_for_ever, defScope s_same_for_ever, [], []⟩
abbrev s_returns_after : Stmt := top 19
def d_returns_after : He.DefD := ⟨("returns_after", none), "returns_after", "returns_after", defArgs s_returns_after, defBody s_returns_after, defScope s_returns_after, [], []⟩
abbrev s_least_period : Stmt := top 20
def d_least_period : He.DefD := ⟨("least_period", none), "least_period", "least_period", defArgs s_least_period, defBody s_least_period, defScope s_least_period, [], []⟩
abbrev s__law_dice : Stmt := top 22
def d__law_dice : He.DefD := ⟨("_law_dice", none), "_law_dice", "_law_dice", defArgs s__law_dice, defBody s__law_dice, defScope s__law_dice, [], []⟩
abbrev s__law_roll : Stmt := top 23
def d__law_roll : He.DefD := ⟨("_law_roll", none), "_law_roll", "_law_roll", defArgs s__law_roll, defBody s__law_roll, defScope s__law_roll, [], []⟩
abbrev s__law_pick : Stmt := top 24
def d__law_pick : He.DefD := ⟨("_law_pick", none), "_law_pick", "_law_pick", defArgs s__law_pick, defBody s__law_pick, defScope s__law_pick, [], []⟩
abbrev s__law_refused : Stmt := top 25
def d__law_refused : He.DefD := ⟨("_law_refused", none), "_law_refused", "_law_refused", defArgs s__law_refused, defBody s__law_refused, defScope s__law_refused, [], []⟩
abbrev s__law_gcd : Stmt := top 26
def d__law_gcd : He.DefD := ⟨("_law_gcd", none), "_law_gcd", "_law_gcd", defArgs s__law_gcd, defBody s__law_gcd, defScope s__law_gcd, [], []⟩
abbrev s__law_height : Stmt := top 27
def d__law_height : He.DefD := ⟨("_law_height", none), "_law_height", "_law_height", defArgs s__law_height, defBody s__law_height, defScope s__law_height, [], []⟩
abbrev s__law_cycle : Stmt := top 28
def d__law_cycle : He.DefD := ⟨("_law_cycle", none), "_law_cycle", "_law_cycle", defArgs s__law_cycle, defBody s__law_cycle, defScope s__law_cycle, [], []⟩
abbrev s__law_other : Stmt := top 29
def d__law_other : He.DefD := ⟨("_law_other", none), "_law_other", "_law_other", defArgs s__law_other, defBody s__law_other, defScope s__law_other, [], []⟩
abbrev s__law_first : Stmt := top 30
def d__law_first : He.DefD := ⟨("_law_first", none), "_law_first", "_law_first", defArgs s__law_first, defBody s__law_first, defScope s__law_first, [], []⟩
abbrev s__law_comes : Stmt := top 31
def d__law_comes : He.DefD := ⟨("_law_comes", none), "_law_comes", "_law_comes", defArgs s__law_comes, defBody s__law_comes, defScope s__law_comes, [], []⟩
abbrev s__law_right : Stmt := top 32
def d__law_right : He.DefD := ⟨("_law_right", none), "_law_right", "_law_right", defArgs s__law_right, defBody s__law_right, defScope s__law_right, [], []⟩
abbrev s_law : Stmt := top 33
def d_law : He.DefD := ⟨("law", none), "law", "law", defArgs s_law, defBody s_law, defScope s_law, [], []⟩
def fn : List He.DefD := [d_is_integer, d_is_wheel, d_is_table, d_need_table, d_common, d_together, d_height_of, d_turned_by, d_cycle_of, d_enough_times, d_unlike_of, d_unlike_time, d_same_for_ever, d_returns_after, d_least_period, d__law_dice, d__law_roll, d__law_pick, d__law_refused, d__law_gcd, d__law_height, d__law_cycle, d__law_other, d__law_first, d__law_comes, d__law_right, d_law]
def fa : List He.Fa := ([.glo "is_integer", .glo "is_wheel", .glo "is_table", .glo "need_table", .glo "common", .glo "together", .glo "height_of", .glo "turned_by", .glo "cycle_of", .glo "enough_times", .glo "unlike_of", .glo "unlike_time", .glo "same_for_ever", .glo "returns_after", .glo "least_period", .glo "_law_dice", .glo "_law_roll", .glo "_law_pick", .glo "_law_refused", .glo "_law_gcd", .glo "_law_height", .glo "_law_cycle", .glo "_law_other"] : List He.Fa) ++ ([.glo "_law_first", .glo "_law_comes", .glo "_law_right", .glo "law", .glo "BadArgument", .free "len", .free "abs", .free "int", .free "bool", .free "max", .free "min", .free "sum", .free "list", .free "tuple", .free "sorted", .free "range", .free "zip", .free "isinstance", .free "all", .free "set", .free "super", .int "MOST_SIZE" 60, .int "MOST_HEIGHT" 1000000, .int "MOST_WHEELS" 6] : List He.Fa)
def tf : List (Str × Bool) := [("is_wheel", false), ("is_table", false), ("_law_right", true)]
def tfn : List He.Defn := tf.map fun p => (p.1, none)
def ex (K : PySem.W.Frag) : Bool := badB "/claim/cut.py" K && decide ((tfn.map fun p => (He.cT K p).2).Nodup)
abbrev R : PySem.W.OpenRow := PySem.W.OpenLaw.row PySem.Challenge.rw_tidemaker_k01_whole_for_ever
abbrev hk : PySem.W.Hook := hookZ 5 fa fn tfn ex
def ob (s : PySem.W.SharedT) : He.AlX := obsZ 5 fa fn tfn ex (HandSHeadRun.getT s)
theorem ob_eq (s : PySem.W.SharedT) : ob s = hk.obs s.abs := obsZ_eq (HandSHeadRun.getT_eq s)
def loose : List Str := (["BadArgument", "MOST_SIZE", "MOST_HEIGHT", "MOST_WHEELS", "is_integer", "is_wheel", "is_table", "need_table", "common", "together", "height_of", "turned_by", "cycle_of", "enough_times", "unlike_of", "unlike_time", "same_for_ever", "returns_after", "least_period", "_law_dice", "_law_roll", "_law_pick", "_law_refused", "_law_gcd", "_law_height", "_law_cycle", "_law_other", "_law_first", "_law_comes", "_law_right"] : List Str)
theorem run (w : World) : HandSHeadRun.RunEq R (PySem.W.view R.prog [33]) hk ob 8000 loose w := by
  intro os
  kernel_rfl
end L01
end
section
namespace DL
open PySem (Str Operator CmpOp)
open L2 (atI ixN)
variable {Sg : Tab}
/-- a shield: what it speaks of, a simplifier leaves alone -/
def Dm {β : Sort _} (_ : β) : Type := Unit
def dm {β : Sort _} (K : β) : Dm K := ()

def wForB (Sg : Tab) (t : Tg) (b : Ss) (N : Nd) (xs : List D) (st : DS) (_ : Dm (t, b, N, xs) := dm (t, b, N, xs)) : Prop := wFor t (fun N st => wpSs Sg b N st) N xs st
theorem fr_eq (t : Tg) (s : Src) (b : Ss) (N : Nd) (st : DS) : wpS Sg (.fr t s b) N st = wpI Sg s st fun xs st1 => wForB Sg t b N xs st1 := by
  rw [wpS]
  rfl
theorem for_ind {t : Tg} {b : Ss} {N : Nd} (I : List D → DS → Prop) (hs : ∀ x xs st, I (x :: xs) st → ∃ st1, putT t x st = some st1 ∧ ∀ nx : DS → Prop, (∀ st', I xs st' → nx st') → wpSs Sg b { N with nx := nx, bk := N.nx } st1) (h0 : ∀ st, I [] st → N.nx st) :
    ∀ {xs : List D} {st : DS}, I xs st → wForB Sg t b N xs st
  | [], st, h => h0 st h
  | x :: xs, st, h => by
    obtain ⟨st1, e, h1⟩ := hs x xs st h
    exact ⟨st1, e, h1 _ fun st' h' => for_ind I hs h0 h'⟩
def wWhlB (Sg : Tab) (c : E) (b : Ss) (N : Nd) (st : DS) (_ : Dm (c, b, N) := dm (c, b, N)) : Prop := wpS Sg (.whl c b) N st
theorem whl_eq (c : E) (b : Ss) (N : Nd) (st : DS) : wpS Sg (.whl c b) N st = wWhlB Sg c b N st := rfl
theorem whl_ind {c : E} {b : Ss} {N : Nd} (W : Nat → DS → Prop) (h : ∀ m st, W m st → wpE Sg c st fun x st1 => ∃ r, x.dat = .bl r ∧
      if r = true then wpSs Sg b { N with nx := fun st2 => ∃ m', m' < m ∧ W m' st2, bk := N.nx } st1 else N.nx st1) {m : Nat} {st : DS} (h0 : W m st) : wWhlB Sg c b N st := by
  unfold wWhlB
  rw [wpS]
  exact ⟨W, ⟨m, h0⟩, h⟩

def wCompB (Sg : Tab) (t : Tg) (c : Eo) (e : E) (xs acc : List D) (st : DS) (Q : List D → DS → Prop) (_ : Dm (t, c, e, xs, acc, Q) := dm (t, c, e, xs, acc, Q)) : Prop := wComp t (fun st Q => wpC Sg c st Q) (fun st Q => wpE Sg e st fun r st' => Q r.dat st') xs acc st Q
theorem comp_eq (t : Tg) (s : Src) (c : Eo) (e : E) (st : DS) (Q : Vl → DS → Prop) : wpE Sg (.comp t s c e) st Q = wpI Sg s st fun xs st1 => wCompB Sg t c e xs [] st1 fun acc st2 => Q (.own acc) (back t.slots st1 st2) := by
  rw [wpE]
  rfl
/-- a comprehension under an invariant: acc gathered, xs to come, st -/
theorem comp_ind {t : Tg} {c : Eo} {e : E} {Q : List D → DS → Prop} (I : List D → List D → DS → Prop)
    (hs : ∀ x xs acc st, I acc (x :: xs) st → ∃ st1, putT t x (hide t.slots st) = some st1 ∧ ∀ nx : Bool → D → DS → Prop, (∀ st', I acc xs st' → nx false .non st') → (∀ y st', acc.length < 100000 → I (acc ++ [y]) xs st' → nx true y st') → wpC Sg c st1 fun b st2 => if b = true then wpE Sg e st2 fun r st3 => acc.length < 100000 ∧ nx true r.dat st3 else nx false .non st2)
    (h0 : ∀ acc st, I acc [] st → Q acc st) : ∀ {xs acc : List D} {st : DS}, I acc xs st → wCompB Sg t c e xs acc st Q := by
  intro xs
  induction xs with
  | nil => exact fun {acc st} h => h0 acc st h
  | cons x xs ih =>
    intro acc st h
    obtain ⟨st1, e1, h1⟩ := hs x xs acc st h
    refine ⟨st1, e1, h1 (fun b y st' => if b = true then wCompB Sg t c e xs (acc ++ [y]) st' Q else wCompB Sg t c e xs acc st' Q) (fun st' h' => ?_) (fun y st' _ h' => ?_)⟩
    · exact ih h'
    · exact ih h'
def wAllB (Sg : Tab) (i : Nat) (e : E) (xs : List D) (st : DS) (Q : Bool → DS → Prop) (_ : Dm (e, xs, Q) := dm (e, xs, Q)) : Prop := wAll i (fun st Q => wpE Sg e st fun r st' => Q r.dat st') xs st Q
theorem allg_eq (i : Nat) (s : Src) (e : E) (st : DS) (Q : Vl → DS → Prop) : wpE Sg (.allg i s e) st Q = wpI Sg s st fun xs st1 => wAllB Sg i e xs st1 fun b st2 => Q (.d (.bl b)) (back [i] st1 st2) := by
  rw [wpE]
  rfl
/-- all(..): no state, the answers by p -/
theorem all_ind {i : Nat} {e : E} {Q : Bool → DS → Prop} (p : D → Bool) (I : DS → Prop) : ∀ {xs : List D} {st : DS}, (∀ x ∈ xs, ∀ st, I st → ∀ nx : D → DS → Prop, (∀ st', I st' → nx (.bl (p x)) st') → wpE Sg e ((hide [i] st).set i (.d x)) fun r st' => nx r.dat st') → I st → (∀ st', I st' → Q (xs.all p) st') → wAllB Sg i e xs st Q
  | [], st, _, h, k => k st h
  | x :: xs, st, hs, h, k => by
    show wpE Sg e ((hide [i] st).set i (.d x)) fun r st' => ∃ b, r.dat = .bl b ∧ if b = true then wAllB Sg i e xs st' Q else Q false st'
    refine hs x List.mem_cons_self st h (fun y st' => ∃ b, y = .bl b ∧ if b = true then wAllB Sg i e xs st' Q else Q false st') fun st' h' => ⟨p x, rfl, ?_⟩
    cases q : p x with
    | false =>
      rw [if_neg (by decide)]
      have := k st' h'
      rw [List.all_cons, q] at this
      exact this
    | true =>
      rw [if_pos rfl]
      refine all_ind p I (fun y hy => hs y (List.mem_cons_of_mem _ hy)) h' fun st2 h2 => ?_
      have := k st2 h2
      rw [List.all_cons, q] at this
      exact this

def whD (w : List Int) : D := .tup (w.map .int)
def tabD (T : List (List Int)) : D := .tup (T.map whD)
theorem D.int_inj {i j : Int} : D.int i = D.int j ↔ i = j := ⟨fun h => D.int.inj h, fun h => by rw [h]⟩
theorem map_int_inj : ∀ {a b : List Int}, a.map D.int = b.map D.int ↔ a = b
  | [], [] => by simp
  | [], _ :: _ => by simp
  | _ :: _, [] => by simp
  | x :: a, y :: b => by
    rw [List.map_cons, List.map_cons, List.cons.injEq, List.cons.injEq, D.int_inj, map_int_inj]
theorem whD_inj {a b : List Int} : whD a = whD b ↔ a = b := by
  unfold whD
  rw [D.tup.injEq, map_int_inj]
theorem tabD_inj : ∀ {a b : List (List Int)}, tabD a = tabD b ↔ a = b := by
  have key : ∀ {a b : List (List Int)}, a.map whD = b.map whD ↔ a = b := by
    intro a
    induction a with
    | nil => intro b; cases b <;> simp
    | cons x a ih =>
      intro b
      cases b with
      | nil => simp
      | cons y b => rw [List.map_cons, List.map_cons, List.cons.injEq, List.cons.injEq, whD_inj, ih]
  intro a b
  unfold tabD
  rw [D.tup.injEq, key]
theorem items_tab (T : List (List Int)) : (tabD T).items = some (T.map whD) := rfl
theorem items_wh (w : List Int) : (whD w).items = some (w.map .int) := rfl
theorem atI_get {α : Type} {xs : List α} {i : Int} {x : α} (h0 : 0 ≤ i) (h1 : xs[i.toNat]? = some x) : atI xs i = some x := by
  have hl := (List.getElem?_eq_some_iff.mp h1).1
  unfold atI ixN
  rw [if_pos h0, if_pos (by omega)]
  exact h1
end DL
end
section
namespace LC
open PySem DL
def b_is_integer : Ss := (.cons (.ret (.and (.isi "int" (.v 0)) (.no (.isi "bool" (.v 0))))) .nil)
def b_need_integer : Ss := (.cons (.iff (.or (.no (.call "is_integer" (.cons (.v 0) .nil))) (.or (.cmp .Lt (.v 0) (.v 2)) (.cmp .Gt (.v 0) (.v 3)))) (.cons (.rais (.v 1)) .nil) .nil) .nil)
def b_is_wheel : Ss := (.cons (.iff (.or (.no (.isi "tuple" (.v 0))) (.no (.chn .LtE .LtE (.k (.int 1)) (.lenv 0) (.k (.int 60))))) (.cons (.ret (.k (.bl false))) .nil) .nil) (.cons (.ret (.allg 1 (.it (.v 0)) (.and (.call "is_integer" (.cons (.v 1) .nil)) (.cmp .LtE (.bi .abs (.cons (.v 1) .nil)) (.k (.int 1000000)))))) .nil))
def b_is_table : Ss := (.cons (.ret (.and (.isi "tuple" (.v 0)) (.and (.cmp .LtE (.lenv 0) (.k (.int 6))) (.allg 1 (.it (.v 0)) (.call "is_wheel" (.cons (.v 1) .nil)))))) .nil)
def b_need_table : Ss := (.cons (.iff (.no (.call "is_table" (.cons (.v 0) .nil))) (.cons (.rais (.v 1)) .nil) .nil) .nil)
def b_common : Ss := (.cons (.whl (.cmp .Gt (.v 1) (.k (.int 0))) (.cons (.par [0, 1] (.cons (.v 1) (.cons (.bin .Mod (.v 0) (.v 1)) .nil))) .nil)) (.cons (.ret (.v 0)) .nil))
def b_together : Ss := (.cons (.ret (.bin .Mult (.bin .FloorDiv (.v 0) (.call "common" (.cons (.v 0) (.cons (.v 1) .nil)))) (.v 1))) .nil)
def b_height_of : Ss := (.cons (.ret (.bi .sum (.cons (.comp (.one 2) (.it (.v 0)) .no (.ixv 2 (.bin .Mod (.v 1) (.lenv 2)))) .nil))) .nil)
def b_cycle_of : Ss := (.cons (.asg 1 (.k (.int 1))) (.cons (.fr (.one 2) (.it (.v 0)) (.cons (.asg 1 (.call "together" (.cons (.v 1) (.cons (.lenv 2) .nil)))) .nil)) (.cons (.ret (.v 1)) .nil)))
def b_need_bar : Ss := (.cons (.ex "need_integer" (.cons (.v 0) (.cons (.v 1) (.cons (.bin .Sub (.k (.int 0)) (.k (.int 10000000))) (.cons (.k (.int 10000000)) .nil))))) .nil)
def b__law_dice : Ss := (.cons (.asg 2 (.ite (.cmp .Lt (.v 1) (.lenv 0)) (.ixv 0 (.v 1)) (.bin .Add (.bin .Mult (.k (.int 733)) (.v 1)) (.k (.int 29))))) (.cons (.asg 3 (.bin .Add (.k (.int 930011)) (.bin .Mult (.k (.int 7907)) (.v 1)))) (.cons (.fr (.one 4) (.it (.bin .Add (.sl (.v 0) .no (.yes (.k (.int 6)))) (.lst (.cons (.v 2) .nil)))) (.cons (.asg 3 (.bin .Mod (.bi .int (.cons (.bin .Add (.bin .Mult (.v 3) (.k (.int 48271))) (.bin .Mod (.bi .int (.cons (.v 4) .nil)) (.k (.int 2147480009)))) .nil)) (.k (.int 2147480009)))) .nil)) (.cons (.ret (.lst (.cons (.ite (.or (.cmp .Lt (.v 2) (.k (.int 0))) (.cmp .GtE (.v 2) (.bin .Pow (.k (.int 10)) (.k (.int 16))))) (.bi .abs (.cons (.v 2) .nil)) (.k (.int 0))) (.cons (.v 3) (.cons (.k (.int 0)) .nil))))) .nil))))
def b__law_roll : Ss := (.cons (.iff (.cmp .Gt (.ixv 0 (.k (.int 0))) (.k (.int 0))) (.cons (.asg 2 (.bin .Mod (.bi .int (.cons (.ixv 0 (.k (.int 0))) .nil)) (.v 1))) (.cons (.setv 0 (.k (.int 0)) (.bin .FloorDiv (.ixv 0 (.k (.int 0))) (.v 1))) (.cons (.ret (.v 2)) .nil))) .nil) (.cons (.setv 0 (.k (.int 2)) (.bin .Add (.ixv 0 (.k (.int 2))) (.k (.int 1)))) (.cons (.setv 0 (.k (.int 1)) (.bin .Mod (.bi .int (.cons (.bin .Add (.bin .Add (.bin .Mult (.ixv 0 (.k (.int 1))) (.k (.int 52501))) (.bin .Mult (.bin .Mult (.ixv 0 (.k (.int 2))) (.ixv 0 (.k (.int 2)))) (.k (.int 1009)))) (.k (.int 77))) .nil)) (.k (.int 2147480009)))) (.cons (.ret (.bin .Mod (.bi .int (.cons (.bin .FloorDiv (.ixv 0 (.k (.int 1))) (.k (.int 211))) .nil)) (.v 1))) .nil))))
def b__law_pick : Ss := (.cons (.ret (.ixv 1 (.call "_law_roll" (.cons (.v 0) (.cons (.lenv 1) .nil))))) .nil)
def b__law_gcd : Ss := (.cons (.par [0, 1] (.cons (.bi .abs (.cons (.v 0) .nil)) (.cons (.bi .abs (.cons (.v 1) .nil)) .nil))) (.cons (.fr (.one 2) (.r1 (.k (.int 400))) (.cons (.iff (.cmp .Eq (.v 1) (.k (.int 0))) (.cons .brk .nil) .nil) (.cons (.par [0, 1] (.cons (.v 1) (.cons (.bin .Mod (.v 0) (.v 1)) .nil))) .nil))) (.cons (.ret (.v 0)) .nil)))
def b__law_height : Ss := (.cons (.asg 2 (.k (.int 0))) (.cons (.fr (.one 3) (.it (.v 0)) (.cons (.asg 2 (.bin .Add (.v 2) (.ixv 3 (.bin .Mod (.v 1) (.lenv 3))))) .nil)) (.cons (.ret (.v 2)) .nil)))
def b__law_cycle : Ss := (.cons (.asg 1 (.k (.int 1))) (.cons (.fr (.one 2) (.it (.v 0)) (.cons (.asg 1 (.bin .FloorDiv (.bin .Mult (.v 1) (.lenv 2)) (.call "_law_gcd" (.cons (.v 1) (.cons (.lenv 2) .nil))))) .nil)) (.cons (.ret (.v 1)) .nil)))
end LC
end
section
namespace LC
open PySem (Str)
open L2 (atI ixN CMul CDivW CMulW CPow)
open DL
variable {Sg : Tab}
def isIntB : D → Bool
  | .int _ => true
  | _ => false
def inR (x : D) (lo hi : Int) : Bool := match x with
  | .int i => decide (lo ≤ i) && decide (i ≤ hi)
  | _ => false
def isHt (x : D) : Bool := inR x (-1000000) 1000000
def isWh : D → Bool
  | .tup xs => decide (1 ≤ xs.length) && (decide (xs.length ≤ 60) && xs.all isHt)
  | _ => false
def isTb : D → Bool
  | .tup xs => decide (xs.length ≤ 6) && xs.all isWh
  | _ => false
def sp_is_integer : Spec := fun ds c Q E => ∃ x, ds = [x] ∧ x.plain = true ∧ Q (.d (.bl (isIntB x))) c
def sp_need_integer : Spec := fun ds c Q E => ∃ x n lo hi, ds = [x, .str n, .int lo, .int hi] ∧ x.plain = true ∧ n.length ≤ 1000 ∧ if inR x lo hi = true then Q (.d .non) c else E n c
def sp_is_wheel : Spec := fun ds c Q E => ∃ x, ds = [x] ∧ x.plain = true ∧ Q (.d (.bl (isWh x))) c
def sp_is_table : Spec := fun ds c Q E => ∃ x, ds = [x] ∧ x.plain = true ∧ Q (.d (.bl (isTb x))) c
def sp_need_table : Spec := fun ds c Q E => ∃ x n, ds = [x, .str n] ∧ x.plain = true ∧ n.length ≤ 1000 ∧ if isTb x = true then Q (.d .non) c else E n c
def sp_common : Spec := fun ds c Q E => ∃ a b : Nat, ds = [.int a, .int b] ∧ Q (.d (.int (Nat.gcd a b : Nat))) c
def sp_together : Spec := fun ds c Q E => ∃ a b : Nat, ds = [.int a, .int b] ∧ 0 < b ∧ b ≤ 1000 ∧ Q (.d (.int (Nat.lcm a b : Nat))) c
def hgt (T : List (List Int)) (t : Int) : Int := (T.map fun w => w.getD (t % w.length).toNat 0).sum
def cyc (T : List (List Int)) : Nat := T.foldl (fun n w => Nat.lcm n w.length) 1
def TOk (T : List (List Int)) : Prop := T.length ≤ 1000 ∧ ∀ w ∈ T, 0 < w.length ∧ w.length ≤ 1000
def sp_height_of : Spec := fun ds c Q E => ∃ T t, ds = [tabD T, .int t] ∧ TOk T ∧ Q (.d (.int (hgt T t))) c
def sp_cycle_of : Spec := fun ds c Q E => ∃ T, ds = [tabD T] ∧ TOk T ∧ Q (.d (.int (cyc T : Nat))) c
theorem st1 : (Str.ofString "bool" = Str.ofString "int") = False := eq_false (by decide +kernel)
theorem st2 : (Str.ofString "int" = Str.ofString "bool") = False := eq_false (by decide +kernel)
theorem st3 : (Str.ofString "tuple" = Str.ofString "int") = False := eq_false (by decide +kernel)
theorem st4 : (Str.ofString "int" = Str.ofString "tuple") = False := eq_false (by decide +kernel)
theorem st5 : (Str.ofString "tuple" = Str.ofString "bool") = False := eq_false (by decide +kernel)
theorem st6 : (Str.ofString "bool" = Str.ofString "tuple") = False := eq_false (by decide +kernel)
theorem k_is_integer : Keeps Sg 1 b_is_integer sp_is_integer := by
  rintro ds c Q E ⟨x, rfl, hp, hq⟩
  unfold b_is_integer
  cases x <;> simp [wpSs, wpEs, wpVs, wpO, wpC, wpI, wpE.eq_1, wpE.eq_2, wpE.eq_3, wpE.eq_4, wpE.eq_5, wpE.eq_6, wpE.eq_7, wpE.eq_8, wpE.eq_9, wpE.eq_10, wpE.eq_11, wpE.eq_12, wpE.eq_13, wpE.eq_14, wpE.eq_15, wpE.eq_16, wpE.eq_17, wpE.eq_18, wpE.eq_19, wpE.eq_20, wpE.eq_21, wpE.eq_22, wpE.eq_23, wpE.eq_24, wpE.eq_25, wpE.eq_26, wpE.eq_27, wpE.eq_28, wpE.eq_31, wpE.eq_32, wpE.eq_33, wpE.eq_34, comp_eq, allg_eq, wpS.eq_1, wpS.eq_2, wpS.eq_3, wpS.eq_4, wpS.eq_5, wpS.eq_6, wpS.eq_7, wpS.eq_8, wpS.eq_9, wpS.eq_10, wpS.eq_11, wpS.eq_14, wpS.eq_15, wpS.eq_16, wpS.eq_17, wpS.eq_18, whl_eq, fr_eq, getV, Vl.dat, Vl.sl, DS.set, setAll, putT, putAt, binD, cmpD, biD, hide, back, gone, Tg.slots, Sl.isSet, hp, D.isA, isIntB, LC.st1, LC.st2, LC.st3, LC.st4, LC.st5, LC.st6] at hq ⊢ <;> exact hq
theorem k_need_integer (h1 : Sg "is_integer" = sp_is_integer) : Keeps Sg 4 b_need_integer sp_need_integer := by
  rintro ds c Q E ⟨x, n, lo, hi, rfl, hp, hn, hq⟩
  unfold b_need_integer
  simp [wpSs, wpEs, wpVs, wpO, wpC, wpI, wpE.eq_1, wpE.eq_2, wpE.eq_3, wpE.eq_4, wpE.eq_5, wpE.eq_6, wpE.eq_7, wpE.eq_8, wpE.eq_9, wpE.eq_10, wpE.eq_11, wpE.eq_12, wpE.eq_13, wpE.eq_14, wpE.eq_15, wpE.eq_16, wpE.eq_17, wpE.eq_18, wpE.eq_19, wpE.eq_20, wpE.eq_21, wpE.eq_22, wpE.eq_23, wpE.eq_24, wpE.eq_25, wpE.eq_26, wpE.eq_27, wpE.eq_28, wpE.eq_31, wpE.eq_32, wpE.eq_33, wpE.eq_34, comp_eq, allg_eq, wpS.eq_1, wpS.eq_2, wpS.eq_3, wpS.eq_4, wpS.eq_5, wpS.eq_6, wpS.eq_7, wpS.eq_8, wpS.eq_9, wpS.eq_10, wpS.eq_11, wpS.eq_14, wpS.eq_15, wpS.eq_16, wpS.eq_17, wpS.eq_18, whl_eq, fr_eq, getV, Vl.dat, Vl.sl, DS.set, setAll, putT, putAt, binD, cmpD, biD, hide, back, gone, Tg.slots, Sl.isSet, h1, sp_is_integer, hp]
  cases x with
  | int i =>
    simp [isIntB, inR] at hq ⊢
    by_cases h : i < lo
    · simp [h, Int.not_le.mpr h] at hq ⊢
      exact ⟨hn, hq⟩
    · by_cases h' : hi < i
      · simp [h, h', Int.not_lt.mp h, Int.not_le.mpr h'] at hq ⊢
        exact ⟨hn, hq⟩
      · simp [h, h', Int.not_lt.mp h, Int.not_lt.mp h'] at hq ⊢
        exact hq
  | _ =>
    simp [isIntB, inR] at hq ⊢
    exact ⟨hn, hq⟩
theorem plain_mem : ∀ {xs : List D}, D.plains xs = true → ∀ x ∈ xs, x.plain = true
  | [], _, x, h => nomatch h
  | y :: ys, h, x, hx => by
    have h2 : (y.plain && D.plains ys) = true := h
    rw [Bool.and_eq_true] at h2
    rcases List.mem_cons.mp hx with rfl | hx
    · exact h2.1
    · exact plain_mem h2.2 x hx
theorem abs_le (i : Int) : decide ((if i < 0 then -i else i) ≤ 1000000) = isHt (.int i) := by
  unfold isHt inR
  by_cases h : i < 0
  · rw [if_pos h]
    by_cases h2 : -i ≤ 1000000
    · have : (-1000000 : Int) ≤ i := by omega
      have : i ≤ (1000000 : Int) := by omega
      simp [*]
    · have : ¬ (-1000000 : Int) ≤ i := by omega
      simp [*]
  · rw [if_neg h]
    by_cases h2 : i ≤ 1000000
    · have : (-1000000 : Int) ≤ i := by omega
      simp [*]
    · simp [h2]
theorem k_is_wheel (h1 : Sg "is_integer" = sp_is_integer) : Keeps Sg 2 b_is_wheel sp_is_wheel := by
  rintro ds c Q E ⟨x, rfl, hp, hq⟩
  unfold b_is_wheel
  cases x with
  | tup xs =>
    have hp2 : D.plains xs = true := hp
    unfold isWh at hq
    by_cases h1' : 1 ≤ xs.length
    · by_cases h2 : xs.length ≤ 60
      · have e : (1 : Int) ≤ (xs.length : Int) := by omega
        have e2 : (xs.length : Int) ≤ 60 := by omega
        simp [wpSs, wpEs, wpVs, wpO, wpC, wpI, wpE.eq_1, wpE.eq_2, wpE.eq_3, wpE.eq_4, wpE.eq_5, wpE.eq_6, wpE.eq_7, wpE.eq_8, wpE.eq_9, wpE.eq_10, wpE.eq_11, wpE.eq_12, wpE.eq_13, wpE.eq_14, wpE.eq_15, wpE.eq_16, wpE.eq_17, wpE.eq_18, wpE.eq_19, wpE.eq_20, wpE.eq_21, wpE.eq_22, wpE.eq_23, wpE.eq_24, wpE.eq_25, wpE.eq_26, wpE.eq_27, wpE.eq_28, wpE.eq_31, wpE.eq_32, wpE.eq_33, wpE.eq_34, comp_eq, allg_eq, wpS.eq_1, wpS.eq_2, wpS.eq_3, wpS.eq_4, wpS.eq_5, wpS.eq_6, wpS.eq_7, wpS.eq_8, wpS.eq_9, wpS.eq_10, wpS.eq_11, wpS.eq_14, wpS.eq_15, wpS.eq_16, wpS.eq_17, wpS.eq_18, whl_eq, fr_eq, getV, Vl.dat, Vl.sl, DS.set, setAll, putT, putAt, binD, cmpD, biD, hide, back, gone, Tg.slots, Sl.isSet, hp, D.isA, D.items, e, e2, h1', h2, Int.not_lt.mpr e2] at hq ⊢
        refine all_ind isHt (fun st => ∃ s, st = ⟨[.d (.tup xs), s], c⟩) (fun y hy st hI nx hn => ?_) ⟨_, rfl⟩ fun st' ⟨s, e⟩ => ?_
        · obtain ⟨s, rfl⟩ := hI
          have hy2 := plain_mem hp2 y hy
          simp [wpSs, wpEs, wpVs, wpO, wpC, wpI, wpE.eq_1, wpE.eq_2, wpE.eq_3, wpE.eq_4, wpE.eq_5, wpE.eq_6, wpE.eq_7, wpE.eq_8, wpE.eq_9, wpE.eq_10, wpE.eq_11, wpE.eq_12, wpE.eq_13, wpE.eq_14, wpE.eq_15, wpE.eq_16, wpE.eq_17, wpE.eq_18, wpE.eq_19, wpE.eq_20, wpE.eq_21, wpE.eq_22, wpE.eq_23, wpE.eq_24, wpE.eq_25, wpE.eq_26, wpE.eq_27, wpE.eq_28, wpE.eq_31, wpE.eq_32, wpE.eq_33, wpE.eq_34, comp_eq, allg_eq, wpS.eq_1, wpS.eq_2, wpS.eq_3, wpS.eq_4, wpS.eq_5, wpS.eq_6, wpS.eq_7, wpS.eq_8, wpS.eq_9, wpS.eq_10, wpS.eq_11, wpS.eq_14, wpS.eq_15, wpS.eq_16, wpS.eq_17, wpS.eq_18, whl_eq, fr_eq, getV, Vl.dat, Vl.sl, DS.set, setAll, putT, putAt, binD, cmpD, biD, hide, back, gone, Tg.slots, Sl.isSet, h1, sp_is_integer, hy2]
          cases y with
          | int i =>
            simp [isIntB, abs_le]
            exact hn _ ⟨_, rfl⟩
          | _ =>
            simp [isIntB]
            exact hn _ ⟨_, rfl⟩
        · subst e
          exact hq
      · have e2 : ¬ (xs.length : Int) ≤ 60 := by omega
        have e : (1 : Int) ≤ (xs.length : Int) := by omega
        simp [wpSs, wpEs, wpVs, wpO, wpC, wpI, wpE.eq_1, wpE.eq_2, wpE.eq_3, wpE.eq_4, wpE.eq_5, wpE.eq_6, wpE.eq_7, wpE.eq_8, wpE.eq_9, wpE.eq_10, wpE.eq_11, wpE.eq_12, wpE.eq_13, wpE.eq_14, wpE.eq_15, wpE.eq_16, wpE.eq_17, wpE.eq_18, wpE.eq_19, wpE.eq_20, wpE.eq_21, wpE.eq_22, wpE.eq_23, wpE.eq_24, wpE.eq_25, wpE.eq_26, wpE.eq_27, wpE.eq_28, wpE.eq_31, wpE.eq_32, wpE.eq_33, wpE.eq_34, comp_eq, allg_eq, wpS.eq_1, wpS.eq_2, wpS.eq_3, wpS.eq_4, wpS.eq_5, wpS.eq_6, wpS.eq_7, wpS.eq_8, wpS.eq_9, wpS.eq_10, wpS.eq_11, wpS.eq_14, wpS.eq_15, wpS.eq_16, wpS.eq_17, wpS.eq_18, whl_eq, fr_eq, getV, Vl.dat, Vl.sl, DS.set, setAll, putT, putAt, binD, cmpD, biD, hide, back, gone, Tg.slots, Sl.isSet, hp, D.isA, D.items, e, e2, h2, Int.not_le.mp e2] at hq ⊢
        exact hq
    · have e : ¬ (1 : Int) ≤ (xs.length : Int) := by omega
      have e3 : xs = [] := by
        cases xs with
        | nil => rfl
        | cons a l => simp at h1'
      subst e3
      simp [wpSs, wpEs, wpVs, wpO, wpC, wpI, wpE.eq_1, wpE.eq_2, wpE.eq_3, wpE.eq_4, wpE.eq_5, wpE.eq_6, wpE.eq_7, wpE.eq_8, wpE.eq_9, wpE.eq_10, wpE.eq_11, wpE.eq_12, wpE.eq_13, wpE.eq_14, wpE.eq_15, wpE.eq_16, wpE.eq_17, wpE.eq_18, wpE.eq_19, wpE.eq_20, wpE.eq_21, wpE.eq_22, wpE.eq_23, wpE.eq_24, wpE.eq_25, wpE.eq_26, wpE.eq_27, wpE.eq_28, wpE.eq_31, wpE.eq_32, wpE.eq_33, wpE.eq_34, comp_eq, allg_eq, wpS.eq_1, wpS.eq_2, wpS.eq_3, wpS.eq_4, wpS.eq_5, wpS.eq_6, wpS.eq_7, wpS.eq_8, wpS.eq_9, wpS.eq_10, wpS.eq_11, wpS.eq_14, wpS.eq_15, wpS.eq_16, wpS.eq_17, wpS.eq_18, whl_eq, fr_eq, getV, Vl.dat, Vl.sl, DS.set, setAll, putT, putAt, binD, cmpD, biD, hide, back, gone, Tg.slots, Sl.isSet, hp, D.isA, D.items] at hq ⊢
      exact hq
  | _ =>
    simp [wpSs, wpEs, wpVs, wpO, wpC, wpI, wpE.eq_1, wpE.eq_2, wpE.eq_3, wpE.eq_4, wpE.eq_5, wpE.eq_6, wpE.eq_7, wpE.eq_8, wpE.eq_9, wpE.eq_10, wpE.eq_11, wpE.eq_12, wpE.eq_13, wpE.eq_14, wpE.eq_15, wpE.eq_16, wpE.eq_17, wpE.eq_18, wpE.eq_19, wpE.eq_20, wpE.eq_21, wpE.eq_22, wpE.eq_23, wpE.eq_24, wpE.eq_25, wpE.eq_26, wpE.eq_27, wpE.eq_28, wpE.eq_31, wpE.eq_32, wpE.eq_33, wpE.eq_34, comp_eq, allg_eq, wpS.eq_1, wpS.eq_2, wpS.eq_3, wpS.eq_4, wpS.eq_5, wpS.eq_6, wpS.eq_7, wpS.eq_8, wpS.eq_9, wpS.eq_10, wpS.eq_11, wpS.eq_14, wpS.eq_15, wpS.eq_16, wpS.eq_17, wpS.eq_18, whl_eq, fr_eq, getV, Vl.dat, Vl.sl, DS.set, setAll, putT, putAt, binD, cmpD, biD, hide, back, gone, Tg.slots, Sl.isSet, hp, D.isA, isWh, LC.st1, LC.st2, LC.st3, LC.st4, LC.st5, LC.st6] at hq ⊢
    exact hq
theorem k_is_table (h1 : Sg "is_wheel" = sp_is_wheel) : Keeps Sg 2 b_is_table sp_is_table := by
  rintro ds c Q E ⟨x, rfl, hp, hq⟩
  unfold b_is_table
  cases x with
  | tup xs =>
    have hp2 : D.plains xs = true := hp
    unfold isTb at hq
    by_cases h2 : xs.length ≤ 6
    · have e2 : (xs.length : Int) ≤ 6 := by omega
      simp [wpSs, wpEs, wpVs, wpO, wpC, wpI, wpE.eq_1, wpE.eq_2, wpE.eq_3, wpE.eq_4, wpE.eq_5, wpE.eq_6, wpE.eq_7, wpE.eq_8, wpE.eq_9, wpE.eq_10, wpE.eq_11, wpE.eq_12, wpE.eq_13, wpE.eq_14, wpE.eq_15, wpE.eq_16, wpE.eq_17, wpE.eq_18, wpE.eq_19, wpE.eq_20, wpE.eq_21, wpE.eq_22, wpE.eq_23, wpE.eq_24, wpE.eq_25, wpE.eq_26, wpE.eq_27, wpE.eq_28, wpE.eq_31, wpE.eq_32, wpE.eq_33, wpE.eq_34, comp_eq, allg_eq, wpS.eq_1, wpS.eq_2, wpS.eq_3, wpS.eq_4, wpS.eq_5, wpS.eq_6, wpS.eq_7, wpS.eq_8, wpS.eq_9, wpS.eq_10, wpS.eq_11, wpS.eq_14, wpS.eq_15, wpS.eq_16, wpS.eq_17, wpS.eq_18, whl_eq, fr_eq, getV, Vl.dat, Vl.sl, DS.set, setAll, putT, putAt, binD, cmpD, biD, hide, back, gone, Tg.slots, Sl.isSet, hp, D.isA, D.items, e2, h2, Int.not_lt.mpr e2] at hq ⊢
      refine all_ind isWh (fun st => ∃ s, st = ⟨[.d (.tup xs), s], c⟩) (fun y hy st hI nx hn => ?_) ⟨_, rfl⟩ fun st' ⟨s, e⟩ => ?_
      · obtain ⟨s, rfl⟩ := hI
        have hy2 := plain_mem hp2 y hy
        simp [wpSs, wpEs, wpVs, wpO, wpC, wpI, wpE.eq_1, wpE.eq_2, wpE.eq_3, wpE.eq_4, wpE.eq_5, wpE.eq_6, wpE.eq_7, wpE.eq_8, wpE.eq_9, wpE.eq_10, wpE.eq_11, wpE.eq_12, wpE.eq_13, wpE.eq_14, wpE.eq_15, wpE.eq_16, wpE.eq_17, wpE.eq_18, wpE.eq_19, wpE.eq_20, wpE.eq_21, wpE.eq_22, wpE.eq_23, wpE.eq_24, wpE.eq_25, wpE.eq_26, wpE.eq_27, wpE.eq_28, wpE.eq_31, wpE.eq_32, wpE.eq_33, wpE.eq_34, comp_eq, allg_eq, wpS.eq_1, wpS.eq_2, wpS.eq_3, wpS.eq_4, wpS.eq_5, wpS.eq_6, wpS.eq_7, wpS.eq_8, wpS.eq_9, wpS.eq_10, wpS.eq_11, wpS.eq_14, wpS.eq_15, wpS.eq_16, wpS.eq_17, wpS.eq_18, whl_eq, fr_eq, getV, Vl.dat, Vl.sl, DS.set, setAll, putT, putAt, binD, cmpD, biD, hide, back, gone, Tg.slots, Sl.isSet, h1, sp_is_wheel, hy2]
        exact hn _ ⟨_, rfl⟩
      · subst e
        exact hq
    · have e2 : ¬ (xs.length : Int) ≤ 6 := by omega
      simp [wpSs, wpEs, wpVs, wpO, wpC, wpI, wpE.eq_1, wpE.eq_2, wpE.eq_3, wpE.eq_4, wpE.eq_5, wpE.eq_6, wpE.eq_7, wpE.eq_8, wpE.eq_9, wpE.eq_10, wpE.eq_11, wpE.eq_12, wpE.eq_13, wpE.eq_14, wpE.eq_15, wpE.eq_16, wpE.eq_17, wpE.eq_18, wpE.eq_19, wpE.eq_20, wpE.eq_21, wpE.eq_22, wpE.eq_23, wpE.eq_24, wpE.eq_25, wpE.eq_26, wpE.eq_27, wpE.eq_28, wpE.eq_31, wpE.eq_32, wpE.eq_33, wpE.eq_34, comp_eq, allg_eq, wpS.eq_1, wpS.eq_2, wpS.eq_3, wpS.eq_4, wpS.eq_5, wpS.eq_6, wpS.eq_7, wpS.eq_8, wpS.eq_9, wpS.eq_10, wpS.eq_11, wpS.eq_14, wpS.eq_15, wpS.eq_16, wpS.eq_17, wpS.eq_18, whl_eq, fr_eq, getV, Vl.dat, Vl.sl, DS.set, setAll, putT, putAt, binD, cmpD, biD, hide, back, gone, Tg.slots, Sl.isSet, hp, D.isA, D.items, e2, h2, Int.not_le.mp e2] at hq ⊢
      exact hq
  | _ =>
    simp [wpSs, wpEs, wpVs, wpO, wpC, wpI, wpE.eq_1, wpE.eq_2, wpE.eq_3, wpE.eq_4, wpE.eq_5, wpE.eq_6, wpE.eq_7, wpE.eq_8, wpE.eq_9, wpE.eq_10, wpE.eq_11, wpE.eq_12, wpE.eq_13, wpE.eq_14, wpE.eq_15, wpE.eq_16, wpE.eq_17, wpE.eq_18, wpE.eq_19, wpE.eq_20, wpE.eq_21, wpE.eq_22, wpE.eq_23, wpE.eq_24, wpE.eq_25, wpE.eq_26, wpE.eq_27, wpE.eq_28, wpE.eq_31, wpE.eq_32, wpE.eq_33, wpE.eq_34, comp_eq, allg_eq, wpS.eq_1, wpS.eq_2, wpS.eq_3, wpS.eq_4, wpS.eq_5, wpS.eq_6, wpS.eq_7, wpS.eq_8, wpS.eq_9, wpS.eq_10, wpS.eq_11, wpS.eq_14, wpS.eq_15, wpS.eq_16, wpS.eq_17, wpS.eq_18, whl_eq, fr_eq, getV, Vl.dat, Vl.sl, DS.set, setAll, putT, putAt, binD, cmpD, biD, hide, back, gone, Tg.slots, Sl.isSet, hp, D.isA, isTb, LC.st1, LC.st2, LC.st3, LC.st4, LC.st5, LC.st6] at hq ⊢
    exact hq
theorem k_need_table (h1 : Sg "is_table" = sp_is_table) : Keeps Sg 2 b_need_table sp_need_table := by
  rintro ds c Q E ⟨x, n, rfl, hp, hn, hq⟩
  unfold b_need_table
  simp [wpSs, wpEs, wpVs, wpO, wpC, wpI, wpE.eq_1, wpE.eq_2, wpE.eq_3, wpE.eq_4, wpE.eq_5, wpE.eq_6, wpE.eq_7, wpE.eq_8, wpE.eq_9, wpE.eq_10, wpE.eq_11, wpE.eq_12, wpE.eq_13, wpE.eq_14, wpE.eq_15, wpE.eq_16, wpE.eq_17, wpE.eq_18, wpE.eq_19, wpE.eq_20, wpE.eq_21, wpE.eq_22, wpE.eq_23, wpE.eq_24, wpE.eq_25, wpE.eq_26, wpE.eq_27, wpE.eq_28, wpE.eq_31, wpE.eq_32, wpE.eq_33, wpE.eq_34, comp_eq, allg_eq, wpS.eq_1, wpS.eq_2, wpS.eq_3, wpS.eq_4, wpS.eq_5, wpS.eq_6, wpS.eq_7, wpS.eq_8, wpS.eq_9, wpS.eq_10, wpS.eq_11, wpS.eq_14, wpS.eq_15, wpS.eq_16, wpS.eq_17, wpS.eq_18, whl_eq, fr_eq, getV, Vl.dat, Vl.sl, DS.set, setAll, putT, putAt, binD, cmpD, biD, hide, back, gone, Tg.slots, Sl.isSet, h1, sp_is_table, hp]
  cases e : isTb x with
  | true => simp [e] at hq ⊢; exact hq
  | false => simp [e] at hq ⊢; exact ⟨hn, hq⟩
theorem k_common : Keeps Sg 2 b_common sp_common := by
  rintro ds c Q E ⟨a, b, rfl, hq⟩
  unfold b_common
  simp [wpSs, wpEs, wpVs, wpO, wpC, wpI, wpE.eq_1, wpE.eq_2, wpE.eq_3, wpE.eq_4, wpE.eq_5, wpE.eq_6, wpE.eq_7, wpE.eq_8, wpE.eq_9, wpE.eq_10, wpE.eq_11, wpE.eq_12, wpE.eq_13, wpE.eq_14, wpE.eq_15, wpE.eq_16, wpE.eq_17, wpE.eq_18, wpE.eq_19, wpE.eq_20, wpE.eq_21, wpE.eq_22, wpE.eq_23, wpE.eq_24, wpE.eq_25, wpE.eq_26, wpE.eq_27, wpE.eq_28, wpE.eq_31, wpE.eq_32, wpE.eq_33, wpE.eq_34, comp_eq, allg_eq, wpS.eq_1, wpS.eq_2, wpS.eq_3, wpS.eq_4, wpS.eq_5, wpS.eq_6, wpS.eq_7, wpS.eq_8, wpS.eq_9, wpS.eq_10, wpS.eq_11, wpS.eq_14, wpS.eq_15, wpS.eq_16, wpS.eq_17, wpS.eq_18, whl_eq, fr_eq, getV, Vl.dat, Vl.sl, DS.set, setAll, putT, putAt, binD, cmpD, biD, hide, back, gone, Tg.slots, Sl.isSet]
  refine whl_ind (fun m st => ∃ x y : Nat, st = ⟨[.d (.int x), .d (.int y)], c⟩ ∧ Nat.gcd x y = Nat.gcd a b ∧ m = y) (fun m st hW => ?_) (m := b) ⟨a, b, rfl, rfl, rfl⟩
  obtain ⟨x, y, rfl, hg, rfl⟩ := hW
  by_cases hy : 0 < m
  · have hy0 : m ≠ 0 := by omega
    simp [wpSs, wpEs, wpVs, wpO, wpC, wpI, wpE.eq_1, wpE.eq_2, wpE.eq_3, wpE.eq_4, wpE.eq_5, wpE.eq_6, wpE.eq_7, wpE.eq_8, wpE.eq_9, wpE.eq_10, wpE.eq_11, wpE.eq_12, wpE.eq_13, wpE.eq_14, wpE.eq_15, wpE.eq_16, wpE.eq_17, wpE.eq_18, wpE.eq_19, wpE.eq_20, wpE.eq_21, wpE.eq_22, wpE.eq_23, wpE.eq_24, wpE.eq_25, wpE.eq_26, wpE.eq_27, wpE.eq_28, wpE.eq_31, wpE.eq_32, wpE.eq_33, wpE.eq_34, comp_eq, allg_eq, wpS.eq_1, wpS.eq_2, wpS.eq_3, wpS.eq_4, wpS.eq_5, wpS.eq_6, wpS.eq_7, wpS.eq_8, wpS.eq_9, wpS.eq_10, wpS.eq_11, wpS.eq_14, wpS.eq_15, wpS.eq_16, wpS.eq_17, wpS.eq_18, whl_eq, fr_eq, getV, Vl.dat, Vl.sl, DS.set, setAll, putT, putAt, binD, cmpD, biD, hide, back, gone, Tg.slots, Sl.isSet, hy, hy0]
    refine ⟨x % m, Nat.mod_lt _ hy, m, ⟨rfl, rfl⟩, ?_⟩
    rw [← hg, Nat.gcd_comm x m]
    exact (Nat.gcd_rec m x).symm ▸ Nat.gcd_comm _ _
  · have e : m = 0 := by omega
    subst e
    simp [wpSs, wpEs, wpVs, wpO, wpC, wpI, wpE.eq_1, wpE.eq_2, wpE.eq_3, wpE.eq_4, wpE.eq_5, wpE.eq_6, wpE.eq_7, wpE.eq_8, wpE.eq_9, wpE.eq_10, wpE.eq_11, wpE.eq_12, wpE.eq_13, wpE.eq_14, wpE.eq_15, wpE.eq_16, wpE.eq_17, wpE.eq_18, wpE.eq_19, wpE.eq_20, wpE.eq_21, wpE.eq_22, wpE.eq_23, wpE.eq_24, wpE.eq_25, wpE.eq_26, wpE.eq_27, wpE.eq_28, wpE.eq_31, wpE.eq_32, wpE.eq_33, wpE.eq_34, comp_eq, allg_eq, wpS.eq_1, wpS.eq_2, wpS.eq_3, wpS.eq_4, wpS.eq_5, wpS.eq_6, wpS.eq_7, wpS.eq_8, wpS.eq_9, wpS.eq_10, wpS.eq_11, wpS.eq_14, wpS.eq_15, wpS.eq_16, wpS.eq_17, wpS.eq_18, whl_eq, fr_eq, getV, Vl.dat, Vl.sl, DS.set, setAll, putT, putAt, binD, cmpD, biD, hide, back, gone, Tg.slots, Sl.isSet] at hg ⊢
    rw [hg]
    exact hq
theorem k_together (h1 : Sg "common" = sp_common) : Keeps Sg 2 b_together sp_together := by
  rintro ds c Q E ⟨a, b, rfl, hb, hb2, hq⟩
  unfold b_together
  have hg0 : 0 < Nat.gcd a b := Nat.gcd_pos_of_pos_right a hb
  have hg1 : Nat.gcd a b ≤ b := Nat.le_of_dvd hb (Nat.gcd_dvd_right a b)
  have hlog : (Nat.gcd a b).log2 < 9000 := by
    have h2 : (Nat.gcd a b).log2 ≤ 1000 := by
      refine Nat.le_of_lt_succ ((Nat.log2_lt (by omega)).mpr ?_)
      exact Nat.lt_of_le_of_lt (Nat.le_trans hg1 hb2) (by decide +kernel)
    omega
  have hm : CMul ((a : Int) / (Nat.gcd a b : Nat)) (b : Int) := .inr ⟨by omega, by omega⟩
  have hv : ((a : Int) / (Nat.gcd a b : Nat)) * (b : Int) = (Nat.lcm a b : Nat) := by
    have h3 : Nat.lcm a b = a / Nat.gcd a b * b := by
      rw [Nat.lcm, Nat.div_mul_right_comm (Nat.gcd_dvd_left a b)]
    rw [h3]
    simp
  have hd : CDivW (a : Int) (Nat.gcd a b : Nat) := ⟨by omega, by simpa using hlog⟩
  simp only [wpSs, wpEs, wpVs, wpO, wpC, wpI, wpE.eq_1, wpE.eq_2, wpE.eq_3, wpE.eq_4, wpE.eq_5, wpE.eq_6, wpE.eq_7, wpE.eq_8, wpE.eq_9, wpE.eq_10, wpE.eq_11, wpE.eq_12, wpE.eq_13, wpE.eq_14, wpE.eq_15, wpE.eq_16, wpE.eq_17, wpE.eq_18, wpE.eq_19, wpE.eq_20, wpE.eq_21, wpE.eq_22, wpE.eq_23, wpE.eq_24, wpE.eq_25, wpE.eq_26, wpE.eq_27, wpE.eq_28, wpE.eq_31, wpE.eq_32, wpE.eq_33, wpE.eq_34, comp_eq, allg_eq, wpS.eq_1, wpS.eq_2, wpS.eq_3, wpS.eq_4, wpS.eq_5, wpS.eq_6, wpS.eq_7, wpS.eq_8, wpS.eq_9, wpS.eq_10, wpS.eq_11, wpS.eq_14, wpS.eq_15, wpS.eq_16, wpS.eq_17, wpS.eq_18, whl_eq, fr_eq, getV, Vl.dat, Vl.sl, DS.set, setAll, putT, putAt, binD, cmpD, biD, hide, back, gone, Tg.slots, Sl.isSet, h1, sp_common, List.map_cons, List.map_nil, List.length_cons, List.length_nil, List.cons_append, List.nil_append, List.getElem?_cons_zero, List.getElem?_cons_succ, List.replicate]
  exact ⟨a, b, rfl, hd, .inl hm, by rw [hv]; exact hq⟩

theorem TOk.head {w : List Int} {T : List (List Int)} (h : TOk (w :: T)) : 0 < w.length ∧ w.length ≤ 1000 := h.2 w List.mem_cons_self
theorem k_height_of : Keeps Sg 3 b_height_of sp_height_of := by
  rintro ds c Q E ⟨T, t, rfl, hT, hq⟩
  unfold b_height_of
  simp [wpSs, wpEs, wpVs, wpO, wpC, wpI, wpE.eq_1, wpE.eq_2, wpE.eq_3, wpE.eq_4, wpE.eq_5, wpE.eq_6, wpE.eq_7, wpE.eq_8, wpE.eq_9, wpE.eq_10, wpE.eq_11, wpE.eq_12, wpE.eq_13, wpE.eq_14, wpE.eq_15, wpE.eq_16, wpE.eq_17, wpE.eq_18, wpE.eq_19, wpE.eq_20, wpE.eq_21, wpE.eq_22, wpE.eq_23, wpE.eq_24, wpE.eq_25, wpE.eq_26, wpE.eq_27, wpE.eq_28, wpE.eq_31, wpE.eq_32, wpE.eq_33, wpE.eq_34, comp_eq, allg_eq, wpS.eq_1, wpS.eq_2, wpS.eq_3, wpS.eq_4, wpS.eq_5, wpS.eq_6, wpS.eq_7, wpS.eq_8, wpS.eq_9, wpS.eq_10, wpS.eq_11, wpS.eq_14, wpS.eq_15, wpS.eq_16, wpS.eq_17, wpS.eq_18, whl_eq, fr_eq, getV, Vl.dat, Vl.sl, DS.set, setAll, putT, putAt, binD, cmpD, biD, hide, back, gone, Tg.slots, Sl.isSet, items_tab]
  refine comp_ind (fun acc xs st => ∃ (U V : List (List Int)) (s : Sl), T = U ++ V ∧ xs = V.map whD ∧ acc = (U.map fun w => D.int (w.getD (t % w.length).toNat 0)) ∧ st = ⟨[.d (tabD T), .d (.int t), s], c⟩) (fun x xs acc st hI => ?_) (fun acc st hI => ?_) ⟨[], T, _, rfl, rfl, rfl, rfl⟩
  · obtain ⟨U, V, s, hU, hx, ha, rfl⟩ := hI
    cases V with
    | nil => cases hx
    | cons w V =>
      cases hx
      have hw := hT.2 w (by rw [hU]; simp)
      have hl0 : (0 : Int) < (w.length : Int) := by omega
      have h1 := Int.emod_nonneg t (by omega : (w.length : Int) ≠ 0)
      have h2 := Int.emod_lt_of_pos t hl0
      have hg : w[(t % (w.length : Int)).toNat]? = some (w.getD (t % (w.length : Int)).toNat 0) := by
        rw [List.getD_eq_getElem?_getD]
        rw [List.getElem?_eq_getElem (by omega)]
        rfl
      have hat : atI (w.map D.int) (t % (w.length : Int)) = some (.int (w.getD (t % (w.length : Int)).toNat 0)) := atI_get h1 (by rw [List.getElem?_map, hg]; rfl)
      have hlen : acc.length < 100000 := by
        have := congrArg List.length hU
        have h4 := hT.1
        rw [ha]
        simp at this ⊢
        omega
      refine ⟨_, rfl, fun nx n1 n2 => ?_⟩
      simp [wpSs, wpEs, wpVs, wpO, wpC, wpI, wpE.eq_1, wpE.eq_2, wpE.eq_3, wpE.eq_4, wpE.eq_5, wpE.eq_6, wpE.eq_7, wpE.eq_8, wpE.eq_9, wpE.eq_10, wpE.eq_11, wpE.eq_12, wpE.eq_13, wpE.eq_14, wpE.eq_15, wpE.eq_16, wpE.eq_17, wpE.eq_18, wpE.eq_19, wpE.eq_20, wpE.eq_21, wpE.eq_22, wpE.eq_23, wpE.eq_24, wpE.eq_25, wpE.eq_26, wpE.eq_27, wpE.eq_28, wpE.eq_31, wpE.eq_32, wpE.eq_33, wpE.eq_34, comp_eq, allg_eq, wpS.eq_1, wpS.eq_2, wpS.eq_3, wpS.eq_4, wpS.eq_5, wpS.eq_6, wpS.eq_7, wpS.eq_8, wpS.eq_9, wpS.eq_10, wpS.eq_11, wpS.eq_14, wpS.eq_15, wpS.eq_16, wpS.eq_17, wpS.eq_18, whl_eq, fr_eq, getV, Vl.dat, Vl.sl, DS.set, setAll, putT, putAt, binD, cmpD, biD, hide, back, gone, Tg.slots, Sl.isSet, whD, D.items, hw.1, hat, hlen]
      have z := n2 (.int (w.getD (t % (w.length : Int)).toNat 0)) ⟨[.d (tabD T), .d (.int t), .d (whD w)], c⟩ hlen ⟨U ++ [w], V, .d (whD w), by rw [hU]; simp, rfl, by rw [ha]; simp, rfl⟩
      simpa [whD] using z
  · obtain ⟨U, V, s, hU, hx, ha, rfl⟩ := hI
    cases V with
    | cons w V => cases hx
    | nil =>
      rw [List.append_nil] at hU
      subst hU
      subst ha
      simp [wpSs, wpEs, wpVs, wpO, wpC, wpI, wpE.eq_1, wpE.eq_2, wpE.eq_3, wpE.eq_4, wpE.eq_5, wpE.eq_6, wpE.eq_7, wpE.eq_8, wpE.eq_9, wpE.eq_10, wpE.eq_11, wpE.eq_12, wpE.eq_13, wpE.eq_14, wpE.eq_15, wpE.eq_16, wpE.eq_17, wpE.eq_18, wpE.eq_19, wpE.eq_20, wpE.eq_21, wpE.eq_22, wpE.eq_23, wpE.eq_24, wpE.eq_25, wpE.eq_26, wpE.eq_27, wpE.eq_28, wpE.eq_31, wpE.eq_32, wpE.eq_33, wpE.eq_34, comp_eq, allg_eq, wpS.eq_1, wpS.eq_2, wpS.eq_3, wpS.eq_4, wpS.eq_5, wpS.eq_6, wpS.eq_7, wpS.eq_8, wpS.eq_9, wpS.eq_10, wpS.eq_11, wpS.eq_14, wpS.eq_15, wpS.eq_16, wpS.eq_17, wpS.eq_18, whl_eq, fr_eq, getV, Vl.dat, Vl.sl, DS.set, setAll, putT, putAt, binD, cmpD, biD, hide, back, gone, Tg.slots, Sl.isSet]
      refine ⟨T.map fun w => w.getD (t % w.length).toNat 0, by simp, ?_⟩
      exact hq
theorem k_cycle_of (h1 : Sg "together" = sp_together) : Keeps Sg 3 b_cycle_of sp_cycle_of := by
  rintro ds c Q E ⟨T, rfl, hT, hq⟩
  unfold b_cycle_of
  simp [wpSs, wpEs, wpVs, wpO, wpC, wpI, wpE.eq_1, wpE.eq_2, wpE.eq_3, wpE.eq_4, wpE.eq_5, wpE.eq_6, wpE.eq_7, wpE.eq_8, wpE.eq_9, wpE.eq_10, wpE.eq_11, wpE.eq_12, wpE.eq_13, wpE.eq_14, wpE.eq_15, wpE.eq_16, wpE.eq_17, wpE.eq_18, wpE.eq_19, wpE.eq_20, wpE.eq_21, wpE.eq_22, wpE.eq_23, wpE.eq_24, wpE.eq_25, wpE.eq_26, wpE.eq_27, wpE.eq_28, wpE.eq_31, wpE.eq_32, wpE.eq_33, wpE.eq_34, comp_eq, allg_eq, wpS.eq_1, wpS.eq_2, wpS.eq_3, wpS.eq_4, wpS.eq_5, wpS.eq_6, wpS.eq_7, wpS.eq_8, wpS.eq_9, wpS.eq_10, wpS.eq_11, wpS.eq_14, wpS.eq_15, wpS.eq_16, wpS.eq_17, wpS.eq_18, whl_eq, fr_eq, getV, Vl.dat, Vl.sl, DS.set, setAll, putT, putAt, binD, cmpD, biD, hide, back, gone, Tg.slots, Sl.isSet, items_tab]
  refine for_ind (fun xs st => ∃ (U V : List (List Int)) (s : Sl), T = U ++ V ∧ xs = V.map whD ∧ st = ⟨[.d (tabD T), .d (.int (cyc U : Nat)), s], c⟩) (fun x xs st hI => ?_) (fun st hI => ?_) ⟨[], T, _, rfl, rfl, rfl⟩
  · obtain ⟨U, V, s, hU, hx, rfl⟩ := hI
    cases V with
    | nil => cases hx
    | cons w V =>
      cases hx
      have hw := hT.2 w (by rw [hU]; simp)
      refine ⟨_, rfl, fun nx n1 => ?_⟩
      simp [wpSs, wpEs, wpVs, wpO, wpC, wpI, wpE.eq_1, wpE.eq_2, wpE.eq_3, wpE.eq_4, wpE.eq_5, wpE.eq_6, wpE.eq_7, wpE.eq_8, wpE.eq_9, wpE.eq_10, wpE.eq_11, wpE.eq_12, wpE.eq_13, wpE.eq_14, wpE.eq_15, wpE.eq_16, wpE.eq_17, wpE.eq_18, wpE.eq_19, wpE.eq_20, wpE.eq_21, wpE.eq_22, wpE.eq_23, wpE.eq_24, wpE.eq_25, wpE.eq_26, wpE.eq_27, wpE.eq_28, wpE.eq_31, wpE.eq_32, wpE.eq_33, wpE.eq_34, comp_eq, allg_eq, wpS.eq_1, wpS.eq_2, wpS.eq_3, wpS.eq_4, wpS.eq_5, wpS.eq_6, wpS.eq_7, wpS.eq_8, wpS.eq_9, wpS.eq_10, wpS.eq_11, wpS.eq_14, wpS.eq_15, wpS.eq_16, wpS.eq_17, wpS.eq_18, whl_eq, fr_eq, getV, Vl.dat, Vl.sl, DS.set, setAll, putT, putAt, binD, cmpD, biD, hide, back, gone, Tg.slots, Sl.isSet, items_wh, h1, sp_together]
      refine ⟨cyc U, w.length, ⟨rfl, rfl⟩, hw.1, hw.2, n1 _ ⟨U ++ [w], V, .d (whD w), by rw [hU]; simp, rfl, ?_⟩⟩
      unfold cyc
      rw [List.foldl_append]
      rfl
  · obtain ⟨U, V, s, hU, hx, rfl⟩ := hI
    cases V with
    | cons w V => cases hx
    | nil =>
      rw [List.append_nil] at hU
      subst hU
      simp [wpSs, wpEs, wpVs, wpO, wpC, wpI, wpE.eq_1, wpE.eq_2, wpE.eq_3, wpE.eq_4, wpE.eq_5, wpE.eq_6, wpE.eq_7, wpE.eq_8, wpE.eq_9, wpE.eq_10, wpE.eq_11, wpE.eq_12, wpE.eq_13, wpE.eq_14, wpE.eq_15, wpE.eq_16, wpE.eq_17, wpE.eq_18, wpE.eq_19, wpE.eq_20, wpE.eq_21, wpE.eq_22, wpE.eq_23, wpE.eq_24, wpE.eq_25, wpE.eq_26, wpE.eq_27, wpE.eq_28, wpE.eq_31, wpE.eq_32, wpE.eq_33, wpE.eq_34, comp_eq, allg_eq, wpS.eq_1, wpS.eq_2, wpS.eq_3, wpS.eq_4, wpS.eq_5, wpS.eq_6, wpS.eq_7, wpS.eq_8, wpS.eq_9, wpS.eq_10, wpS.eq_11, wpS.eq_14, wpS.eq_15, wpS.eq_16, wpS.eq_17, wpS.eq_18, whl_eq, fr_eq, getV, Vl.dat, Vl.sl, DS.set, setAll, putT, putAt, binD, cmpD, biD, hide, back, gone, Tg.slots, Sl.isSet]
      exact hq
end LC
end
section
namespace DL
open PySem (Str Operator CmpOp)
open L2 (atI ixN CMul CDivW CMulW CPow RgC)
def binK (o : Operator) (x y : D) (Q : Vl → Prop) (_ : Dm Q := dm Q) : Prop := binD o x y Q
def cmpK (o : CmpOp) (x y : D) (Q : Bool → Prop) (_ : Dm Q := dm Q) : Prop := cmpD o x y Q
def biK (f : Bi) (ds : List D) (Q : Vl → Prop) (_ : Dm Q := dm Q) : Prop := biD f ds Q
def putK (i : Nat) (j y : D) (st : DS) (Q : DS → Prop) (_ : Dm Q := dm Q) : Prop := putAt i j y st Q
def kK {α : Type} (a : α) (K : α → Prop) (_ : Dm K := dm K) : Prop := K a
theorem kK_eq {α : Type} (a : α) (K : α → Prop) : kK a K = K a := rfl
def optK {α : Type} (o : Option α) (K : α → Prop) (_ : Dm K := dm K) : Prop := ∃ a, o = some a ∧ K a
theorem optK_some {α : Type} (a : α) (K : α → Prop) : optK (some a) K = K a := propext ⟨fun ⟨b, e, h⟩ => by cases e; exact h, fun h => ⟨a, rfl, h⟩⟩
theorem optK_of {α : Type} {o : Option α} {a : α} {K : α → Prop} (e : o = some a) (h : K a) : optK o K := ⟨a, e, h⟩
def blK (x : D) (K : Bool → Prop) (_ : Dm K := dm K) : Prop := ∃ b, x = .bl b ∧ K b
theorem blK_eq (b : Bool) (K : Bool → Prop) : blK (.bl b) K = K b := propext ⟨fun ⟨b, e, h⟩ => by cases e; exact h, fun h => ⟨b, rfl, h⟩⟩
def intK (x : D) (K : Int → Prop) (_ : Dm K := dm K) : Prop := ∃ b, x = .int b ∧ K b
theorem intK_eq (b : Int) (K : Int → Prop) : intK (.int b) K = K b := propext ⟨fun ⟨b, e, h⟩ => by cases e; exact h, fun h => ⟨b, rfl, h⟩⟩
def strK (x : D) (K : Str → Prop) (_ : Dm K := dm K) : Prop := ∃ b, x = .str b ∧ K b
theorem strK_eq (b : Str) (K : Str → Prop) : strK (.str b) K = K b := propext ⟨fun ⟨b, e, h⟩ => by cases e; exact h, fun h => ⟨b, rfl, h⟩⟩
def iteK (c : Bool) (A B : Prop) (_ : Dm A := dm A) (_ : Dm B := dm B) : Prop := if c = true then A else B
theorem iteK_t (A B : Prop) : iteK true A B = A := if_pos rfl
theorem iteK_f (A B : Prop) : iteK false A B = B := if_neg (by decide)
theorem iteK_of {c : Bool} {A B : Prop} (h1 : c = true → A) (h2 : c = false → B) : iteK c A B := by
  cases c with
  | true => rw [iteK_t]; exact h1 rfl
  | false => rw [iteK_f]; exact h2 rfl
/-- behind a condition that the goal asks: the condition, then the rest, not looked into -/
def andK (p A : Prop) : Prop := p ∧ A
theorem andK_t (A : Prop) : andK True A = A := true_and A
def cK (Sg : Tab) (f : Str) (ds : List D) (c : List Int) (Q : Vl → List Int → Prop) (E : Str → List Int → Prop) (_ : Dm f := dm f) (_ : Dm Q := dm Q) (_ : Dm E := dm E) : Prop := Sg f ds c Q E
theorem call_of {Sg : Tab} {f : Str} {sp : Spec} {ds : List D} {c : List Int} {Q : Vl → List Int → Prop} {E : Str → List Int → Prop} (h : Sg f = sp) (q : sp ds c Q E) : cK Sg f ds c Q E := by
  unfold cK
  rw [h]
  exact q

def sK (o : Option Sl) (K : Sl → Prop) (_ : Dm K := dm K) : Prop := ∃ s, o = some s ∧ K s
theorem sK_some (s : Sl) (K : Sl → Prop) : sK (some s) K = K s := propext ⟨fun ⟨b, e, h⟩ => by cases e; exact h, fun h => ⟨s, rfl, h⟩⟩
def valS (s : Sl) (i : Nat) (st : DS) (Q : D → DS → Prop) (_ : Dm Q := dm Q) (_ : Dm st := dm st) : Prop := match s with
  | .d x => Q x st
  | .own xs => kK (st.set i (.d (.lst xs))) fun st' => Q (.lst xs) st'
  | .tp xs => Q (.tup xs) st
  | _ => False
theorem valS_d (x : D) (i : Nat) (st : DS) (Q : D → DS → Prop) : valS (.d x) i st Q = Q x st := rfl
theorem valS_own (xs : List D) (i : Nat) (st : DS) (Q : D → DS → Prop) : valS (.own xs) i st Q = kK (st.set i (.d (.lst xs))) fun st' => Q (.lst xs) st' := rfl
theorem valS_tp (xs : List D) (i : Nat) (st : DS) (Q : D → DS → Prop) : valS (.tp xs) i st Q = Q (.tup xs) st := rfl
/-- the items of a slot -/
def Sl.its (c : List Int) : Sl → Option (List D)
  | .d .cell => some (c.map .int)
  | .d x => x.items
  | .own xs => some xs
  | .tp xs => some xs
  | _ => none
def lenS (s : Sl) : Option Nat := match s with
  | .d x => x.items.map List.length
  | .own xs => some xs.length
  | .dk ks => some ks.length
  | _ => none
section
variable (Sg : Tab) (st : DS) (Q : Vl → DS → Prop)
theorem wE_v (i : Nat) : wpE Sg (.v i) st Q = sK st.env[i]? fun s => valS s i st fun x st' => Q (.d x) st' := by
  rw [wpE]
  unfold getV sK
  apply propext
  constructor
  · intro h
    split at h
    · rename_i x e; exact ⟨_, e, h⟩
    · rename_i x e; exact ⟨_, e, h⟩
    · rename_i x e; exact ⟨_, e, h⟩
    · exact h.elim
  · rintro ⟨s, e, h⟩
    rw [e]
    cases s <;> first | exact h | exact h.elim
theorem wE_k (d : D) : wpE Sg (.k d) st Q = Q (.d d) st := by rw [wpE]
theorem wE_bin (o : Operator) (a b : E) : wpE Sg (.bin o a b) st Q = wpE Sg a st fun x st1 => kK x.dat fun x => wpE Sg b st1 fun y st2 => kK y.dat fun y => binK o x y fun z => Q z st2 := by rw [wpE]; rfl
theorem wE_neg (a : E) : wpE Sg (.neg a) st Q = wpE Sg a st fun x st1 => intK x.dat fun i => Q (.d (.int (-i))) st1 := by rw [wpE]; rfl
theorem wE_no (a : E) : wpE Sg (.no a) st Q = wpE Sg a st fun x st1 => blK x.dat fun b => Q (.d (.bl (!b))) st1 := by rw [wpE]; rfl
theorem wE_cmp (o : CmpOp) (a b : E) : wpE Sg (.cmp o a b) st Q = wpE Sg a st fun x st1 => kK x.dat fun x => wpE Sg b st1 fun y st2 => kK y.dat fun y => cmpK o x y fun c => Q (.d (.bl c)) st2 := by rw [wpE]; rfl
theorem wE_chn (o o' : CmpOp) (a b c : E) : wpE Sg (.chn o o' a b c) st Q = wpE Sg a st fun x st1 => kK x.dat fun x => wpE Sg b st1 fun y st2 => kK y.dat fun y => cmpK o x y fun r => iteK r (wpE Sg c st2 fun z st3 => kK z.dat fun z => cmpK o' y z fun r' => Q (.d (.bl r')) st3) (Q (.d (.bl false)) st2) := by rw [wpE]; rfl
theorem wE_isN (a : E) : wpE Sg (.isN a) st Q = wpE Sg a st fun x st1 => kK x.dat.isNon fun b => Q (.d (.bl b)) st1 := by rw [wpE]; rfl
theorem wE_ntN (a : E) : wpE Sg (.ntN a) st Q = wpE Sg a st fun x st1 => kK x.dat.isNon fun b => Q (.d (.bl (!b))) st1 := by rw [wpE]; rfl
theorem wE_and (a b : E) : wpE Sg (.and a b) st Q = wpE Sg a st fun x st1 => blK x.dat fun c => iteK c (wpE Sg b st1 fun y st2 => kK y.dat fun y => Q (.d y) st2) (Q (.d (.bl false)) st1) := by rw [wpE]; rfl
theorem wE_or (a b : E) : wpE Sg (.or a b) st Q = wpE Sg a st fun x st1 => blK x.dat fun c => iteK c (Q (.d (.bl true)) st1) (wpE Sg b st1 fun y st2 => kK y.dat fun y => Q (.d y) st2) := by rw [wpE]; rfl
theorem wE_orT (a b : E) : wpE Sg (.orT a b) st Q = wpE Sg a st fun x st1 => kK x.dat fun x => optK x.truth fun c => iteK c (Q (.d x) st1) (wpE Sg b st1 fun y st2 => kK y.dat fun y => Q (.d y) st2) := by rw [wpE]; rfl
theorem wE_ite (c a b : E) : wpE Sg (.ite c a b) st Q = wpE Sg c st fun x st1 => blK x.dat fun r => iteK r (wpE Sg a st1 fun y st2 => kK y.dat fun y => Q (.d y) st2) (wpE Sg b st1 fun y st2 => kK y.dat fun y => Q (.d y) st2) := by rw [wpE]; rfl
theorem wE_call (f : Str) (as : Es) : wpE Sg (.call f as) st Q = wpEs Sg as st fun ds st1 => cK Sg f ds st1.cel (fun r c => Q r { st1 with cel := c }) fun _ _ => False := by rw [wpE]; rfl
theorem wE_callk (f : Str) (as ks : Es) : wpE Sg (.callk f as ks) st Q = wpEs Sg as st fun ds st1 => wpEs Sg ks st1 fun es st2 => cK Sg f (ds ++ es) st2.cel (fun r c => Q r { st2 with cel := c }) fun _ _ => False := by rw [wpE]; rfl
theorem wE_refused (f : Str) (as : Es) : wpE Sg (.refused f as) st Q = wpEs Sg as st fun ds st1 => cK Sg f ds st1.cel (fun _ c => Q (.d (.str "")) { st1 with cel := c }) fun n c => Q (.d (.str n)) { st1 with cel := c } := by rw [wpE]; rfl
theorem wE_callc (f g : Str) (as : Es) : wpE Sg (.callc f g as) st Q = wpEs Sg as st fun ds st1 => cK Sg g ds st1.cel (fun r c => ∃ ns : List Int, r = .own (ns.map D.int) ∧ cK Sg f [.cell] ns (fun r' _ => ∃ b, r' = .d (.bl b) ∧ Q (.d (.bl b)) { st1 with cel := c }) fun _ _ => False) fun _ _ => False := by rw [wpE]; rfl
theorem wE_bi (f : Bi) (as : Es) : wpE Sg (.bi f as) st Q = wpEs Sg as st fun ds st1 => biK f ds fun r => Q r st1 := by rw [wpE]; rfl
theorem wE_isi (T : Str) (a : E) : wpE Sg (.isi T a) st Q = wpE Sg a st fun x st1 => kK x.dat fun x => andK (x.plain = true) (kK (x.isA T) fun b => Q (.d (.bl b)) st1) := by rw [wpE]; rfl
theorem wE_lenv (i : Nat) : wpE Sg (.lenv i) st Q = sK st.env[i]? fun s => optK (lenS s) fun n => Q (.d (.int n)) st := by
  rw [wpE]
  apply propext
  unfold sK optK
  constructor
  · intro h
    split at h
    · rename_i x e
      obtain ⟨xs, h1, h2⟩ := h
      exact ⟨_, e, xs.length, by show x.items.map List.length = _; rw [h1]; rfl, h2⟩
    · rename_i xs e; exact ⟨_, e, _, rfl, h⟩
    · rename_i xs e; exact ⟨_, e, _, rfl, h⟩
    · exact h.elim
  · rintro ⟨s, e, n, h1, h2⟩
    rw [e]
    cases s with
    | d x =>
      have h1' : x.items.map List.length = some n := h1
      cases q : x.items with
      | none => rw [q] at h1'; cases h1'
      | some xs =>
        rw [q] at h1'
        cases h1'
        exact ⟨xs, q, h2⟩
    | own xs => cases h1; exact h2
    | dk xs => cases h1; exact h2
    | _ => cases h1
theorem wE_ixv (i : Nat) (a : E) (hs : ∃ s, st.env[i]? = some s ∧ s.isSet) : wpE Sg (.ixv i a) st Q = wpE Sg a st fun x st1 => intK x.dat fun j => sK st1.env[i]? fun s => optK (s.its st1.cel) fun xs => optK (atI xs j) fun z => Q (.d z) st1 := by
  rw [wpE]
  have h0 : ((∃ s, st.env[i]? = some s ∧ s.isSet) ∧ wpE Sg a st fun x st1 => ∃ j, x.dat = .int j ∧ match st1.env[i]? with
    | some (.d .cell) => ∃ z, atI st1.cel j = some z ∧ Q (.d (.int z)) st1
    | some (.d y) => ∃ xs z, y.items = some xs ∧ atI xs j = some z ∧ Q (.d z) st1
    | some (.own xs) => ∃ z, atI xs j = some z ∧ Q (.d z) st1
    | some (.tp xs) => ∃ z, atI xs j = some z ∧ Q (.d z) st1
    | _ => False) = wpE Sg a st fun x st1 => ∃ j, x.dat = .int j ∧ match st1.env[i]? with
    | some (.d .cell) => ∃ z, atI st1.cel j = some z ∧ Q (.d (.int z)) st1
    | some (.d y) => ∃ xs z, y.items = some xs ∧ atI xs j = some z ∧ Q (.d z) st1
    | some (.own xs) => ∃ z, atI xs j = some z ∧ Q (.d z) st1
    | some (.tp xs) => ∃ z, atI xs j = some z ∧ Q (.d z) st1
    | _ => False := by
    rw [eq_true hs, true_and]
  refine h0.trans ?_
  congr 1
  funext x st1
  apply propext
  unfold intK sK optK
  constructor
  · rintro ⟨j, e, h⟩
    refine ⟨j, e, ?_⟩
    split at h
    · rename_i q
      obtain ⟨z, h1, h2⟩ := h
      refine ⟨_, q, _, rfl, .int z, ?_, h2⟩
      unfold atI at h1 ⊢
      rw [List.length_map]
      cases u : ixN st1.cel.length j with
      | none => rw [u] at h1; cases h1
      | some m =>
        rw [u] at h1
        have h1' : st1.cel[m]? = some z := h1
        show (st1.cel.map D.int)[m]? = _
        rw [List.getElem?_map, h1']
        rfl
    · rename_i y hy q
      obtain ⟨xs, z, h1, h2, h3⟩ := h
      refine ⟨_, q, xs, ?_, z, h2, h3⟩
      cases y <;> first | exact h1 | cases h1
    · rename_i xs q
      obtain ⟨z, h1, h2⟩ := h
      exact ⟨_, q, xs, rfl, z, h1, h2⟩
    · rename_i xs q
      obtain ⟨z, h1, h2⟩ := h
      exact ⟨_, q, xs, rfl, z, h1, h2⟩
    · exact h.elim
  · rintro ⟨j, e, s, q, xs, h1, z, h2, h3⟩
    refine ⟨j, e, ?_⟩
    rw [q]
    cases s with
    | d y =>
      cases y with
      | cell =>
        cases h1
        unfold atI at h2
        rw [List.length_map] at h2
        cases u : ixN st1.cel.length j with
        | none => rw [u] at h2; cases h2
        | some m =>
          rw [u] at h2
          have h2' : (st1.cel.map D.int)[m]? = some z := h2
          rw [List.getElem?_map] at h2'
          cases v : st1.cel[m]? with
          | none => rw [v] at h2'; cases h2'
          | some w =>
            rw [v] at h2'
            cases h2'
            exact ⟨w, by unfold atI; rw [u]; exact v, h3⟩
      | _ => exact ⟨xs, z, h1, h2, h3⟩
    | own ys => cases h1; exact ⟨z, h2, h3⟩
    | tp ys => cases h1; exact ⟨z, h2, h3⟩
    | _ => cases h1
theorem wE_ix (a b : E) : wpE Sg (.ix a b) st Q = wpE Sg a st fun x st1 => kK x.dat fun x => wpE Sg b st1 fun y st2 => intK y.dat fun j => optK x.items fun xs => optK (atI xs j) fun z => Q (.d z) st2 := by
  rw [wpE]
  show (wpE Sg a st fun x st1 => wpE Sg b st1 fun y st2 => ∃ xs j z, x.dat.items = some xs ∧ y.dat = .int j ∧ atI xs j = some z ∧ Q (.d z) st2) = wpE Sg a st fun x st1 => wpE Sg b st1 fun y st2 => intK y.dat fun j => optK x.dat.items fun xs => optK (atI xs j) fun z => Q (.d z) st2
  congr 1
  funext x st1
  congr 1
  funext y st2
  apply propext
  unfold intK optK
  constructor
  · rintro ⟨xs, j, z, h1, h2, h3, h4⟩
    exact ⟨j, h2, xs, h1, z, h3, h4⟩
  · rintro ⟨j, h2, xs, h1, z, h3, h4⟩
    exact ⟨xs, j, z, h1, h2, h3, h4⟩
def cutK (x : D) (l h : Option Int) (K : Vl → Prop) (_ : Dm K := dm K) : Prop := match x with
  | .tup xs => K (.d (.tup (cutD xs l h)))
  | .lst xs => K (.own (cutD xs l h))
  | .scr ns => K (.own (cutD (ns.map D.int) l h))
  | _ => False
theorem wE_sl (a : E) (lo hi : Eo) : wpE Sg (.sl a lo hi) st Q = wpE Sg a st fun x st1 => kK x.dat fun x => wpO Sg lo st1 fun l st2 => wpO Sg hi st2 fun h st3 => cutK x l h fun r => Q r st3 := by
  rw [wpE]
  rfl
def revK (x : D) (K : Vl → Prop) (_ : Dm K := dm K) : Prop := match x with
  | .tup xs => K (.d (.tup xs.reverse))
  | .lst xs => K (.own xs.reverse)
  | _ => False
theorem wE_rev (a : E) : wpE Sg (.rev a) st Q = wpE Sg a st fun x st1 => kK x.dat fun x => revK x fun r => Q r st1 := by
  rw [wpE]
  rfl
theorem wE_tup (as : Es) : wpE Sg (.tup as) st Q = wpEs Sg as st fun ds st1 => Q (.d (.tup ds)) st1 := by rw [wpE]
theorem wE_tpl (as : Es) : wpE Sg (.tpl as) st Q = wpEs Sg as st fun ds st1 => Q (.tp ds) st1 := by rw [wpE]
theorem wE_lst (as : Es) : wpE Sg (.lst as) st Q = wpEs Sg as st fun ds st1 => Q (.own ds) st1 := by rw [wpE]
def vtpK (s : Sl) (K : Vl → Prop) (_ : Dm K := dm K) : Prop := match s with
  | .tp xs => K (.tp xs)
  | _ => False
theorem wE_vtp (i : Nat) : wpE Sg (.vtp i) st Q = sK st.env[i]? fun s => vtpK s fun r => Q r st := by
  rw [wpE]
  unfold sK
  apply propext
  constructor
  · intro h
    split at h
    · rename_i x e; exact ⟨_, e, h⟩
    · exact h.elim
  · rintro ⟨s, e, h⟩
    rw [e]
    cases s <;> first | exact h | exact h.elim
/-- the place in a list of bools -/
def idxK (x y : D) (K : Vl → Prop) (_ : Dm K := dm K) : Prop := ∃ (bs : List Bool) (b : Bool) (j : Nat), x = .lst (bs.map D.bl) ∧ y = .bl b ∧ bs[j]? = some b ∧ (∀ m, m < j → bs[m]? ≠ some b) ∧ K (.d (.int (j : Nat)))
def lstK (x : D) (K : Prop) (_ : Dm K := dm K) : Prop := (∃ xs, x = .lst xs) ∧ K
theorem lstK_eq (xs : List D) (K : Prop) : lstK (.lst xs) K = K := by
  unfold lstK
  rw [eq_true (⟨xs, rfl⟩ : ∃ ys, D.lst xs = .lst ys), true_and]
theorem wE_index (a b : E) : wpE Sg (.index a b) st Q = wpE Sg a st fun x st1 => kK x.dat fun x => lstK x (wpE Sg b st1 fun y st2 => kK y.dat fun y => idxK x y fun r => Q r st2) := by
  rw [wpE]
  rfl
theorem wE_lrng (s : Src) : wpE Sg (.lrng s) st Q = wpI Sg s st fun xs st1 => andK (xs.length ≤ 100000) (Q (.own xs) st1) := by rw [wpE]; rfl
def setK (x : D) (K : Vl → Prop) (_ : Dm K := dm K) : Prop := ∃ xs ns, x.items = some xs ∧ D.ints xs = some ns ∧ ns.length < 64 ∧ ∀ out : List Int, out.Pairwise (· < ·) → (∀ k, k ∈ out ↔ k ∈ ns) → K (.own (out.map D.int))
theorem wE_sset (a : E) : wpE Sg (.sset a) st Q = wpE Sg a st fun x st1 => setK x.dat fun r => Q r st1 := by rw [wpE]; rfl
theorem cutK_tup (xs : List D) (l h : Option Int) (K : Vl → Prop) : cutK (.tup xs) l h K = K (.d (.tup (cutD xs l h))) := rfl
theorem cutK_lst (xs : List D) (l h : Option Int) (K : Vl → Prop) : cutK (.lst xs) l h K = K (.own (cutD xs l h)) := rfl
theorem cutK_scr (ns : List Int) (l h : Option Int) (K : Vl → Prop) : cutK (.scr ns) l h K = K (.own (cutD (ns.map D.int) l h)) := rfl
theorem revK_tup (xs : List D) (K : Vl → Prop) : revK (.tup xs) K = K (.d (.tup xs.reverse)) := rfl
theorem revK_lst (xs : List D) (K : Vl → Prop) : revK (.lst xs) K = K (.own xs.reverse) := rfl
theorem vtpK_tp (xs : List D) (K : Vl → Prop) : vtpK (.tp xs) K = K (.tp xs) := rfl
end
section
variable (Sg : Tab) (st : DS)
theorem wEs_nil (Q : List D → DS → Prop) : wpEs Sg .nil st Q = Q [] st := by rw [wpEs]
theorem wEs_cons (e : E) (es : Es) (Q : List D → DS → Prop) : wpEs Sg (.cons e es) st Q = wpE Sg e st fun x st1 => kK x.dat fun x => wpEs Sg es st1 fun xs st2 => Q (x :: xs) st2 := by rw [wpEs]; rfl
theorem wVs_nil (Q : List Vl → DS → Prop) : wpVs Sg .nil st Q = Q [] st := by rw [wpVs]
theorem wVs_cons (e : E) (es : Es) (Q : List Vl → DS → Prop) : wpVs Sg (.cons e es) st Q = wpE Sg e st fun x st1 => wpVs Sg es st1 fun xs st2 => Q (x :: xs) st2 := by rw [wpVs]
theorem wO_no (Q : Option Int → DS → Prop) : wpO Sg .no st Q = Q none st := by rw [wpO]
theorem wO_yes (e : E) (Q : Option Int → DS → Prop) : wpO Sg (.yes e) st Q = wpE Sg e st fun x st1 => intK x.dat fun i => Q (some i) st1 := by rw [wpO]; rfl
theorem wC_no (Q : Bool → DS → Prop) : wpC Sg .no st Q = Q true st := by rw [wpC]
theorem wC_yes (e : E) (Q : Bool → DS → Prop) : wpC Sg (.yes e) st Q = wpE Sg e st fun x st1 => blK x.dat fun b => Q b st1 := by rw [wpC]; rfl
theorem wI_it (e : E) (Q : List D → DS → Prop) : wpI Sg (.it e) st Q = wpE Sg e st fun x st1 => optK x.dat.items fun xs => Q xs st1 := by rw [wpI]; rfl
theorem wI_r1 (a : E) (Q : List D → DS → Prop) : wpI Sg (.r1 a) st Q = wpE Sg a st fun x st1 => intK x.dat fun j => andK (rngOk 0 j) (Q (rngD 0 1 j.toNat) st1) := by rw [wpI]; rfl
def r2K (x y : D) (K : List D → Prop) (_ : Dm K := dm K) : Prop := ∃ i j, x = .int i ∧ y = .int j ∧ rngOk i j ∧ K (rngD i 1 (j - i).toNat)
theorem r2K_eq (i j : Int) (K : List D → Prop) : r2K (.int i) (.int j) K = andK (rngOk i j) (K (rngD i 1 (j - i).toNat)) := propext ⟨fun ⟨i, j, e1, e2, h⟩ => by cases e1; cases e2; exact h, fun h => ⟨i, j, rfl, rfl, h⟩⟩
theorem wI_r2 (a b : E) (Q : List D → DS → Prop) : wpI Sg (.r2 a b) st Q = wpE Sg a st fun x st1 => kK x.dat fun x => wpE Sg b st1 fun y st2 => kK y.dat fun y => r2K x y fun xs => Q xs st2 := by rw [wpI]; rfl
def r3K (x y z : D) (K : List D → Prop) (_ : Dm K := dm K) : Prop := ∃ i j c n, [x, y, z] = [.int i, .int j, .int c] ∧ RgC i j c n ∧ K (rngD i c n)
theorem wI_r3 (a b c : E) (Q : List D → DS → Prop) : wpI Sg (.r3 a b c) st Q = wpE Sg a st fun x st1 => kK x.dat fun x => wpE Sg b st1 fun y st2 => kK y.dat fun y => wpE Sg c st2 fun z st3 => kK z.dat fun z => r3K x y z fun xs => Q xs st3 := by rw [wpI]; rfl
def zipK (x y : D) (K : List D → Prop) (_ : Dm K := dm K) : Prop := ∃ p q xs ys, [x, y] = [p, q] ∧ p.items = some xs ∧ q.items = some ys ∧ p.kind = q.kind ∧ K (List.zipWith (fun a b => D.tup [a, b]) xs ys)
theorem wI_zip (a b : E) (Q : List D → DS → Prop) : wpI Sg (.zip a b) st Q = wpE Sg a st fun x st1 => kK x.dat fun x => wpE Sg b st1 fun y st2 => kK y.dat fun y => zipK x y fun xs => Q xs st2 := by rw [wpI]; rfl

variable (N : Nd)
theorem wS_asg (i : Nat) (e : E) : wpS Sg (.asg i e) N st = wpE Sg e st fun r st1 => kK (st1.set i r.sl) N.nx := by rw [wpS]; rfl
theorem wS_par (is : List Nat) (es : Es) : wpS Sg (.par is es) N st = wpVs Sg es st fun rs st1 => optK (setAll is rs st1) N.nx := by rw [wpS]; rfl
theorem wS_unp (t : Tg) (e : E) : wpS Sg (.unp t e) N st = wpE Sg e st fun r st1 => optK (putT t r.dat st1) N.nx := by rw [wpS]; rfl
theorem wS_setv (i : Nat) (a e : E) (hs : ∃ s, st.env[i]? = some s ∧ s.isSet) : wpS Sg (.setv i a e) N st = wpE Sg e st fun y st1 => kK y.dat fun y => wpE Sg a st1 fun j st2 => kK j.dat fun j => putK i j y st2 N.nx := by
  rw [wpS]
  show ((∃ s, st.env[i]? = some s ∧ s.isSet) ∧ wpE Sg e st fun y st1 => wpE Sg a st1 fun j st2 => putK i j.dat y.dat st2 N.nx) = _
  rw [eq_true hs, true_and]
  rfl
theorem wS_swp (i : Nat) (a b c d : E) (hs : ∃ s, st.env[i]? = some s ∧ s.isSet) : wpS Sg (.swp i a b c d) N st = wpE Sg c st fun x st1 => kK x.dat fun x => wpE Sg d st1 fun y st2 => kK y.dat fun y => wpE Sg a st2 fun p st3 => kK p.dat fun p => putK i p x st3 fun st4 => wpE Sg b st4 fun q st5 => kK q.dat fun q => putK i q y st5 N.nx := by
  rw [wpS]
  show ((∃ s, st.env[i]? = some s ∧ s.isSet) ∧ wpE Sg c st fun x st1 => wpE Sg d st1 fun y st2 => wpE Sg a st2 fun p st3 => putK i p.dat x.dat st3 fun st4 => wpE Sg b st4 fun q st5 => putK i q.dat y.dat st5 N.nx) = _
  rw [eq_true hs, true_and]
  rfl
theorem wS_ex (f : Str) (as : Es) : wpS Sg (.ex f as) N st = wpEs Sg as st fun ds st1 => cK Sg f ds st1.cel (fun _ c => N.nx { st1 with cel := c }) fun n c => N.rs n { st1 with cel := c } := by rw [wpS]; rfl
theorem wS_ret (e : E) : wpS Sg (.ret e) N st = wpE Sg e st N.rt := by rw [wpS]
theorem wS_iff (c : E) (a b : Ss) : wpS Sg (.iff c a b) N st = wpE Sg c st fun x st1 => blK x.dat fun r => iteK r (wpSs Sg a N st1) (wpSs Sg b N st1) := by rw [wpS]; rfl
theorem wS_brk : wpS Sg .brk N st = N.bk st := by rw [wpS]
theorem wS_rais (e : E) : wpS Sg (.rais e) N st = wpE Sg e st fun x st1 => strK x.dat fun n => andK (n.length ≤ 1000) (N.rs n st1) := by rw [wpS]; rfl
theorem wS_newd (i : Nat) : wpS Sg (.newd i) N st = kK (st.set i (.dk [])) N.nx := by rw [wpS]; rfl
theorem wS_skip : wpS Sg .skip N st = N.nx st := by rw [wpS]
def ownK (s : Sl) (K : List D → Prop) (_ : Dm K := dm K) : Prop := match s with
  | .own xs => K xs
  | _ => False
theorem ownK_eq (xs : List D) (K : List D → Prop) : ownK (.own xs) K = K xs := rfl
theorem sK_own (o : Option Sl) (A : List D → Prop) : (match o with
    | some (.own xs) => A xs
    | _ => False) = sK o fun s => ownK s A := by
  apply propext
  unfold sK
  constructor
  · intro h
    split at h
    · exact ⟨_, rfl, h⟩
    · exact h.elim
  · rintro ⟨s, e, h⟩
    rw [e]
    cases s <;> first | exact h | exact h.elim
theorem wS_app (i : Nat) (e : E) (hs : ∃ xs, st.env[i]? = some (.own xs)) : wpS Sg (.app i e) N st = wpE Sg e st fun y st1 => kK y.dat fun y => sK st1.env[i]? fun s => ownK s fun xs => andK (xs.length < 100000) (kK (st1.set i (.own (xs ++ [y]))) N.nx) := by
  rw [wpS]
  show ((∃ xs, st.env[i]? = some (.own xs)) ∧ wpE Sg e st fun y st1 => match st1.env[i]? with
    | some (.own xs) => xs.length < 100000 ∧ N.nx (st1.set i (.own (xs ++ [y.dat])))
    | _ => False) = _
  rw [eq_true hs, true_and]
  congr 1
  funext y st1
  exact sK_own st1.env[i]? fun xs => xs.length < 100000 ∧ N.nx (st1.set i (.own (xs ++ [y.dat])))
def lstD (x : D) (K : List D → Prop) (_ : Dm K := dm K) : Prop := ∃ ys, x = .lst ys ∧ K ys
theorem lstD_eq (xs : List D) (K : List D → Prop) : lstD (.lst xs) K = K xs := propext ⟨fun ⟨ys, e, h⟩ => by cases e; exact h, fun h => ⟨_, rfl, h⟩⟩
theorem wS_ext (i : Nat) (e : E) (hs : ∃ xs, st.env[i]? = some (.own xs)) : wpS Sg (.ext i e) N st = wpE Sg e st fun y st1 => lstD y.dat fun ys => sK st1.env[i]? fun s => ownK s fun xs => andK (xs.length + ys.length ≤ 100000) (kK (st1.set i (.own (xs ++ ys))) N.nx) := by
  rw [wpS]
  show ((∃ xs, st.env[i]? = some (.own xs)) ∧ wpE Sg e st fun y st1 => ∃ ys, y.dat = .lst ys ∧ match st1.env[i]? with
    | some (.own xs) => xs.length + ys.length ≤ 100000 ∧ N.nx (st1.set i (.own (xs ++ ys)))
    | _ => False) = _
  rw [eq_true hs, true_and]
  congr 1
  funext y st1
  unfold lstD
  congr 1
  funext ys
  rw [sK_own st1.env[i]? fun xs => xs.length + ys.length ≤ 100000 ∧ N.nx (st1.set i (.own (xs ++ ys)))]
  rfl
def augK (s : Sl) (o : Operator) (y : D) (K : Int → Prop) (_ : Dm K := dm K) : Prop := ∃ a b, s = .d (.int a) ∧ y = .int b ∧ match o with
  | .Add => K (a + b)
  | .Sub => K (a - b)
  | _ => False
theorem augK_add (a b : Int) (K : Int → Prop) : augK (.d (.int a)) .Add (.int b) K = K (a + b) := propext ⟨fun ⟨a, b, e1, e2, h⟩ => by cases e1; cases e2; exact h, fun h => ⟨a, b, rfl, rfl, h⟩⟩
theorem augK_sub (a b : Int) (K : Int → Prop) : augK (.d (.int a)) .Sub (.int b) K = K (a - b) := propext ⟨fun ⟨a, b, e1, e2, h⟩ => by cases e1; cases e2; exact h, fun h => ⟨a, b, rfl, rfl, h⟩⟩
theorem wS_aug (i : Nat) (o : Operator) (e : E) (hs : ∃ s, st.env[i]? = some s ∧ s.isSet) : wpS Sg (.aug i o e) N st = wpE Sg e st fun y st1 => kK y.dat fun y => sK st1.env[i]? fun s => augK s o y fun n => kK (st1.set i (.d (.int n))) N.nx := by
  rw [wpS]
  show ((∃ s, st.env[i]? = some s ∧ s.isSet) ∧ wpE Sg e st fun y st1 => ∃ a b, st1.env[i]? = some (.d (.int a)) ∧ y.dat = .int b ∧ match o with
    | .Add => N.nx (st1.set i (.d (.int (a + b))))
    | .Sub => N.nx (st1.set i (.d (.int (a - b))))
    | _ => False) = _
  rw [eq_true hs, true_and]
  congr 1
  funext y st1
  apply propext
  unfold sK augK kK
  constructor
  · rintro ⟨a, b, h1, h2, h3⟩
    exact ⟨_, h1, a, b, rfl, h2, h3⟩
  · rintro ⟨s, h1, a, b, rfl, h2, h3⟩
    exact ⟨a, b, h1, h2, h3⟩
theorem wSs_nil : wpSs Sg .nil N st = N.nx st := by rw [wpSs]
theorem wSs_cons (s : S) (r : Ss) : wpSs Sg (.cons s r) N st = wpS Sg s { N with nx := fun st' => wpSs Sg r N st' } st := by rw [wpSs]

theorem putAt_own {i : Nat} {j : Int} {y : D} {st : DS} {Q : DS → Prop} {xs : List D} {m : Nat} (h : st.env[i]? = some (.own xs)) (hm : ixN xs.length j = some m) (q : Q (st.set i (.own (xs.set m y)))) : putK i (.int j) y st Q := by
  unfold putK putAt
  rw [h]
  exact ⟨m, hm, q⟩
theorem putAt_cell {i : Nat} {j z : Int} {st : DS} {Q : DS → Prop} {m : Nat} (h : st.env[i]? = some (.d .cell)) (hm : ixN st.cel.length j = some m) (q : Q { st with cel := st.cel.set m z }) : putK i (.int j) (.int z) st Q := by
  unfold putK putAt
  rw [h]
  exact ⟨m, z, hm, rfl, q⟩

section
variable (i j : Int) (Q : Vl → Prop) (K : Bool → Prop)
theorem b_add : binK .Add (.int i) (.int j) Q = Q (.d (.int (i + j))) := rfl
theorem b_sub : binK .Sub (.int i) (.int j) Q = Q (.d (.int (i - j))) := rfl
theorem b_mul : binK .Mult (.int i) (.int j) Q = andK (CMul i j ∨ CMulW i j) (Q (.d (.int (i * j)))) := rfl
theorem b_div : binK .FloorDiv (.int i) (.int j) Q = andK (CDivW i j) (Q (.d (.int (i / j)))) := rfl
theorem b_mod : binK .Mod (.int i) (.int j) Q = andK (0 < j) (Q (.d (.int (i % j)))) := rfl
theorem b_pow : binK .Pow (.int i) (.int j) Q = andK (CPow i j) (Q (.d (.int (i ^ j.toNat)))) := rfl
theorem b_addT (xs ys : List D) : binK .Add (.tup xs) (.tup ys) Q = andK (xs.length + ys.length ≤ 100000) (Q (.d (.tup (xs ++ ys)))) := rfl
theorem b_addL (xs ys : List D) : binK .Add (.lst xs) (.lst ys) Q = andK (xs.length + ys.length ≤ 100000) (Q (.own (xs ++ ys))) := rfl
theorem c_lt : cmpK .Lt (.int i) (.int j) K = K (decide (i < j)) := rfl
theorem c_le : cmpK .LtE (.int i) (.int j) K = K (decide (i ≤ j)) := rfl
theorem c_gt : cmpK .Gt (.int i) (.int j) K = K (decide (j < i)) := rfl
theorem c_ge : cmpK .GtE (.int i) (.int j) K = K (decide (j ≤ i)) := rfl
theorem c_eq : cmpK .Eq (.int i) (.int j) K = K (decide (i = j)) := rfl
theorem c_ne : cmpK .NotEq (.int i) (.int j) K = K (!decide (i = j)) := rfl
theorem f_abs : biK .abs [.int i] Q = Q (.d (.int (if i < 0 then -i else i))) := propext ⟨fun ⟨k, e, h⟩ => by cases e; exact h, fun h => ⟨i, rfl, h⟩⟩
theorem f_int : biK .int [.int i] Q = Q (.d (.int i)) := propext ⟨fun ⟨k, e, h⟩ => by cases e; exact h, fun h => ⟨i, rfl, h⟩⟩
theorem f_min : biK .min [.int i, .int j] Q = Q (.d (.int (if j < i then j else i))) := propext ⟨fun ⟨a, b, e, h⟩ => by cases e; exact h, fun h => ⟨i, j, rfl, h⟩⟩
theorem f_len (x : D) : biK .len [x] Q = optK x.items fun xs => Q (.d (.int xs.length)) := propext ⟨fun ⟨y, xs, e, h1, h2⟩ => by cases e; exact ⟨xs, h1, h2⟩, fun ⟨xs, h1, h2⟩ => ⟨x, xs, rfl, h1, h2⟩⟩
theorem f_list (x : D) : biK .list [x] Q = optK x.items fun xs => Q (.own xs) := propext ⟨fun ⟨y, xs, e, h1, h2⟩ => by cases e; exact ⟨xs, h1, h2⟩, fun ⟨xs, h1, h2⟩ => ⟨x, xs, rfl, h1, h2⟩⟩
theorem f_tuple (x : D) : biK .tuple [x] Q = optK x.items fun xs => Q (.d (.tup xs)) := propext ⟨fun ⟨y, xs, e, h1, h2⟩ => by cases e; exact ⟨xs, h1, h2⟩, fun ⟨xs, h1, h2⟩ => ⟨x, xs, rfl, h1, h2⟩⟩
end
theorem set_mk (e : List Sl) (c : List Int) (i : Nat) (s : Sl) : DS.set ⟨e, c⟩ i s = ⟨e.set i s, c⟩ := rfl
theorem sl_d (x : D) : (Vl.d x).sl = .d x := rfl
theorem sl_own (x : List D) : (Vl.own x).sl = .own x := rfl
theorem sl_tp (x : List D) : (Vl.tp x).sl = .tp x := rfl
theorem dat_d (x : D) : (Vl.d x).dat = x := rfl
theorem dat_own (x : List D) : (Vl.own x).dat = .lst x := rfl
theorem dat_tp (x : List D) : (Vl.tp x).dat = .tup x := rfl
theorem it_tupW (x : List D) : (D.tup x).items = some x := rfl
theorem it_lst (x : List D) : (D.lst x).items = some x := rfl
theorem it_scr (x : List Int) : (D.scr x).items = some (x.map D.int) := rfl
theorem is_own (c : List Int) (x : List D) : (Sl.own x).its c = some x := rfl
theorem is_tup (c : List Int) (x : List D) : (Sl.d (.tup x)).its c = some x := rfl
theorem is_lst (c : List Int) (x : List D) : (Sl.d (.lst x)).its c = some x := rfl
theorem is_scr (c : List Int) (x : List Int) : (Sl.d (.scr x)).its c = some (x.map D.int) := rfl
theorem is_cell (c : List Int) : (Sl.d .cell).its c = some (c.map D.int) := rfl
theorem is_tab (c : List Int) (T : List (List Int)) : (Sl.d (tabD T)).its c = some (T.map whD) := rfl
theorem is_wh (c : List Int) (T : List Int) : (Sl.d (whD T)).its c = some (T.map D.int) := rfl
theorem ln_own (x : List D) : lenS (Sl.own x) = some x.length := rfl
theorem ln_tup (x : List D) : lenS (Sl.d (.tup x)) = some x.length := rfl
theorem ln_lst (x : List D) : lenS (Sl.d (.lst x)) = some x.length := rfl
theorem ln_scr (x : List Int) : lenS (Sl.d (.scr x)) = some x.length := by
  show some (x.map D.int).length = _
  rw [List.length_map]
theorem ln_dk (x : List (List Int)) : lenS (Sl.dk x) = some x.length := rfl
theorem ln_tab (T : List (List Int)) : lenS (Sl.d (tabD T)) = some T.length := by
  show some (T.map whD).length = _
  rw [List.length_map]
theorem ln_wh (T : List Int) : lenS (Sl.d (whD T)) = some T.length := by
  show some (T.map D.int).length = _
  rw [List.length_map]
theorem set_d (x : D) : (Sl.d x).isSet = True := rfl
theorem set_own (x : List D) : (Sl.own x).isSet = True := rfl
theorem set_dk (x : List (List Int)) : (Sl.dk x).isSet = True := rfl
theorem set_tp (x : List D) : (Sl.tp x).isSet = True := rfl
theorem hide1 (i : Nat) (e : List Sl) (c : List Int) : hide [i] ⟨e, c⟩ = ⟨e.set i .un, c⟩ := rfl
theorem hide2 (i j : Nat) (e : List Sl) (c : List Int) : hide [i, j] ⟨e, c⟩ = ⟨(e.set i .un).set j .un, c⟩ := rfl
theorem putT1 (i : Nat) (x : D) (st : DS) : putT (.one i) x st = some (st.set i (.d x)) := rfl
theorem putT2 (i j : Nat) (x y : D) (st : DS) : putT (.two i j) (.tup [x, y]) st = some ((st.set i (.d x)).set j (.d y)) := rfl
theorem putT3 (i j k : Nat) (x y z : D) (st : DS) : putT (.three i j k) (.tup [x, y, z]) st = some (((st.set i (.d x)).set j (.d y)).set k (.d z)) := rfl
theorem sl1 (i : Nat) : (Tg.one i).slots = [i] := rfl
theorem sl2 (i j : Nat) : (Tg.two i j).slots = [i, j] := rfl
theorem back1 (i : Nat) (e : List Sl) (c : List Int) (st : DS) : back [i] st ⟨e, c⟩ = ⟨e.set i (gone st.env[i]?), c⟩ := rfl
theorem back2 (i j : Nat) (e : List Sl) (c : List Int) (st : DS) : back [i, j] st ⟨e, c⟩ = ⟨(e.set i (gone st.env[i]?)).set j (gone st.env[j]?), c⟩ := rfl
theorem gone_unW : gone (some .un) = .un := rfl
theorem gone_dW (x : D) : gone (some (.d x)) = .d x := rfl
theorem gone_ownW (x : List D) : gone (some (.own x)) = .un := rfl
theorem setA0 (st : DS) : setAll [] [] st = some st := rfl
theorem setA1 (i : Nat) (is : List Nat) (r : Vl) (rs : List Vl) (st : DS) : setAll (i :: is) (r :: rs) st = setAll is rs (st.set i r.sl) := rfl
end
end DL
end
section
namespace LC
open PySem (Str)
open L2 (atI ixN CMul CDivW CMulW CPow)
open DL
variable {Sg : Tab}
def MD : Int := 2147480009
/-- dice: three ints, B bounds the third -/
def DI (B : Nat) (ns : List Int) : Prop := ∃ a m k : Int, ns = [a, m, k] ∧ 0 ≤ a ∧ 0 ≤ m ∧ m < 2147480009 ∧ 0 ≤ k ∧ k ≤ B
theorem DI.mono {B B' : Nat} {ns : List Int} (h : DI B ns) (hb : B ≤ B') : DI B' ns := by
  obtain ⟨a, m, k, e, h1, h2, h3, h4, h5⟩ := h
  exact ⟨a, m, k, e, h1, h2, h3, h4, by omega⟩
def sp_roll : Spec := fun ds c Q E => ∃ (n : Int) (B : Nat), ds = [.cell, .int n] ∧ 0 < n ∧ n ≤ 1000000000000 ∧ DI B c ∧ B ≤ 1000000 ∧ ∀ r c', 0 ≤ r → r < n → DI (B + 1) c' → Q (.d (.int r)) c'
def sp_pick : Spec := fun ds c Q E => ∃ (xs : List D) (B : Nat), ds = [.cell, .lst xs] ∧ 0 < xs.length ∧ xs.length ≤ 100000 ∧ DI B c ∧ B ≤ 1000000 ∧ ∀ x c', x ∈ xs → DI (B + 1) c' → Q (.d x) c'
def sp_dice : Spec := fun ds c Q E => ∃ (ns : List Int) (s : Nat), ds = [.scr ns, .int s] ∧ s ≤ 1000 ∧ ns.length ≤ 1000 ∧ ∀ ns', DI 0 ns' → Q (.own (ns'.map D.int)) c
def sp_gcd : Spec := fun ds c Q E => ∃ a b : Int, ds = [.int a, .int b] ∧ a.natAbs * b.natAbs < 2 ^ 399 ∧ Q (.d (.int (Nat.gcd a.natAbs b.natAbs : Nat))) c
theorem log_le {n : Int} (h0 : 0 < n) (h : n ≤ 1000000000000) : n.natAbs.log2 < 9000 := by
  have h1 : n.natAbs < 2 ^ 50 := Nat.lt_of_le_of_lt (show n.natAbs ≤ 1000000000000 by omega) (by decide)
  have := (Nat.log2_lt (n := n.natAbs) (k := 50) (by omega)).mpr h1
  omega
theorem atI0 {α : Type} (a b c : α) : atI [a, b, c] 0 = some a := rfl
theorem atI1 {α : Type} (a b c : α) : atI [a, b, c] 1 = some b := rfl
theorem atI2 {α : Type} (a b c : α) : atI [a, b, c] 2 = some c := rfl
theorem putc {z : Int} {r : List Sl} {a b c : Int} {Q : DS → Prop} : (putK 0 (.int 0) (.int z) ⟨.d .cell :: r, [a, b, c]⟩ Q = Q ⟨.d .cell :: r, [z, b, c]⟩) ∧ (putK 0 (.int 1) (.int z) ⟨.d .cell :: r, [a, b, c]⟩ Q = Q ⟨.d .cell :: r, [a, z, c]⟩) ∧ (putK 0 (.int 2) (.int z) ⟨.d .cell :: r, [a, b, c]⟩ Q = Q ⟨.d .cell :: r, [a, b, z]⟩) := by
  refine ⟨propext ⟨fun ⟨m, w, h1, h2, h3⟩ => ?_, fun h => ⟨0, z, rfl, rfl, h⟩⟩, propext ⟨fun ⟨m, w, h1, h2, h3⟩ => ?_, fun h => ⟨1, z, rfl, rfl, h⟩⟩, propext ⟨fun ⟨m, w, h1, h2, h3⟩ => ?_, fun h => ⟨2, z, rfl, rfl, h⟩⟩⟩
  all_goals (cases h1; cases h2; exact h3)
theorem k_roll : Keeps Sg 3 b__law_roll sp_roll := by
  rintro ds c Q E ⟨n, B, rfl, hn, hn2, ⟨a, m, k, rfl, h1, h2, h3, h4, h5⟩, hB, hq⟩
  unfold b__law_roll
  (try simp -dsimp only [kK_eq, optK_some, blK_eq, intK_eq, strK_eq, iteK_t, iteK_f, andK_t, sK_some, valS_d, valS_own, valS_tp, ↓wE_v, ↓wE_k, ↓wE_bin, ↓wE_neg, ↓wE_no, ↓wE_cmp, ↓wE_chn, ↓wE_isN, ↓wE_ntN, ↓wE_and, ↓wE_or, ↓wE_orT, ↓wE_ite, ↓wE_call, ↓wE_callk, ↓wE_refused, ↓wE_callc, ↓wE_bi, ↓wE_isi, ↓wE_lenv, ↓wE_ixv, ↓wE_ix, ↓wE_sl, ↓wE_rev, ↓wE_tup, ↓wE_tpl, ↓wE_lst, ↓wE_vtp, ↓wE_index, ↓wE_lrng, ↓wE_sset, ↓comp_eq, ↓allg_eq, lstK_eq, cutK_tup, cutK_lst, cutK_scr, revK_tup, revK_lst, vtpK_tp, ↓wEs_nil, ↓wEs_cons, ↓wVs_nil, ↓wVs_cons, ↓wO_no, ↓wO_yes, ↓wC_no, ↓wC_yes, ↓wI_it, ↓wI_r1, ↓wI_r2, r2K_eq, ↓wI_r3, ↓wI_zip, ↓wS_asg, ↓wS_par, ↓wS_unp, ↓wS_setv, ↓wS_swp, ↓wS_ex, ↓wS_ret, ↓wS_iff, ↓wS_brk, ↓wS_rais, ↓wS_newd, ↓wS_skip, ↓wS_app, ↓wS_ext, ↓wS_aug, ownK_eq, lstD_eq, augK_add, augK_sub, ↓wSs_nil, ↓wSs_cons, ↓whl_eq, ↓fr_eq, b_add, b_sub, b_mul, b_div, b_mod, b_pow, b_addT, b_addL, c_lt, c_le, c_gt, c_ge, c_eq, c_ne, f_abs, f_int, f_min, f_len, f_list, f_tuple, set_mk, sl_d, sl_own, sl_tp, dat_d, dat_own, dat_tp, it_tupW, it_lst, it_scr, items_tab, items_wh, is_own, is_tup, is_lst, is_scr, is_cell, is_tab, is_wh, ln_own, ln_tup, ln_lst, ln_scr, ln_dk, ln_tab, ln_wh, set_d, set_own, set_dk, set_tp, hide1, hide2, putT1, putT2, putT3, sl1, sl2, back1, back2, gone_unW, gone_dW, gone_ownW, setA0, setA1, List.map_cons, List.map_nil, List.length_cons, List.length_nil, List.cons_append, List.nil_append, List.getElem?_cons_zero, List.getElem?_cons_succ, List.replicate_succ, List.replicate_zero, List.set_cons_zero, List.set_cons_succ, exists_eq_left, exists_eq_left', Option.some.injEq, Sl.own.injEq, exists_eq', and_true, true_and, Nat.reduceAdd, Nat.reduceSub, Nat.zero_add, atI0, atI1, atI2])
  refine iteK_of (fun ha => ?_) (fun ha => ?_)
  · (try simp -dsimp only [kK_eq, optK_some, blK_eq, intK_eq, strK_eq, iteK_t, iteK_f, andK_t, sK_some, valS_d, valS_own, valS_tp, ↓wE_v, ↓wE_k, ↓wE_bin, ↓wE_neg, ↓wE_no, ↓wE_cmp, ↓wE_chn, ↓wE_isN, ↓wE_ntN, ↓wE_and, ↓wE_or, ↓wE_orT, ↓wE_ite, ↓wE_call, ↓wE_callk, ↓wE_refused, ↓wE_callc, ↓wE_bi, ↓wE_isi, ↓wE_lenv, ↓wE_ixv, ↓wE_ix, ↓wE_sl, ↓wE_rev, ↓wE_tup, ↓wE_tpl, ↓wE_lst, ↓wE_vtp, ↓wE_index, ↓wE_lrng, ↓wE_sset, ↓comp_eq, ↓allg_eq, lstK_eq, cutK_tup, cutK_lst, cutK_scr, revK_tup, revK_lst, vtpK_tp, ↓wEs_nil, ↓wEs_cons, ↓wVs_nil, ↓wVs_cons, ↓wO_no, ↓wO_yes, ↓wC_no, ↓wC_yes, ↓wI_it, ↓wI_r1, ↓wI_r2, r2K_eq, ↓wI_r3, ↓wI_zip, ↓wS_asg, ↓wS_par, ↓wS_unp, ↓wS_setv, ↓wS_swp, ↓wS_ex, ↓wS_ret, ↓wS_iff, ↓wS_brk, ↓wS_rais, ↓wS_newd, ↓wS_skip, ↓wS_app, ↓wS_ext, ↓wS_aug, ownK_eq, lstD_eq, augK_add, augK_sub, ↓wSs_nil, ↓wSs_cons, ↓whl_eq, ↓fr_eq, b_add, b_sub, b_mul, b_div, b_mod, b_pow, b_addT, b_addL, c_lt, c_le, c_gt, c_ge, c_eq, c_ne, f_abs, f_int, f_min, f_len, f_list, f_tuple, set_mk, sl_d, sl_own, sl_tp, dat_d, dat_own, dat_tp, it_tupW, it_lst, it_scr, items_tab, items_wh, is_own, is_tup, is_lst, is_scr, is_cell, is_tab, is_wh, ln_own, ln_tup, ln_lst, ln_scr, ln_dk, ln_tab, ln_wh, set_d, set_own, set_dk, set_tp, hide1, hide2, putT1, putT2, putT3, sl1, sl2, back1, back2, gone_unW, gone_dW, gone_ownW, setA0, setA1, List.map_cons, List.map_nil, List.length_cons, List.length_nil, List.cons_append, List.nil_append, List.getElem?_cons_zero, List.getElem?_cons_succ, List.replicate_succ, List.replicate_zero, List.set_cons_zero, List.set_cons_succ, exists_eq_left, exists_eq_left', Option.some.injEq, Sl.own.injEq, exists_eq', and_true, true_and, Nat.reduceAdd, Nat.reduceSub, Nat.zero_add, atI0, atI1, atI2, hn, putc.1])
    refine ⟨⟨hn, log_le hn hn2⟩, ?_⟩
    (try simp -dsimp only [kK_eq, optK_some, blK_eq, intK_eq, strK_eq, iteK_t, iteK_f, andK_t, sK_some, valS_d, valS_own, valS_tp, ↓wE_v, ↓wE_k, ↓wE_bin, ↓wE_neg, ↓wE_no, ↓wE_cmp, ↓wE_chn, ↓wE_isN, ↓wE_ntN, ↓wE_and, ↓wE_or, ↓wE_orT, ↓wE_ite, ↓wE_call, ↓wE_callk, ↓wE_refused, ↓wE_callc, ↓wE_bi, ↓wE_isi, ↓wE_lenv, ↓wE_ixv, ↓wE_ix, ↓wE_sl, ↓wE_rev, ↓wE_tup, ↓wE_tpl, ↓wE_lst, ↓wE_vtp, ↓wE_index, ↓wE_lrng, ↓wE_sset, ↓comp_eq, ↓allg_eq, lstK_eq, cutK_tup, cutK_lst, cutK_scr, revK_tup, revK_lst, vtpK_tp, ↓wEs_nil, ↓wEs_cons, ↓wVs_nil, ↓wVs_cons, ↓wO_no, ↓wO_yes, ↓wC_no, ↓wC_yes, ↓wI_it, ↓wI_r1, ↓wI_r2, r2K_eq, ↓wI_r3, ↓wI_zip, ↓wS_asg, ↓wS_par, ↓wS_unp, ↓wS_setv, ↓wS_swp, ↓wS_ex, ↓wS_ret, ↓wS_iff, ↓wS_brk, ↓wS_rais, ↓wS_newd, ↓wS_skip, ↓wS_app, ↓wS_ext, ↓wS_aug, ownK_eq, lstD_eq, augK_add, augK_sub, ↓wSs_nil, ↓wSs_cons, ↓whl_eq, ↓fr_eq, b_add, b_sub, b_mul, b_div, b_mod, b_pow, b_addT, b_addL, c_lt, c_le, c_gt, c_ge, c_eq, c_ne, f_abs, f_int, f_min, f_len, f_list, f_tuple, set_mk, sl_d, sl_own, sl_tp, dat_d, dat_own, dat_tp, it_tupW, it_lst, it_scr, items_tab, items_wh, is_own, is_tup, is_lst, is_scr, is_cell, is_tab, is_wh, ln_own, ln_tup, ln_lst, ln_scr, ln_dk, ln_tab, ln_wh, set_d, set_own, set_dk, set_tp, hide1, hide2, putT1, putT2, putT3, sl1, sl2, back1, back2, gone_unW, gone_dW, gone_ownW, setA0, setA1, List.map_cons, List.map_nil, List.length_cons, List.length_nil, List.cons_append, List.nil_append, List.getElem?_cons_zero, List.getElem?_cons_succ, List.replicate_succ, List.replicate_zero, List.set_cons_zero, List.set_cons_succ, exists_eq_left, exists_eq_left', Option.some.injEq, Sl.own.injEq, exists_eq', and_true, true_and, Nat.reduceAdd, Nat.reduceSub, Nat.zero_add, atI0, atI1, atI2, hn, putc.1])
    exact hq _ _ (Int.emod_nonneg _ (by omega)) (Int.emod_lt_of_pos _ hn) ⟨a / n, m, k, rfl, Int.ediv_nonneg h1 (by omega), h2, h3, h4, by omega⟩
  · (try simp -dsimp only [kK_eq, optK_some, blK_eq, intK_eq, strK_eq, iteK_t, iteK_f, andK_t, sK_some, valS_d, valS_own, valS_tp, ↓wE_v, ↓wE_k, ↓wE_bin, ↓wE_neg, ↓wE_no, ↓wE_cmp, ↓wE_chn, ↓wE_isN, ↓wE_ntN, ↓wE_and, ↓wE_or, ↓wE_orT, ↓wE_ite, ↓wE_call, ↓wE_callk, ↓wE_refused, ↓wE_callc, ↓wE_bi, ↓wE_isi, ↓wE_lenv, ↓wE_ixv, ↓wE_ix, ↓wE_sl, ↓wE_rev, ↓wE_tup, ↓wE_tpl, ↓wE_lst, ↓wE_vtp, ↓wE_index, ↓wE_lrng, ↓wE_sset, ↓comp_eq, ↓allg_eq, lstK_eq, cutK_tup, cutK_lst, cutK_scr, revK_tup, revK_lst, vtpK_tp, ↓wEs_nil, ↓wEs_cons, ↓wVs_nil, ↓wVs_cons, ↓wO_no, ↓wO_yes, ↓wC_no, ↓wC_yes, ↓wI_it, ↓wI_r1, ↓wI_r2, r2K_eq, ↓wI_r3, ↓wI_zip, ↓wS_asg, ↓wS_par, ↓wS_unp, ↓wS_setv, ↓wS_swp, ↓wS_ex, ↓wS_ret, ↓wS_iff, ↓wS_brk, ↓wS_rais, ↓wS_newd, ↓wS_skip, ↓wS_app, ↓wS_ext, ↓wS_aug, ownK_eq, lstD_eq, augK_add, augK_sub, ↓wSs_nil, ↓wSs_cons, ↓whl_eq, ↓fr_eq, b_add, b_sub, b_mul, b_div, b_mod, b_pow, b_addT, b_addL, c_lt, c_le, c_gt, c_ge, c_eq, c_ne, f_abs, f_int, f_min, f_len, f_list, f_tuple, set_mk, sl_d, sl_own, sl_tp, dat_d, dat_own, dat_tp, it_tupW, it_lst, it_scr, items_tab, items_wh, is_own, is_tup, is_lst, is_scr, is_cell, is_tab, is_wh, ln_own, ln_tup, ln_lst, ln_scr, ln_dk, ln_tab, ln_wh, set_d, set_own, set_dk, set_tp, hide1, hide2, putT1, putT2, putT3, sl1, sl2, back1, back2, gone_unW, gone_dW, gone_ownW, setA0, setA1, List.map_cons, List.map_nil, List.length_cons, List.length_nil, List.cons_append, List.nil_append, List.getElem?_cons_zero, List.getElem?_cons_succ, List.replicate_succ, List.replicate_zero, List.set_cons_zero, List.set_cons_succ, exists_eq_left, exists_eq_left', Option.some.injEq, Sl.own.injEq, exists_eq', and_true, true_and, Nat.reduceAdd, Nat.reduceSub, Nat.zero_add, atI0, atI1, atI2, hn, putc.1, putc.2.1, putc.2.2])
    refine ⟨.inl (.inr ⟨by omega, by omega⟩), .inl (.inl ⟨by omega, by omega⟩), .inl (.inr ⟨by omega, by omega⟩), by omega, ?_⟩
    (try simp -dsimp only [kK_eq, optK_some, blK_eq, intK_eq, strK_eq, iteK_t, iteK_f, andK_t, sK_some, valS_d, valS_own, valS_tp, ↓wE_v, ↓wE_k, ↓wE_bin, ↓wE_neg, ↓wE_no, ↓wE_cmp, ↓wE_chn, ↓wE_isN, ↓wE_ntN, ↓wE_and, ↓wE_or, ↓wE_orT, ↓wE_ite, ↓wE_call, ↓wE_callk, ↓wE_refused, ↓wE_callc, ↓wE_bi, ↓wE_isi, ↓wE_lenv, ↓wE_ixv, ↓wE_ix, ↓wE_sl, ↓wE_rev, ↓wE_tup, ↓wE_tpl, ↓wE_lst, ↓wE_vtp, ↓wE_index, ↓wE_lrng, ↓wE_sset, ↓comp_eq, ↓allg_eq, lstK_eq, cutK_tup, cutK_lst, cutK_scr, revK_tup, revK_lst, vtpK_tp, ↓wEs_nil, ↓wEs_cons, ↓wVs_nil, ↓wVs_cons, ↓wO_no, ↓wO_yes, ↓wC_no, ↓wC_yes, ↓wI_it, ↓wI_r1, ↓wI_r2, r2K_eq, ↓wI_r3, ↓wI_zip, ↓wS_asg, ↓wS_par, ↓wS_unp, ↓wS_setv, ↓wS_swp, ↓wS_ex, ↓wS_ret, ↓wS_iff, ↓wS_brk, ↓wS_rais, ↓wS_newd, ↓wS_skip, ↓wS_app, ↓wS_ext, ↓wS_aug, ownK_eq, lstD_eq, augK_add, augK_sub, ↓wSs_nil, ↓wSs_cons, ↓whl_eq, ↓fr_eq, b_add, b_sub, b_mul, b_div, b_mod, b_pow, b_addT, b_addL, c_lt, c_le, c_gt, c_ge, c_eq, c_ne, f_abs, f_int, f_min, f_len, f_list, f_tuple, set_mk, sl_d, sl_own, sl_tp, dat_d, dat_own, dat_tp, it_tupW, it_lst, it_scr, items_tab, items_wh, is_own, is_tup, is_lst, is_scr, is_cell, is_tab, is_wh, ln_own, ln_tup, ln_lst, ln_scr, ln_dk, ln_tab, ln_wh, set_d, set_own, set_dk, set_tp, hide1, hide2, putT1, putT2, putT3, sl1, sl2, back1, back2, gone_unW, gone_dW, gone_ownW, setA0, setA1, List.map_cons, List.map_nil, List.length_cons, List.length_nil, List.cons_append, List.nil_append, List.getElem?_cons_zero, List.getElem?_cons_succ, List.replicate_succ, List.replicate_zero, List.set_cons_zero, List.set_cons_succ, exists_eq_left, exists_eq_left', Option.some.injEq, Sl.own.injEq, exists_eq', and_true, true_and, Nat.reduceAdd, Nat.reduceSub, Nat.zero_add, atI0, atI1, atI2, hn, putc.1, putc.2.1, putc.2.2])
    refine ⟨⟨by omega, by decide +kernel⟩, ?_⟩
    (try simp -dsimp only [kK_eq, optK_some, blK_eq, intK_eq, strK_eq, iteK_t, iteK_f, andK_t, sK_some, valS_d, valS_own, valS_tp, ↓wE_v, ↓wE_k, ↓wE_bin, ↓wE_neg, ↓wE_no, ↓wE_cmp, ↓wE_chn, ↓wE_isN, ↓wE_ntN, ↓wE_and, ↓wE_or, ↓wE_orT, ↓wE_ite, ↓wE_call, ↓wE_callk, ↓wE_refused, ↓wE_callc, ↓wE_bi, ↓wE_isi, ↓wE_lenv, ↓wE_ixv, ↓wE_ix, ↓wE_sl, ↓wE_rev, ↓wE_tup, ↓wE_tpl, ↓wE_lst, ↓wE_vtp, ↓wE_index, ↓wE_lrng, ↓wE_sset, ↓comp_eq, ↓allg_eq, lstK_eq, cutK_tup, cutK_lst, cutK_scr, revK_tup, revK_lst, vtpK_tp, ↓wEs_nil, ↓wEs_cons, ↓wVs_nil, ↓wVs_cons, ↓wO_no, ↓wO_yes, ↓wC_no, ↓wC_yes, ↓wI_it, ↓wI_r1, ↓wI_r2, r2K_eq, ↓wI_r3, ↓wI_zip, ↓wS_asg, ↓wS_par, ↓wS_unp, ↓wS_setv, ↓wS_swp, ↓wS_ex, ↓wS_ret, ↓wS_iff, ↓wS_brk, ↓wS_rais, ↓wS_newd, ↓wS_skip, ↓wS_app, ↓wS_ext, ↓wS_aug, ownK_eq, lstD_eq, augK_add, augK_sub, ↓wSs_nil, ↓wSs_cons, ↓whl_eq, ↓fr_eq, b_add, b_sub, b_mul, b_div, b_mod, b_pow, b_addT, b_addL, c_lt, c_le, c_gt, c_ge, c_eq, c_ne, f_abs, f_int, f_min, f_len, f_list, f_tuple, set_mk, sl_d, sl_own, sl_tp, dat_d, dat_own, dat_tp, it_tupW, it_lst, it_scr, items_tab, items_wh, is_own, is_tup, is_lst, is_scr, is_cell, is_tab, is_wh, ln_own, ln_tup, ln_lst, ln_scr, ln_dk, ln_tab, ln_wh, set_d, set_own, set_dk, set_tp, hide1, hide2, putT1, putT2, putT3, sl1, sl2, back1, back2, gone_unW, gone_dW, gone_ownW, setA0, setA1, List.map_cons, List.map_nil, List.length_cons, List.length_nil, List.cons_append, List.nil_append, List.getElem?_cons_zero, List.getElem?_cons_succ, List.replicate_succ, List.replicate_zero, List.set_cons_zero, List.set_cons_succ, exists_eq_left, exists_eq_left', Option.some.injEq, Sl.own.injEq, exists_eq', and_true, true_and, Nat.reduceAdd, Nat.reduceSub, Nat.zero_add, atI0, atI1, atI2, hn, putc.1, putc.2.1, putc.2.2])
    have e1 := Int.emod_nonneg (m * 52501 + (k + 1) * (k + 1) * 1009 + 77) (by omega : (2147480009 : Int) ≠ 0)
    have e2 := Int.emod_lt_of_pos (m * 52501 + (k + 1) * (k + 1) * 1009 + 77) (by omega : (0 : Int) < 2147480009)
    exact hq _ _ (Int.emod_nonneg _ (by omega)) (Int.emod_lt_of_pos _ hn) ⟨a, _, k + 1, rfl, h1, e1, e2, by omega, by omega⟩
theorem k_pick (h1 : Sg "_law_roll" = sp_roll) : Keeps Sg 2 b__law_pick sp_pick := by
  rintro ds c Q E ⟨xs, B, rfl, hx, hx2, hd, hB, hq⟩
  unfold b__law_pick
  simp [wpSs, wpEs, wpVs, wpO, wpC, wpI, wpE.eq_1, wpE.eq_2, wpE.eq_3, wpE.eq_4, wpE.eq_5, wpE.eq_6, wpE.eq_7, wpE.eq_8, wpE.eq_9, wpE.eq_10, wpE.eq_11, wpE.eq_12, wpE.eq_13, wpE.eq_14, wpE.eq_15, wpE.eq_16, wpE.eq_17, wpE.eq_18, wpE.eq_19, wpE.eq_20, wpE.eq_21, wpE.eq_22, wpE.eq_23, wpE.eq_24, wpE.eq_25, wpE.eq_26, wpE.eq_27, wpE.eq_28, wpE.eq_31, wpE.eq_32, wpE.eq_33, wpE.eq_34, comp_eq, allg_eq, wpS.eq_1, wpS.eq_2, wpS.eq_3, wpS.eq_4, wpS.eq_5, wpS.eq_6, wpS.eq_7, wpS.eq_8, wpS.eq_9, wpS.eq_10, wpS.eq_11, wpS.eq_14, wpS.eq_15, wpS.eq_16, wpS.eq_17, wpS.eq_18, whl_eq, fr_eq, getV, Vl.dat, Vl.sl, DS.set, setAll, putT, putAt, binD, cmpD, biD, hide, back, gone, Tg.slots, Sl.isSet, D.items, h1, sp_roll]
  refine ⟨hx, by omega, B, hd, hB, fun r c' hr0 hr1 hd' => ?_⟩
  have hl : r.toNat < xs.length := by omega
  exact ⟨xs[r.toNat], atI_get hr0 (List.getElem?_eq_getElem hl), hq _ _ (List.getElem_mem hl) hd'⟩
theorem gcd_step {x y n : Nat} (hy : 0 < y) (hxy : y ≤ x) (h : x * y < 2 ^ (n + 1)) : y * (x % y) < 2 ^ n := by
  have h1 : x % y < y := Nat.mod_lt _ hy
  have h2 : y + x % y ≤ x := by
    have h3 := Nat.div_add_mod x y
    have h4 : 1 ≤ x / y := Nat.div_pos hxy hy
    have h5 : y * 1 ≤ y * (x / y) := Nat.mul_le_mul_left y h4
    omega
  have h6 : 2 * (x % y) ≤ x := by omega
  have h7 : y * (2 * (x % y)) ≤ y * x := Nat.mul_le_mul_left y h6
  have h8 : y * (2 * (x % y)) = 2 * (y * (x % y)) := by rw [Nat.mul_left_comm]
  rw [h8, Nat.mul_comm y x] at h7
  rw [Nat.pow_succ] at h
  omega
theorem rngD_succ (lo : Int) (n : Nat) : rngD lo 1 (n + 1) = D.int lo :: rngD (lo + 1) 1 n := by
  unfold rngD
  rw [List.range_succ_eq_map, List.map_cons, List.map_map]
  congr 1
  · simp
  · refine List.map_congr_left fun i _ => ?_
    simp only [Function.comp]
    congr 1
    push_cast
    omega
theorem k_gcd : Keeps Sg 3 b__law_gcd sp_gcd := by
  rintro ds c Q E ⟨a, b, rfl, hab, hq⟩
  unfold b__law_gcd
  have ea : (if a < 0 then -a else a) = (a.natAbs : Int) := by split <;> omega
  have eb : (if b < 0 then -b else b) = (b.natAbs : Int) := by split <;> omega
  simp [wpSs, wpEs, wpVs, wpO, wpC, wpI, wpE.eq_1, wpE.eq_2, wpE.eq_3, wpE.eq_4, wpE.eq_5, wpE.eq_6, wpE.eq_7, wpE.eq_8, wpE.eq_9, wpE.eq_10, wpE.eq_11, wpE.eq_12, wpE.eq_13, wpE.eq_14, wpE.eq_15, wpE.eq_16, wpE.eq_17, wpE.eq_18, wpE.eq_19, wpE.eq_20, wpE.eq_21, wpE.eq_22, wpE.eq_23, wpE.eq_24, wpE.eq_25, wpE.eq_26, wpE.eq_27, wpE.eq_28, wpE.eq_31, wpE.eq_32, wpE.eq_33, wpE.eq_34, comp_eq, allg_eq, wpS.eq_1, wpS.eq_2, wpS.eq_3, wpS.eq_4, wpS.eq_5, wpS.eq_6, wpS.eq_7, wpS.eq_8, wpS.eq_9, wpS.eq_10, wpS.eq_11, wpS.eq_14, wpS.eq_15, wpS.eq_16, wpS.eq_17, wpS.eq_18, whl_eq, fr_eq, getV, Vl.dat, Vl.sl, DS.set, setAll, putT, putAt, binD, cmpD, biD, hide, back, gone, Tg.slots, Sl.isSet, ea, eb]
  refine ⟨by unfold rngOk; omega, ?_⟩
  refine for_ind (fun xs st => ∃ (n : Nat) (lo : Int) (x y : Nat) (s : Sl), xs = rngD lo 1 n ∧ st = ⟨[.d (.int x), .d (.int y), s], c⟩ ∧ Nat.gcd x y = Nat.gcd a.natAbs b.natAbs ∧ ((y ≤ x ∧ x * y < 2 ^ n) ∨ (x < y ∧ 0 < n ∧ x * y < 2 ^ (n - 1)))) (fun x xs st hI => ?_) (fun st hI => ?_) ⟨400, 0, a.natAbs, b.natAbs, _, rfl, rfl, rfl, ?_⟩
  · obtain ⟨n, lo, u, v, s, hx, rfl, hg, hb⟩ := hI
    cases n with
    | zero => cases hx
    | succ n =>
      rw [rngD_succ] at hx
      cases hx
      refine ⟨_, rfl, fun nx hn => ?_⟩
      by_cases hv : v = 0
      · subst hv
        simp [wpSs, wpEs, wpVs, wpO, wpC, wpI, wpE.eq_1, wpE.eq_2, wpE.eq_3, wpE.eq_4, wpE.eq_5, wpE.eq_6, wpE.eq_7, wpE.eq_8, wpE.eq_9, wpE.eq_10, wpE.eq_11, wpE.eq_12, wpE.eq_13, wpE.eq_14, wpE.eq_15, wpE.eq_16, wpE.eq_17, wpE.eq_18, wpE.eq_19, wpE.eq_20, wpE.eq_21, wpE.eq_22, wpE.eq_23, wpE.eq_24, wpE.eq_25, wpE.eq_26, wpE.eq_27, wpE.eq_28, wpE.eq_31, wpE.eq_32, wpE.eq_33, wpE.eq_34, comp_eq, allg_eq, wpS.eq_1, wpS.eq_2, wpS.eq_3, wpS.eq_4, wpS.eq_5, wpS.eq_6, wpS.eq_7, wpS.eq_8, wpS.eq_9, wpS.eq_10, wpS.eq_11, wpS.eq_14, wpS.eq_15, wpS.eq_16, wpS.eq_17, wpS.eq_18, whl_eq, fr_eq, getV, Vl.dat, Vl.sl, DS.set, setAll, putT, putAt, binD, cmpD, biD, hide, back, gone, Tg.slots, Sl.isSet]
        simp at hg
        rw [hg]
        exact hq
      · have hv' : ¬ ((v : Int) = 0) := by omega
        have hv2 : (0 : Int) < (v : Int) := by omega
        simp [wpSs, wpEs, wpVs, wpO, wpC, wpI, wpE.eq_1, wpE.eq_2, wpE.eq_3, wpE.eq_4, wpE.eq_5, wpE.eq_6, wpE.eq_7, wpE.eq_8, wpE.eq_9, wpE.eq_10, wpE.eq_11, wpE.eq_12, wpE.eq_13, wpE.eq_14, wpE.eq_15, wpE.eq_16, wpE.eq_17, wpE.eq_18, wpE.eq_19, wpE.eq_20, wpE.eq_21, wpE.eq_22, wpE.eq_23, wpE.eq_24, wpE.eq_25, wpE.eq_26, wpE.eq_27, wpE.eq_28, wpE.eq_31, wpE.eq_32, wpE.eq_33, wpE.eq_34, comp_eq, allg_eq, wpS.eq_1, wpS.eq_2, wpS.eq_3, wpS.eq_4, wpS.eq_5, wpS.eq_6, wpS.eq_7, wpS.eq_8, wpS.eq_9, wpS.eq_10, wpS.eq_11, wpS.eq_14, wpS.eq_15, wpS.eq_16, wpS.eq_17, wpS.eq_18, whl_eq, fr_eq, getV, Vl.dat, Vl.sl, DS.set, setAll, putT, putAt, binD, cmpD, biD, hide, back, gone, Tg.slots, Sl.isSet, hv, hv2, Nat.pos_of_ne_zero hv]
        refine hn _ ⟨n, lo + 1, v, u % v, .d (.int lo), rfl, by simp, ?_, ?_⟩
        · rw [← hg, Nat.gcd_comm u v, Nat.gcd_rec v u, Nat.gcd_comm]
        · rcases hb with ⟨h1, h2⟩ | ⟨h1, h2, h3⟩
          · exact .inl ⟨Nat.le_of_lt (Nat.mod_lt _ (by omega)), gcd_step (by omega) h1 h2⟩
          · rw [Nat.mod_eq_of_lt h1]
            refine .inl ⟨by omega, ?_⟩
            rw [Nat.mul_comm]
            exact h3
  · obtain ⟨n, lo, u, v, s, hx, rfl, hg, hb⟩ := hI
    cases n with
    | succ n =>
      rw [rngD_succ] at hx
      cases hx
    | zero =>
      have hv : v = 0 := by
        rcases hb with ⟨h1, h2⟩ | ⟨_, h2, _⟩
        · rcases Nat.eq_zero_or_pos v with h | h
          · exact h
          · have : 1 ≤ u * v := Nat.mul_pos (by omega) h
            omega
        · omega
      subst hv
      simp [wpSs, wpEs, wpVs, wpO, wpC, wpI, wpE.eq_1, wpE.eq_2, wpE.eq_3, wpE.eq_4, wpE.eq_5, wpE.eq_6, wpE.eq_7, wpE.eq_8, wpE.eq_9, wpE.eq_10, wpE.eq_11, wpE.eq_12, wpE.eq_13, wpE.eq_14, wpE.eq_15, wpE.eq_16, wpE.eq_17, wpE.eq_18, wpE.eq_19, wpE.eq_20, wpE.eq_21, wpE.eq_22, wpE.eq_23, wpE.eq_24, wpE.eq_25, wpE.eq_26, wpE.eq_27, wpE.eq_28, wpE.eq_31, wpE.eq_32, wpE.eq_33, wpE.eq_34, comp_eq, allg_eq, wpS.eq_1, wpS.eq_2, wpS.eq_3, wpS.eq_4, wpS.eq_5, wpS.eq_6, wpS.eq_7, wpS.eq_8, wpS.eq_9, wpS.eq_10, wpS.eq_11, wpS.eq_14, wpS.eq_15, wpS.eq_16, wpS.eq_17, wpS.eq_18, whl_eq, fr_eq, getV, Vl.dat, Vl.sl, DS.set, setAll, putT, putAt, binD, cmpD, biD, hide, back, gone, Tg.slots, Sl.isSet]
      simp at hg
      rw [hg]
      exact hq
  · by_cases h : b.natAbs ≤ a.natAbs
    · refine .inl ⟨h, Nat.lt_of_lt_of_le hab ?_⟩
      exact Nat.pow_le_pow_right (by decide) (by decide)
    · exact .inr ⟨by omega, by decide, hab⟩
theorem k_dice : Keeps Sg 5 b__law_dice sp_dice := by
  rintro ds c Q E ⟨ns, s, rfl, hs, hl, hq⟩
  unfold b__law_dice
  have key : ∀ own : Int, wpSs Sg (.cons (.asg 3 (.bin .Add (.k (.int 930011)) (.bin .Mult (.k (.int 7907)) (.v 1)))) (.cons (.fr (.one 4) (.it (.bin .Add (.sl (.v 0) .no (.yes (.k (.int 6)))) (.lst (.cons (.v 2) .nil)))) (.cons (.asg 3 (.bin .Mod (.bi .int (.cons (.bin .Add (.bin .Mult (.v 3) (.k (.int 48271))) (.bin .Mod (.bi .int (.cons (.v 4) .nil)) (.k (.int 2147480009)))) .nil)) (.k (.int 2147480009)))) .nil)) (.cons (.ret (.lst (.cons (.ite (.or (.cmp .Lt (.v 2) (.k (.int 0))) (.cmp .GtE (.v 2) (.bin .Pow (.k (.int 10)) (.k (.int 16))))) (.bi .abs (.cons (.v 2) .nil)) (.k (.int 0))) (.cons (.v 3) (.cons (.k (.int 0)) .nil))))) .nil)))
      { nx := fun st => Q (.d .non) st.cel, rt := fun r st => Q r st.cel, rs := fun s st => E s st.cel } ⟨[.d (.scr ns), .d (.int s), .d (.int own), .un, .un], c⟩ := by
    intro own
    (try simp -dsimp only [kK_eq, optK_some, blK_eq, intK_eq, strK_eq, iteK_t, iteK_f, andK_t, sK_some, valS_d, valS_own, valS_tp, ↓wE_v, ↓wE_k, ↓wE_bin, ↓wE_neg, ↓wE_no, ↓wE_cmp, ↓wE_chn, ↓wE_isN, ↓wE_ntN, ↓wE_and, ↓wE_or, ↓wE_orT, ↓wE_ite, ↓wE_call, ↓wE_callk, ↓wE_refused, ↓wE_callc, ↓wE_bi, ↓wE_isi, ↓wE_lenv, ↓wE_ixv, ↓wE_ix, ↓wE_sl, ↓wE_rev, ↓wE_tup, ↓wE_tpl, ↓wE_lst, ↓wE_vtp, ↓wE_index, ↓wE_lrng, ↓wE_sset, ↓comp_eq, ↓allg_eq, lstK_eq, cutK_tup, cutK_lst, cutK_scr, revK_tup, revK_lst, vtpK_tp, ↓wEs_nil, ↓wEs_cons, ↓wVs_nil, ↓wVs_cons, ↓wO_no, ↓wO_yes, ↓wC_no, ↓wC_yes, ↓wI_it, ↓wI_r1, ↓wI_r2, r2K_eq, ↓wI_r3, ↓wI_zip, ↓wS_asg, ↓wS_par, ↓wS_unp, ↓wS_setv, ↓wS_swp, ↓wS_ex, ↓wS_ret, ↓wS_iff, ↓wS_brk, ↓wS_rais, ↓wS_newd, ↓wS_skip, ↓wS_app, ↓wS_ext, ↓wS_aug, ownK_eq, lstD_eq, augK_add, augK_sub, ↓wSs_nil, ↓wSs_cons, ↓whl_eq, ↓fr_eq, b_add, b_sub, b_mul, b_div, b_mod, b_pow, b_addT, b_addL, c_lt, c_le, c_gt, c_ge, c_eq, c_ne, f_abs, f_int, f_min, f_len, f_list, f_tuple, set_mk, sl_d, sl_own, sl_tp, dat_d, dat_own, dat_tp, it_tupW, it_lst, it_scr, items_tab, items_wh, is_own, is_tup, is_lst, is_scr, is_cell, is_tab, is_wh, ln_own, ln_tup, ln_lst, ln_scr, ln_dk, ln_tab, ln_wh, set_d, set_own, set_dk, set_tp, hide1, hide2, putT1, putT2, putT3, sl1, sl2, back1, back2, gone_unW, gone_dW, gone_ownW, setA0, setA1, List.map_cons, List.map_nil, List.length_cons, List.length_nil, List.cons_append, List.nil_append, List.getElem?_cons_zero, List.getElem?_cons_succ, List.replicate_succ, List.replicate_zero, List.set_cons_zero, List.set_cons_succ, exists_eq_left, exists_eq_left', Option.some.injEq, Sl.own.injEq, exists_eq', and_true, true_and, Nat.reduceAdd, Nat.reduceSub, Nat.zero_add])
    refine ⟨.inl (.inl ⟨by omega, by omega⟩), ?_⟩
    (try simp -dsimp only [kK_eq, optK_some, blK_eq, intK_eq, strK_eq, iteK_t, iteK_f, andK_t, sK_some, valS_d, valS_own, valS_tp, ↓wE_v, ↓wE_k, ↓wE_bin, ↓wE_neg, ↓wE_no, ↓wE_cmp, ↓wE_chn, ↓wE_isN, ↓wE_ntN, ↓wE_and, ↓wE_or, ↓wE_orT, ↓wE_ite, ↓wE_call, ↓wE_callk, ↓wE_refused, ↓wE_callc, ↓wE_bi, ↓wE_isi, ↓wE_lenv, ↓wE_ixv, ↓wE_ix, ↓wE_sl, ↓wE_rev, ↓wE_tup, ↓wE_tpl, ↓wE_lst, ↓wE_vtp, ↓wE_index, ↓wE_lrng, ↓wE_sset, ↓comp_eq, ↓allg_eq, lstK_eq, cutK_tup, cutK_lst, cutK_scr, revK_tup, revK_lst, vtpK_tp, ↓wEs_nil, ↓wEs_cons, ↓wVs_nil, ↓wVs_cons, ↓wO_no, ↓wO_yes, ↓wC_no, ↓wC_yes, ↓wI_it, ↓wI_r1, ↓wI_r2, r2K_eq, ↓wI_r3, ↓wI_zip, ↓wS_asg, ↓wS_par, ↓wS_unp, ↓wS_setv, ↓wS_swp, ↓wS_ex, ↓wS_ret, ↓wS_iff, ↓wS_brk, ↓wS_rais, ↓wS_newd, ↓wS_skip, ↓wS_app, ↓wS_ext, ↓wS_aug, ownK_eq, lstD_eq, augK_add, augK_sub, ↓wSs_nil, ↓wSs_cons, ↓whl_eq, ↓fr_eq, b_add, b_sub, b_mul, b_div, b_mod, b_pow, b_addT, b_addL, c_lt, c_le, c_gt, c_ge, c_eq, c_ne, f_abs, f_int, f_min, f_len, f_list, f_tuple, set_mk, sl_d, sl_own, sl_tp, dat_d, dat_own, dat_tp, it_tupW, it_lst, it_scr, items_tab, items_wh, is_own, is_tup, is_lst, is_scr, is_cell, is_tab, is_wh, ln_own, ln_tup, ln_lst, ln_scr, ln_dk, ln_tab, ln_wh, set_d, set_own, set_dk, set_tp, hide1, hide2, putT1, putT2, putT3, sl1, sl2, back1, back2, gone_unW, gone_dW, gone_ownW, setA0, setA1, List.map_cons, List.map_nil, List.length_cons, List.length_nil, List.cons_append, List.nil_append, List.getElem?_cons_zero, List.getElem?_cons_succ, List.replicate_succ, List.replicate_zero, List.set_cons_zero, List.set_cons_succ, exists_eq_left, exists_eq_left', Option.some.injEq, Sl.own.injEq, exists_eq', and_true, true_and, Nat.reduceAdd, Nat.reduceSub, Nat.zero_add])
    refine ⟨?_, ?_⟩
    · have : (cutD (ns.map D.int) none (some 6)).length ≤ 1000 := by
        unfold cutD
        rw [List.length_take, List.length_drop, List.length_map]
        omega
      omega
    · refine for_ind (fun xs st => ∃ (js : List Int) (m : Int) (s4 : Sl), xs = js.map D.int ∧ -(2 ^ 62) < m ∧ m < 2 ^ 62 ∧ (js = [] → 0 ≤ m ∧ m < 2147480009) ∧ st = ⟨[.d (.scr ns), .d (.int s), .d (.int own), .d (.int m), s4], c⟩) (fun x xs st hI => ?_) (fun st hI => ?_) ?_
      · obtain ⟨js, m, s4, hx, h1, h2, h3, rfl⟩ := hI
        cases js with
        | nil => cases hx
        | cons j js =>
          cases hx
          refine ⟨_, rfl, fun nx hn => ?_⟩
          have e1 := Int.emod_nonneg (m * 48271 + j % 2147480009) (by omega : (2147480009 : Int) ≠ 0)
          have e2 := Int.emod_lt_of_pos (m * 48271 + j % 2147480009) (by omega : (0 : Int) < 2147480009)
          (try simp -dsimp only [kK_eq, optK_some, blK_eq, intK_eq, strK_eq, iteK_t, iteK_f, andK_t, sK_some, valS_d, valS_own, valS_tp, ↓wE_v, ↓wE_k, ↓wE_bin, ↓wE_neg, ↓wE_no, ↓wE_cmp, ↓wE_chn, ↓wE_isN, ↓wE_ntN, ↓wE_and, ↓wE_or, ↓wE_orT, ↓wE_ite, ↓wE_call, ↓wE_callk, ↓wE_refused, ↓wE_callc, ↓wE_bi, ↓wE_isi, ↓wE_lenv, ↓wE_ixv, ↓wE_ix, ↓wE_sl, ↓wE_rev, ↓wE_tup, ↓wE_tpl, ↓wE_lst, ↓wE_vtp, ↓wE_index, ↓wE_lrng, ↓wE_sset, ↓comp_eq, ↓allg_eq, lstK_eq, cutK_tup, cutK_lst, cutK_scr, revK_tup, revK_lst, vtpK_tp, ↓wEs_nil, ↓wEs_cons, ↓wVs_nil, ↓wVs_cons, ↓wO_no, ↓wO_yes, ↓wC_no, ↓wC_yes, ↓wI_it, ↓wI_r1, ↓wI_r2, r2K_eq, ↓wI_r3, ↓wI_zip, ↓wS_asg, ↓wS_par, ↓wS_unp, ↓wS_setv, ↓wS_swp, ↓wS_ex, ↓wS_ret, ↓wS_iff, ↓wS_brk, ↓wS_rais, ↓wS_newd, ↓wS_skip, ↓wS_app, ↓wS_ext, ↓wS_aug, ownK_eq, lstD_eq, augK_add, augK_sub, ↓wSs_nil, ↓wSs_cons, ↓whl_eq, ↓fr_eq, b_add, b_sub, b_mul, b_div, b_mod, b_pow, b_addT, b_addL, c_lt, c_le, c_gt, c_ge, c_eq, c_ne, f_abs, f_int, f_min, f_len, f_list, f_tuple, set_mk, sl_d, sl_own, sl_tp, dat_d, dat_own, dat_tp, it_tupW, it_lst, it_scr, items_tab, items_wh, is_own, is_tup, is_lst, is_scr, is_cell, is_tab, is_wh, ln_own, ln_tup, ln_lst, ln_scr, ln_dk, ln_tab, ln_wh, set_d, set_own, set_dk, set_tp, hide1, hide2, putT1, putT2, putT3, sl1, sl2, back1, back2, gone_unW, gone_dW, gone_ownW, setA0, setA1, List.map_cons, List.map_nil, List.length_cons, List.length_nil, List.cons_append, List.nil_append, List.getElem?_cons_zero, List.getElem?_cons_succ, List.replicate_succ, List.replicate_zero, List.set_cons_zero, List.set_cons_succ, exists_eq_left, exists_eq_left', Option.some.injEq, Sl.own.injEq, exists_eq', and_true, true_and, Nat.reduceAdd, Nat.reduceSub, Nat.zero_add])
          refine ⟨.inl (.inr ⟨by omega, by omega⟩), by omega, ?_⟩
          (try simp -dsimp only [kK_eq, optK_some, blK_eq, intK_eq, strK_eq, iteK_t, iteK_f, andK_t, sK_some, valS_d, valS_own, valS_tp, ↓wE_v, ↓wE_k, ↓wE_bin, ↓wE_neg, ↓wE_no, ↓wE_cmp, ↓wE_chn, ↓wE_isN, ↓wE_ntN, ↓wE_and, ↓wE_or, ↓wE_orT, ↓wE_ite, ↓wE_call, ↓wE_callk, ↓wE_refused, ↓wE_callc, ↓wE_bi, ↓wE_isi, ↓wE_lenv, ↓wE_ixv, ↓wE_ix, ↓wE_sl, ↓wE_rev, ↓wE_tup, ↓wE_tpl, ↓wE_lst, ↓wE_vtp, ↓wE_index, ↓wE_lrng, ↓wE_sset, ↓comp_eq, ↓allg_eq, lstK_eq, cutK_tup, cutK_lst, cutK_scr, revK_tup, revK_lst, vtpK_tp, ↓wEs_nil, ↓wEs_cons, ↓wVs_nil, ↓wVs_cons, ↓wO_no, ↓wO_yes, ↓wC_no, ↓wC_yes, ↓wI_it, ↓wI_r1, ↓wI_r2, r2K_eq, ↓wI_r3, ↓wI_zip, ↓wS_asg, ↓wS_par, ↓wS_unp, ↓wS_setv, ↓wS_swp, ↓wS_ex, ↓wS_ret, ↓wS_iff, ↓wS_brk, ↓wS_rais, ↓wS_newd, ↓wS_skip, ↓wS_app, ↓wS_ext, ↓wS_aug, ownK_eq, lstD_eq, augK_add, augK_sub, ↓wSs_nil, ↓wSs_cons, ↓whl_eq, ↓fr_eq, b_add, b_sub, b_mul, b_div, b_mod, b_pow, b_addT, b_addL, c_lt, c_le, c_gt, c_ge, c_eq, c_ne, f_abs, f_int, f_min, f_len, f_list, f_tuple, set_mk, sl_d, sl_own, sl_tp, dat_d, dat_own, dat_tp, it_tupW, it_lst, it_scr, items_tab, items_wh, is_own, is_tup, is_lst, is_scr, is_cell, is_tab, is_wh, ln_own, ln_tup, ln_lst, ln_scr, ln_dk, ln_tab, ln_wh, set_d, set_own, set_dk, set_tp, hide1, hide2, putT1, putT2, putT3, sl1, sl2, back1, back2, gone_unW, gone_dW, gone_ownW, setA0, setA1, List.map_cons, List.map_nil, List.length_cons, List.length_nil, List.cons_append, List.nil_append, List.getElem?_cons_zero, List.getElem?_cons_succ, List.replicate_succ, List.replicate_zero, List.set_cons_zero, List.set_cons_succ, exists_eq_left, exists_eq_left', Option.some.injEq, Sl.own.injEq, exists_eq', and_true, true_and, Nat.reduceAdd, Nat.reduceSub, Nat.zero_add])
          refine ⟨by omega, ?_⟩
          (try simp -dsimp only [kK_eq, optK_some, blK_eq, intK_eq, strK_eq, iteK_t, iteK_f, andK_t, sK_some, valS_d, valS_own, valS_tp, ↓wE_v, ↓wE_k, ↓wE_bin, ↓wE_neg, ↓wE_no, ↓wE_cmp, ↓wE_chn, ↓wE_isN, ↓wE_ntN, ↓wE_and, ↓wE_or, ↓wE_orT, ↓wE_ite, ↓wE_call, ↓wE_callk, ↓wE_refused, ↓wE_callc, ↓wE_bi, ↓wE_isi, ↓wE_lenv, ↓wE_ixv, ↓wE_ix, ↓wE_sl, ↓wE_rev, ↓wE_tup, ↓wE_tpl, ↓wE_lst, ↓wE_vtp, ↓wE_index, ↓wE_lrng, ↓wE_sset, ↓comp_eq, ↓allg_eq, lstK_eq, cutK_tup, cutK_lst, cutK_scr, revK_tup, revK_lst, vtpK_tp, ↓wEs_nil, ↓wEs_cons, ↓wVs_nil, ↓wVs_cons, ↓wO_no, ↓wO_yes, ↓wC_no, ↓wC_yes, ↓wI_it, ↓wI_r1, ↓wI_r2, r2K_eq, ↓wI_r3, ↓wI_zip, ↓wS_asg, ↓wS_par, ↓wS_unp, ↓wS_setv, ↓wS_swp, ↓wS_ex, ↓wS_ret, ↓wS_iff, ↓wS_brk, ↓wS_rais, ↓wS_newd, ↓wS_skip, ↓wS_app, ↓wS_ext, ↓wS_aug, ownK_eq, lstD_eq, augK_add, augK_sub, ↓wSs_nil, ↓wSs_cons, ↓whl_eq, ↓fr_eq, b_add, b_sub, b_mul, b_div, b_mod, b_pow, b_addT, b_addL, c_lt, c_le, c_gt, c_ge, c_eq, c_ne, f_abs, f_int, f_min, f_len, f_list, f_tuple, set_mk, sl_d, sl_own, sl_tp, dat_d, dat_own, dat_tp, it_tupW, it_lst, it_scr, items_tab, items_wh, is_own, is_tup, is_lst, is_scr, is_cell, is_tab, is_wh, ln_own, ln_tup, ln_lst, ln_scr, ln_dk, ln_tab, ln_wh, set_d, set_own, set_dk, set_tp, hide1, hide2, putT1, putT2, putT3, sl1, sl2, back1, back2, gone_unW, gone_dW, gone_ownW, setA0, setA1, List.map_cons, List.map_nil, List.length_cons, List.length_nil, List.cons_append, List.nil_append, List.getElem?_cons_zero, List.getElem?_cons_succ, List.replicate_succ, List.replicate_zero, List.set_cons_zero, List.set_cons_succ, exists_eq_left, exists_eq_left', Option.some.injEq, Sl.own.injEq, exists_eq', and_true, true_and, Nat.reduceAdd, Nat.reduceSub, Nat.zero_add])
          exact hn _ ⟨js, _, _, rfl, by omega, by omega, fun _ => ⟨e1, e2⟩, rfl⟩
      · obtain ⟨js, m, s4, hx, h1, h2, h3, rfl⟩ := hI
        cases js with
        | cons j js => cases hx
        | nil =>
          obtain ⟨h4, h5⟩ := h3 rfl
          (try simp -dsimp only [kK_eq, optK_some, blK_eq, intK_eq, strK_eq, iteK_t, iteK_f, andK_t, sK_some, valS_d, valS_own, valS_tp, ↓wE_v, ↓wE_k, ↓wE_bin, ↓wE_neg, ↓wE_no, ↓wE_cmp, ↓wE_chn, ↓wE_isN, ↓wE_ntN, ↓wE_and, ↓wE_or, ↓wE_orT, ↓wE_ite, ↓wE_call, ↓wE_callk, ↓wE_refused, ↓wE_callc, ↓wE_bi, ↓wE_isi, ↓wE_lenv, ↓wE_ixv, ↓wE_ix, ↓wE_sl, ↓wE_rev, ↓wE_tup, ↓wE_tpl, ↓wE_lst, ↓wE_vtp, ↓wE_index, ↓wE_lrng, ↓wE_sset, ↓comp_eq, ↓allg_eq, lstK_eq, cutK_tup, cutK_lst, cutK_scr, revK_tup, revK_lst, vtpK_tp, ↓wEs_nil, ↓wEs_cons, ↓wVs_nil, ↓wVs_cons, ↓wO_no, ↓wO_yes, ↓wC_no, ↓wC_yes, ↓wI_it, ↓wI_r1, ↓wI_r2, r2K_eq, ↓wI_r3, ↓wI_zip, ↓wS_asg, ↓wS_par, ↓wS_unp, ↓wS_setv, ↓wS_swp, ↓wS_ex, ↓wS_ret, ↓wS_iff, ↓wS_brk, ↓wS_rais, ↓wS_newd, ↓wS_skip, ↓wS_app, ↓wS_ext, ↓wS_aug, ownK_eq, lstD_eq, augK_add, augK_sub, ↓wSs_nil, ↓wSs_cons, ↓whl_eq, ↓fr_eq, b_add, b_sub, b_mul, b_div, b_mod, b_pow, b_addT, b_addL, c_lt, c_le, c_gt, c_ge, c_eq, c_ne, f_abs, f_int, f_min, f_len, f_list, f_tuple, set_mk, sl_d, sl_own, sl_tp, dat_d, dat_own, dat_tp, it_tupW, it_lst, it_scr, items_tab, items_wh, is_own, is_tup, is_lst, is_scr, is_cell, is_tab, is_wh, ln_own, ln_tup, ln_lst, ln_scr, ln_dk, ln_tab, ln_wh, set_d, set_own, set_dk, set_tp, hide1, hide2, putT1, putT2, putT3, sl1, sl2, back1, back2, gone_unW, gone_dW, gone_ownW, setA0, setA1, List.map_cons, List.map_nil, List.length_cons, List.length_nil, List.cons_append, List.nil_append, List.getElem?_cons_zero, List.getElem?_cons_succ, List.replicate_succ, List.replicate_zero, List.set_cons_zero, List.set_cons_succ, exists_eq_left, exists_eq_left', Option.some.injEq, Sl.own.injEq, exists_eq', and_true, true_and, Nat.reduceAdd, Nat.reduceSub, Nat.zero_add])
          have fin : ∀ a : Int, 0 ≤ a → Q (.own [.int a, .int m, .int 0]) c := fun a ha => hq [a, m, 0] ⟨a, m, 0, rfl, ha, h4, h5, by omega, by omega⟩
          refine iteK_of (fun ha => ?_) (fun ha => ?_)
          · (try simp -dsimp only [kK_eq, optK_some, blK_eq, intK_eq, strK_eq, iteK_t, iteK_f, andK_t, sK_some, valS_d, valS_own, valS_tp, ↓wE_v, ↓wE_k, ↓wE_bin, ↓wE_neg, ↓wE_no, ↓wE_cmp, ↓wE_chn, ↓wE_isN, ↓wE_ntN, ↓wE_and, ↓wE_or, ↓wE_orT, ↓wE_ite, ↓wE_call, ↓wE_callk, ↓wE_refused, ↓wE_callc, ↓wE_bi, ↓wE_isi, ↓wE_lenv, ↓wE_ixv, ↓wE_ix, ↓wE_sl, ↓wE_rev, ↓wE_tup, ↓wE_tpl, ↓wE_lst, ↓wE_vtp, ↓wE_index, ↓wE_lrng, ↓wE_sset, ↓comp_eq, ↓allg_eq, lstK_eq, cutK_tup, cutK_lst, cutK_scr, revK_tup, revK_lst, vtpK_tp, ↓wEs_nil, ↓wEs_cons, ↓wVs_nil, ↓wVs_cons, ↓wO_no, ↓wO_yes, ↓wC_no, ↓wC_yes, ↓wI_it, ↓wI_r1, ↓wI_r2, r2K_eq, ↓wI_r3, ↓wI_zip, ↓wS_asg, ↓wS_par, ↓wS_unp, ↓wS_setv, ↓wS_swp, ↓wS_ex, ↓wS_ret, ↓wS_iff, ↓wS_brk, ↓wS_rais, ↓wS_newd, ↓wS_skip, ↓wS_app, ↓wS_ext, ↓wS_aug, ownK_eq, lstD_eq, augK_add, augK_sub, ↓wSs_nil, ↓wSs_cons, ↓whl_eq, ↓fr_eq, b_add, b_sub, b_mul, b_div, b_mod, b_pow, b_addT, b_addL, c_lt, c_le, c_gt, c_ge, c_eq, c_ne, f_abs, f_int, f_min, f_len, f_list, f_tuple, set_mk, sl_d, sl_own, sl_tp, dat_d, dat_own, dat_tp, it_tupW, it_lst, it_scr, items_tab, items_wh, is_own, is_tup, is_lst, is_scr, is_cell, is_tab, is_wh, ln_own, ln_tup, ln_lst, ln_scr, ln_dk, ln_tab, ln_wh, set_d, set_own, set_dk, set_tp, hide1, hide2, putT1, putT2, putT3, sl1, sl2, back1, back2, gone_unW, gone_dW, gone_ownW, setA0, setA1, List.map_cons, List.map_nil, List.length_cons, List.length_nil, List.cons_append, List.nil_append, List.getElem?_cons_zero, List.getElem?_cons_succ, List.replicate_succ, List.replicate_zero, List.set_cons_zero, List.set_cons_succ, exists_eq_left, exists_eq_left', Option.some.injEq, Sl.own.injEq, exists_eq', and_true, true_and, Nat.reduceAdd, Nat.reduceSub, Nat.zero_add])
            refine fin _ ?_
            split <;> omega
          · (try simp -dsimp only [kK_eq, optK_some, blK_eq, intK_eq, strK_eq, iteK_t, iteK_f, andK_t, sK_some, valS_d, valS_own, valS_tp, ↓wE_v, ↓wE_k, ↓wE_bin, ↓wE_neg, ↓wE_no, ↓wE_cmp, ↓wE_chn, ↓wE_isN, ↓wE_ntN, ↓wE_and, ↓wE_or, ↓wE_orT, ↓wE_ite, ↓wE_call, ↓wE_callk, ↓wE_refused, ↓wE_callc, ↓wE_bi, ↓wE_isi, ↓wE_lenv, ↓wE_ixv, ↓wE_ix, ↓wE_sl, ↓wE_rev, ↓wE_tup, ↓wE_tpl, ↓wE_lst, ↓wE_vtp, ↓wE_index, ↓wE_lrng, ↓wE_sset, ↓comp_eq, ↓allg_eq, lstK_eq, cutK_tup, cutK_lst, cutK_scr, revK_tup, revK_lst, vtpK_tp, ↓wEs_nil, ↓wEs_cons, ↓wVs_nil, ↓wVs_cons, ↓wO_no, ↓wO_yes, ↓wC_no, ↓wC_yes, ↓wI_it, ↓wI_r1, ↓wI_r2, r2K_eq, ↓wI_r3, ↓wI_zip, ↓wS_asg, ↓wS_par, ↓wS_unp, ↓wS_setv, ↓wS_swp, ↓wS_ex, ↓wS_ret, ↓wS_iff, ↓wS_brk, ↓wS_rais, ↓wS_newd, ↓wS_skip, ↓wS_app, ↓wS_ext, ↓wS_aug, ownK_eq, lstD_eq, augK_add, augK_sub, ↓wSs_nil, ↓wSs_cons, ↓whl_eq, ↓fr_eq, b_add, b_sub, b_mul, b_div, b_mod, b_pow, b_addT, b_addL, c_lt, c_le, c_gt, c_ge, c_eq, c_ne, f_abs, f_int, f_min, f_len, f_list, f_tuple, set_mk, sl_d, sl_own, sl_tp, dat_d, dat_own, dat_tp, it_tupW, it_lst, it_scr, items_tab, items_wh, is_own, is_tup, is_lst, is_scr, is_cell, is_tab, is_wh, ln_own, ln_tup, ln_lst, ln_scr, ln_dk, ln_tab, ln_wh, set_d, set_own, set_dk, set_tp, hide1, hide2, putT1, putT2, putT3, sl1, sl2, back1, back2, gone_unW, gone_dW, gone_ownW, setA0, setA1, List.map_cons, List.map_nil, List.length_cons, List.length_nil, List.cons_append, List.nil_append, List.getElem?_cons_zero, List.getElem?_cons_succ, List.replicate_succ, List.replicate_zero, List.set_cons_zero, List.set_cons_succ, exists_eq_left, exists_eq_left', Option.some.injEq, Sl.own.injEq, exists_eq', and_true, true_and, Nat.reduceAdd, Nat.reduceSub, Nat.zero_add])
            refine ⟨⟨by omega, by omega, by decide⟩, ?_⟩
            (try simp -dsimp only [kK_eq, optK_some, blK_eq, intK_eq, strK_eq, iteK_t, iteK_f, andK_t, sK_some, valS_d, valS_own, valS_tp, ↓wE_v, ↓wE_k, ↓wE_bin, ↓wE_neg, ↓wE_no, ↓wE_cmp, ↓wE_chn, ↓wE_isN, ↓wE_ntN, ↓wE_and, ↓wE_or, ↓wE_orT, ↓wE_ite, ↓wE_call, ↓wE_callk, ↓wE_refused, ↓wE_callc, ↓wE_bi, ↓wE_isi, ↓wE_lenv, ↓wE_ixv, ↓wE_ix, ↓wE_sl, ↓wE_rev, ↓wE_tup, ↓wE_tpl, ↓wE_lst, ↓wE_vtp, ↓wE_index, ↓wE_lrng, ↓wE_sset, ↓comp_eq, ↓allg_eq, lstK_eq, cutK_tup, cutK_lst, cutK_scr, revK_tup, revK_lst, vtpK_tp, ↓wEs_nil, ↓wEs_cons, ↓wVs_nil, ↓wVs_cons, ↓wO_no, ↓wO_yes, ↓wC_no, ↓wC_yes, ↓wI_it, ↓wI_r1, ↓wI_r2, r2K_eq, ↓wI_r3, ↓wI_zip, ↓wS_asg, ↓wS_par, ↓wS_unp, ↓wS_setv, ↓wS_swp, ↓wS_ex, ↓wS_ret, ↓wS_iff, ↓wS_brk, ↓wS_rais, ↓wS_newd, ↓wS_skip, ↓wS_app, ↓wS_ext, ↓wS_aug, ownK_eq, lstD_eq, augK_add, augK_sub, ↓wSs_nil, ↓wSs_cons, ↓whl_eq, ↓fr_eq, b_add, b_sub, b_mul, b_div, b_mod, b_pow, b_addT, b_addL, c_lt, c_le, c_gt, c_ge, c_eq, c_ne, f_abs, f_int, f_min, f_len, f_list, f_tuple, set_mk, sl_d, sl_own, sl_tp, dat_d, dat_own, dat_tp, it_tupW, it_lst, it_scr, items_tab, items_wh, is_own, is_tup, is_lst, is_scr, is_cell, is_tab, is_wh, ln_own, ln_tup, ln_lst, ln_scr, ln_dk, ln_tab, ln_wh, set_d, set_own, set_dk, set_tp, hide1, hide2, putT1, putT2, putT3, sl1, sl2, back1, back2, gone_unW, gone_dW, gone_ownW, setA0, setA1, List.map_cons, List.map_nil, List.length_cons, List.length_nil, List.cons_append, List.nil_append, List.getElem?_cons_zero, List.getElem?_cons_succ, List.replicate_succ, List.replicate_zero, List.set_cons_zero, List.set_cons_succ, exists_eq_left, exists_eq_left', Option.some.injEq, Sl.own.injEq, exists_eq', and_true, true_and, Nat.reduceAdd, Nat.reduceSub, Nat.zero_add])
            refine iteK_of (fun hb => ?_) (fun hb => ?_)
            · (try simp -dsimp only [kK_eq, optK_some, blK_eq, intK_eq, strK_eq, iteK_t, iteK_f, andK_t, sK_some, valS_d, valS_own, valS_tp, ↓wE_v, ↓wE_k, ↓wE_bin, ↓wE_neg, ↓wE_no, ↓wE_cmp, ↓wE_chn, ↓wE_isN, ↓wE_ntN, ↓wE_and, ↓wE_or, ↓wE_orT, ↓wE_ite, ↓wE_call, ↓wE_callk, ↓wE_refused, ↓wE_callc, ↓wE_bi, ↓wE_isi, ↓wE_lenv, ↓wE_ixv, ↓wE_ix, ↓wE_sl, ↓wE_rev, ↓wE_tup, ↓wE_tpl, ↓wE_lst, ↓wE_vtp, ↓wE_index, ↓wE_lrng, ↓wE_sset, ↓comp_eq, ↓allg_eq, lstK_eq, cutK_tup, cutK_lst, cutK_scr, revK_tup, revK_lst, vtpK_tp, ↓wEs_nil, ↓wEs_cons, ↓wVs_nil, ↓wVs_cons, ↓wO_no, ↓wO_yes, ↓wC_no, ↓wC_yes, ↓wI_it, ↓wI_r1, ↓wI_r2, r2K_eq, ↓wI_r3, ↓wI_zip, ↓wS_asg, ↓wS_par, ↓wS_unp, ↓wS_setv, ↓wS_swp, ↓wS_ex, ↓wS_ret, ↓wS_iff, ↓wS_brk, ↓wS_rais, ↓wS_newd, ↓wS_skip, ↓wS_app, ↓wS_ext, ↓wS_aug, ownK_eq, lstD_eq, augK_add, augK_sub, ↓wSs_nil, ↓wSs_cons, ↓whl_eq, ↓fr_eq, b_add, b_sub, b_mul, b_div, b_mod, b_pow, b_addT, b_addL, c_lt, c_le, c_gt, c_ge, c_eq, c_ne, f_abs, f_int, f_min, f_len, f_list, f_tuple, set_mk, sl_d, sl_own, sl_tp, dat_d, dat_own, dat_tp, it_tupW, it_lst, it_scr, items_tab, items_wh, is_own, is_tup, is_lst, is_scr, is_cell, is_tab, is_wh, ln_own, ln_tup, ln_lst, ln_scr, ln_dk, ln_tab, ln_wh, set_d, set_own, set_dk, set_tp, hide1, hide2, putT1, putT2, putT3, sl1, sl2, back1, back2, gone_unW, gone_dW, gone_ownW, setA0, setA1, List.map_cons, List.map_nil, List.length_cons, List.length_nil, List.cons_append, List.nil_append, List.getElem?_cons_zero, List.getElem?_cons_succ, List.replicate_succ, List.replicate_zero, List.set_cons_zero, List.set_cons_succ, exists_eq_left, exists_eq_left', Option.some.injEq, Sl.own.injEq, exists_eq', and_true, true_and, Nat.reduceAdd, Nat.reduceSub, Nat.zero_add])
              refine fin _ ?_
              split <;> omega
            · (try simp -dsimp only [kK_eq, optK_some, blK_eq, intK_eq, strK_eq, iteK_t, iteK_f, andK_t, sK_some, valS_d, valS_own, valS_tp, ↓wE_v, ↓wE_k, ↓wE_bin, ↓wE_neg, ↓wE_no, ↓wE_cmp, ↓wE_chn, ↓wE_isN, ↓wE_ntN, ↓wE_and, ↓wE_or, ↓wE_orT, ↓wE_ite, ↓wE_call, ↓wE_callk, ↓wE_refused, ↓wE_callc, ↓wE_bi, ↓wE_isi, ↓wE_lenv, ↓wE_ixv, ↓wE_ix, ↓wE_sl, ↓wE_rev, ↓wE_tup, ↓wE_tpl, ↓wE_lst, ↓wE_vtp, ↓wE_index, ↓wE_lrng, ↓wE_sset, ↓comp_eq, ↓allg_eq, lstK_eq, cutK_tup, cutK_lst, cutK_scr, revK_tup, revK_lst, vtpK_tp, ↓wEs_nil, ↓wEs_cons, ↓wVs_nil, ↓wVs_cons, ↓wO_no, ↓wO_yes, ↓wC_no, ↓wC_yes, ↓wI_it, ↓wI_r1, ↓wI_r2, r2K_eq, ↓wI_r3, ↓wI_zip, ↓wS_asg, ↓wS_par, ↓wS_unp, ↓wS_setv, ↓wS_swp, ↓wS_ex, ↓wS_ret, ↓wS_iff, ↓wS_brk, ↓wS_rais, ↓wS_newd, ↓wS_skip, ↓wS_app, ↓wS_ext, ↓wS_aug, ownK_eq, lstD_eq, augK_add, augK_sub, ↓wSs_nil, ↓wSs_cons, ↓whl_eq, ↓fr_eq, b_add, b_sub, b_mul, b_div, b_mod, b_pow, b_addT, b_addL, c_lt, c_le, c_gt, c_ge, c_eq, c_ne, f_abs, f_int, f_min, f_len, f_list, f_tuple, set_mk, sl_d, sl_own, sl_tp, dat_d, dat_own, dat_tp, it_tupW, it_lst, it_scr, items_tab, items_wh, is_own, is_tup, is_lst, is_scr, is_cell, is_tab, is_wh, ln_own, ln_tup, ln_lst, ln_scr, ln_dk, ln_tab, ln_wh, set_d, set_own, set_dk, set_tp, hide1, hide2, putT1, putT2, putT3, sl1, sl2, back1, back2, gone_unW, gone_dW, gone_ownW, setA0, setA1, List.map_cons, List.map_nil, List.length_cons, List.length_nil, List.cons_append, List.nil_append, List.getElem?_cons_zero, List.getElem?_cons_succ, List.replicate_succ, List.replicate_zero, List.set_cons_zero, List.set_cons_succ, exists_eq_left, exists_eq_left', Option.some.injEq, Sl.own.injEq, exists_eq', and_true, true_and, Nat.reduceAdd, Nat.reduceSub, Nat.zero_add])
              exact fin _ (by omega)
      · have e1 : cutD (ns.map D.int) none (some 6) = (cutD (ns.map D.int) none (some 6)).map id := by simp
        refine ⟨(((ns.drop (HT.sIx ns.length 0 none)).take (HT.sIx ns.length ns.length (some 6) - HT.sIx ns.length 0 none))) ++ [own], 930011 + 7907 * (s : Int), .un, ?_, by omega, by omega, fun e => ?_, rfl⟩
        · unfold cutD
          rw [List.map_append, List.map_take, List.map_drop, List.length_map]
          rfl
        · simp at e
  rw [wSs_cons]
  simp -dsimp only [↓wS_asg, ↓wE_ite, ↓wE_cmp]
  (try simp -dsimp only [kK_eq, optK_some, blK_eq, intK_eq, strK_eq, iteK_t, iteK_f, andK_t, sK_some, valS_d, valS_own, valS_tp, ↓wE_v, ↓wE_k, ↓wE_bin, ↓wE_neg, ↓wE_no, ↓wE_cmp, ↓wE_chn, ↓wE_isN, ↓wE_ntN, ↓wE_and, ↓wE_or, ↓wE_orT, ↓wE_ite, ↓wE_call, ↓wE_callk, ↓wE_refused, ↓wE_callc, ↓wE_bi, ↓wE_isi, ↓wE_lenv, ↓wE_ixv, ↓wE_ix, ↓wE_sl, ↓wE_rev, ↓wE_tup, ↓wE_tpl, ↓wE_lst, ↓wE_vtp, ↓wE_index, ↓wE_lrng, ↓wE_sset, ↓comp_eq, ↓allg_eq, lstK_eq, cutK_tup, cutK_lst, cutK_scr, revK_tup, revK_lst, vtpK_tp, ↓wEs_nil, ↓wEs_cons, ↓wVs_nil, ↓wVs_cons, ↓wO_no, ↓wO_yes, ↓wC_no, ↓wC_yes, ↓wI_it, ↓wI_r1, ↓wI_r2, r2K_eq, ↓wI_r3, ↓wI_zip, ↓wS_asg, ↓wS_par, ↓wS_unp, ↓wS_setv, ↓wS_swp, ↓wS_ex, ↓wS_ret, ↓wS_iff, ↓wS_brk, ↓wS_rais, ↓wS_newd, ↓wS_skip, ↓wS_app, ↓wS_ext, ↓wS_aug, ownK_eq, lstD_eq, augK_add, augK_sub, ↓wSs_nil, ↓wSs_cons, ↓whl_eq, ↓fr_eq, b_add, b_sub, b_mul, b_div, b_mod, b_pow, b_addT, b_addL, c_lt, c_le, c_gt, c_ge, c_eq, c_ne, f_abs, f_int, f_min, f_len, f_list, f_tuple, set_mk, sl_d, sl_own, sl_tp, dat_d, dat_own, dat_tp, it_tupW, it_lst, it_scr, items_tab, items_wh, is_own, is_tup, is_lst, is_scr, is_cell, is_tab, is_wh, ln_own, ln_tup, ln_lst, ln_scr, ln_dk, ln_tab, ln_wh, set_d, set_own, set_dk, set_tp, hide1, hide2, putT1, putT2, putT3, sl1, sl2, back1, back2, gone_unW, gone_dW, gone_ownW, setA0, setA1, List.map_cons, List.map_nil, List.length_cons, List.length_nil, List.cons_append, List.nil_append, List.getElem?_cons_zero, List.getElem?_cons_succ, List.replicate_succ, List.replicate_zero, List.set_cons_zero, List.set_cons_succ, exists_eq_left, exists_eq_left', Option.some.injEq, Sl.own.injEq, exists_eq', and_true, true_and, Nat.reduceAdd, Nat.reduceSub, Nat.zero_add])
  refine iteK_of (fun ha => ?_) (fun ha => ?_)
  · simp only [decide_eq_true_eq] at ha
    have hat : atI (ns.map D.int) (s : Int) = some (.int (ns.getD s 0)) := by
      refine atI_get (by omega) ?_
      rw [List.getElem?_map, List.getD_eq_getElem?_getD]
      have : (s : Int).toNat = s := by omega
      rw [this, List.getElem?_eq_getElem (by omega)]
      rfl
    (try simp -dsimp only [kK_eq, optK_some, blK_eq, intK_eq, strK_eq, iteK_t, iteK_f, andK_t, sK_some, valS_d, valS_own, valS_tp, ↓wE_v, ↓wE_k, ↓wE_bin, ↓wE_neg, ↓wE_no, ↓wE_cmp, ↓wE_chn, ↓wE_isN, ↓wE_ntN, ↓wE_and, ↓wE_or, ↓wE_orT, ↓wE_ite, ↓wE_call, ↓wE_callk, ↓wE_refused, ↓wE_callc, ↓wE_bi, ↓wE_isi, ↓wE_lenv, ↓wE_ixv, ↓wE_ix, ↓wE_sl, ↓wE_rev, ↓wE_tup, ↓wE_tpl, ↓wE_lst, ↓wE_vtp, ↓wE_index, ↓wE_lrng, ↓wE_sset, ↓comp_eq, ↓allg_eq, lstK_eq, cutK_tup, cutK_lst, cutK_scr, revK_tup, revK_lst, vtpK_tp, ↓wEs_nil, ↓wEs_cons, ↓wVs_nil, ↓wVs_cons, ↓wO_no, ↓wO_yes, ↓wC_no, ↓wC_yes, ↓wI_it, ↓wI_r1, ↓wI_r2, r2K_eq, ↓wI_r3, ↓wI_zip, ↓wS_asg, ↓wS_par, ↓wS_unp, ↓wS_setv, ↓wS_swp, ↓wS_ex, ↓wS_ret, ↓wS_iff, ↓wS_brk, ↓wS_rais, ↓wS_newd, ↓wS_skip, ↓wS_app, ↓wS_ext, ↓wS_aug, ownK_eq, lstD_eq, augK_add, augK_sub, ↓wSs_nil, ↓wSs_cons, ↓whl_eq, ↓fr_eq, b_add, b_sub, b_mul, b_div, b_mod, b_pow, b_addT, b_addL, c_lt, c_le, c_gt, c_ge, c_eq, c_ne, f_abs, f_int, f_min, f_len, f_list, f_tuple, set_mk, sl_d, sl_own, sl_tp, dat_d, dat_own, dat_tp, it_tupW, it_lst, it_scr, items_tab, items_wh, is_own, is_tup, is_lst, is_scr, is_cell, is_tab, is_wh, ln_own, ln_tup, ln_lst, ln_scr, ln_dk, ln_tab, ln_wh, set_d, set_own, set_dk, set_tp, hide1, hide2, putT1, putT2, putT3, sl1, sl2, back1, back2, gone_unW, gone_dW, gone_ownW, setA0, setA1, List.map_cons, List.map_nil, List.length_cons, List.length_nil, List.cons_append, List.nil_append, List.getElem?_cons_zero, List.getElem?_cons_succ, List.replicate_succ, List.replicate_zero, List.set_cons_zero, List.set_cons_succ, exists_eq_left, exists_eq_left', Option.some.injEq, Sl.own.injEq, exists_eq', and_true, true_and, Nat.reduceAdd, Nat.reduceSub, Nat.zero_add, hat])
    have := key (ns.getD s 0)
    simp -dsimp only [kK_eq, optK_some, blK_eq, intK_eq, strK_eq, iteK_t, iteK_f, andK_t, sK_some, valS_d, valS_own, valS_tp, ↓wE_v, ↓wE_k, ↓wE_bin, ↓wE_neg, ↓wE_no, ↓wE_cmp, ↓wE_chn, ↓wE_isN, ↓wE_ntN, ↓wE_and, ↓wE_or, ↓wE_orT, ↓wE_ite, ↓wE_call, ↓wE_callk, ↓wE_refused, ↓wE_callc, ↓wE_bi, ↓wE_isi, ↓wE_lenv, ↓wE_ixv, ↓wE_ix, ↓wE_sl, ↓wE_rev, ↓wE_tup, ↓wE_tpl, ↓wE_lst, ↓wE_vtp, ↓wE_index, ↓wE_lrng, ↓wE_sset, ↓comp_eq, ↓allg_eq, lstK_eq, cutK_tup, cutK_lst, cutK_scr, revK_tup, revK_lst, vtpK_tp, ↓wEs_nil, ↓wEs_cons, ↓wVs_nil, ↓wVs_cons, ↓wO_no, ↓wO_yes, ↓wC_no, ↓wC_yes, ↓wI_it, ↓wI_r1, ↓wI_r2, r2K_eq, ↓wI_r3, ↓wI_zip, ↓wS_asg, ↓wS_par, ↓wS_unp, ↓wS_setv, ↓wS_swp, ↓wS_ex, ↓wS_ret, ↓wS_iff, ↓wS_brk, ↓wS_rais, ↓wS_newd, ↓wS_skip, ↓wS_app, ↓wS_ext, ↓wS_aug, ownK_eq, lstD_eq, augK_add, augK_sub, ↓wSs_nil, ↓wSs_cons, ↓whl_eq, ↓fr_eq, b_add, b_sub, b_mul, b_div, b_mod, b_pow, b_addT, b_addL, c_lt, c_le, c_gt, c_ge, c_eq, c_ne, f_abs, f_int, f_min, f_len, f_list, f_tuple, set_mk, sl_d, sl_own, sl_tp, dat_d, dat_own, dat_tp, it_tupW, it_lst, it_scr, items_tab, items_wh, is_own, is_tup, is_lst, is_scr, is_cell, is_tab, is_wh, ln_own, ln_tup, ln_lst, ln_scr, ln_dk, ln_tab, ln_wh, set_d, set_own, set_dk, set_tp, hide1, hide2, putT1, putT2, putT3, sl1, sl2, back1, back2, gone_unW, gone_dW, gone_ownW, setA0, setA1, List.map_cons, List.map_nil, List.length_cons, List.length_nil, List.cons_append, List.nil_append, List.getElem?_cons_zero, List.getElem?_cons_succ, List.replicate_succ, List.replicate_zero, List.set_cons_zero, List.set_cons_succ, exists_eq_left, exists_eq_left', Option.some.injEq, Sl.own.injEq, exists_eq', and_true, true_and, Nat.reduceAdd, Nat.reduceSub, Nat.zero_add] at this
    exact this
  · (try simp -dsimp only [kK_eq, optK_some, blK_eq, intK_eq, strK_eq, iteK_t, iteK_f, andK_t, sK_some, valS_d, valS_own, valS_tp, ↓wE_v, ↓wE_k, ↓wE_bin, ↓wE_neg, ↓wE_no, ↓wE_cmp, ↓wE_chn, ↓wE_isN, ↓wE_ntN, ↓wE_and, ↓wE_or, ↓wE_orT, ↓wE_ite, ↓wE_call, ↓wE_callk, ↓wE_refused, ↓wE_callc, ↓wE_bi, ↓wE_isi, ↓wE_lenv, ↓wE_ixv, ↓wE_ix, ↓wE_sl, ↓wE_rev, ↓wE_tup, ↓wE_tpl, ↓wE_lst, ↓wE_vtp, ↓wE_index, ↓wE_lrng, ↓wE_sset, ↓comp_eq, ↓allg_eq, lstK_eq, cutK_tup, cutK_lst, cutK_scr, revK_tup, revK_lst, vtpK_tp, ↓wEs_nil, ↓wEs_cons, ↓wVs_nil, ↓wVs_cons, ↓wO_no, ↓wO_yes, ↓wC_no, ↓wC_yes, ↓wI_it, ↓wI_r1, ↓wI_r2, r2K_eq, ↓wI_r3, ↓wI_zip, ↓wS_asg, ↓wS_par, ↓wS_unp, ↓wS_setv, ↓wS_swp, ↓wS_ex, ↓wS_ret, ↓wS_iff, ↓wS_brk, ↓wS_rais, ↓wS_newd, ↓wS_skip, ↓wS_app, ↓wS_ext, ↓wS_aug, ownK_eq, lstD_eq, augK_add, augK_sub, ↓wSs_nil, ↓wSs_cons, ↓whl_eq, ↓fr_eq, b_add, b_sub, b_mul, b_div, b_mod, b_pow, b_addT, b_addL, c_lt, c_le, c_gt, c_ge, c_eq, c_ne, f_abs, f_int, f_min, f_len, f_list, f_tuple, set_mk, sl_d, sl_own, sl_tp, dat_d, dat_own, dat_tp, it_tupW, it_lst, it_scr, items_tab, items_wh, is_own, is_tup, is_lst, is_scr, is_cell, is_tab, is_wh, ln_own, ln_tup, ln_lst, ln_scr, ln_dk, ln_tab, ln_wh, set_d, set_own, set_dk, set_tp, hide1, hide2, putT1, putT2, putT3, sl1, sl2, back1, back2, gone_unW, gone_dW, gone_ownW, setA0, setA1, List.map_cons, List.map_nil, List.length_cons, List.length_nil, List.cons_append, List.nil_append, List.getElem?_cons_zero, List.getElem?_cons_succ, List.replicate_succ, List.replicate_zero, List.set_cons_zero, List.set_cons_succ, exists_eq_left, exists_eq_left', Option.some.injEq, Sl.own.injEq, exists_eq', and_true, true_and, Nat.reduceAdd, Nat.reduceSub, Nat.zero_add])
    refine ⟨.inl (.inl ⟨by omega, by omega⟩), ?_⟩
    (try simp -dsimp only [kK_eq, optK_some, blK_eq, intK_eq, strK_eq, iteK_t, iteK_f, andK_t, sK_some, valS_d, valS_own, valS_tp, ↓wE_v, ↓wE_k, ↓wE_bin, ↓wE_neg, ↓wE_no, ↓wE_cmp, ↓wE_chn, ↓wE_isN, ↓wE_ntN, ↓wE_and, ↓wE_or, ↓wE_orT, ↓wE_ite, ↓wE_call, ↓wE_callk, ↓wE_refused, ↓wE_callc, ↓wE_bi, ↓wE_isi, ↓wE_lenv, ↓wE_ixv, ↓wE_ix, ↓wE_sl, ↓wE_rev, ↓wE_tup, ↓wE_tpl, ↓wE_lst, ↓wE_vtp, ↓wE_index, ↓wE_lrng, ↓wE_sset, ↓comp_eq, ↓allg_eq, lstK_eq, cutK_tup, cutK_lst, cutK_scr, revK_tup, revK_lst, vtpK_tp, ↓wEs_nil, ↓wEs_cons, ↓wVs_nil, ↓wVs_cons, ↓wO_no, ↓wO_yes, ↓wC_no, ↓wC_yes, ↓wI_it, ↓wI_r1, ↓wI_r2, r2K_eq, ↓wI_r3, ↓wI_zip, ↓wS_asg, ↓wS_par, ↓wS_unp, ↓wS_setv, ↓wS_swp, ↓wS_ex, ↓wS_ret, ↓wS_iff, ↓wS_brk, ↓wS_rais, ↓wS_newd, ↓wS_skip, ↓wS_app, ↓wS_ext, ↓wS_aug, ownK_eq, lstD_eq, augK_add, augK_sub, ↓wSs_nil, ↓wSs_cons, ↓whl_eq, ↓fr_eq, b_add, b_sub, b_mul, b_div, b_mod, b_pow, b_addT, b_addL, c_lt, c_le, c_gt, c_ge, c_eq, c_ne, f_abs, f_int, f_min, f_len, f_list, f_tuple, set_mk, sl_d, sl_own, sl_tp, dat_d, dat_own, dat_tp, it_tupW, it_lst, it_scr, items_tab, items_wh, is_own, is_tup, is_lst, is_scr, is_cell, is_tab, is_wh, ln_own, ln_tup, ln_lst, ln_scr, ln_dk, ln_tab, ln_wh, set_d, set_own, set_dk, set_tp, hide1, hide2, putT1, putT2, putT3, sl1, sl2, back1, back2, gone_unW, gone_dW, gone_ownW, setA0, setA1, List.map_cons, List.map_nil, List.length_cons, List.length_nil, List.cons_append, List.nil_append, List.getElem?_cons_zero, List.getElem?_cons_succ, List.replicate_succ, List.replicate_zero, List.set_cons_zero, List.set_cons_succ, exists_eq_left, exists_eq_left', Option.some.injEq, Sl.own.injEq, exists_eq', and_true, true_and, Nat.reduceAdd, Nat.reduceSub, Nat.zero_add])
    have := key (733 * (s : Int) + 29)
    simp -dsimp only [kK_eq, optK_some, blK_eq, intK_eq, strK_eq, iteK_t, iteK_f, andK_t, sK_some, valS_d, valS_own, valS_tp, ↓wE_v, ↓wE_k, ↓wE_bin, ↓wE_neg, ↓wE_no, ↓wE_cmp, ↓wE_chn, ↓wE_isN, ↓wE_ntN, ↓wE_and, ↓wE_or, ↓wE_orT, ↓wE_ite, ↓wE_call, ↓wE_callk, ↓wE_refused, ↓wE_callc, ↓wE_bi, ↓wE_isi, ↓wE_lenv, ↓wE_ixv, ↓wE_ix, ↓wE_sl, ↓wE_rev, ↓wE_tup, ↓wE_tpl, ↓wE_lst, ↓wE_vtp, ↓wE_index, ↓wE_lrng, ↓wE_sset, ↓comp_eq, ↓allg_eq, lstK_eq, cutK_tup, cutK_lst, cutK_scr, revK_tup, revK_lst, vtpK_tp, ↓wEs_nil, ↓wEs_cons, ↓wVs_nil, ↓wVs_cons, ↓wO_no, ↓wO_yes, ↓wC_no, ↓wC_yes, ↓wI_it, ↓wI_r1, ↓wI_r2, r2K_eq, ↓wI_r3, ↓wI_zip, ↓wS_asg, ↓wS_par, ↓wS_unp, ↓wS_setv, ↓wS_swp, ↓wS_ex, ↓wS_ret, ↓wS_iff, ↓wS_brk, ↓wS_rais, ↓wS_newd, ↓wS_skip, ↓wS_app, ↓wS_ext, ↓wS_aug, ownK_eq, lstD_eq, augK_add, augK_sub, ↓wSs_nil, ↓wSs_cons, ↓whl_eq, ↓fr_eq, b_add, b_sub, b_mul, b_div, b_mod, b_pow, b_addT, b_addL, c_lt, c_le, c_gt, c_ge, c_eq, c_ne, f_abs, f_int, f_min, f_len, f_list, f_tuple, set_mk, sl_d, sl_own, sl_tp, dat_d, dat_own, dat_tp, it_tupW, it_lst, it_scr, items_tab, items_wh, is_own, is_tup, is_lst, is_scr, is_cell, is_tab, is_wh, ln_own, ln_tup, ln_lst, ln_scr, ln_dk, ln_tab, ln_wh, set_d, set_own, set_dk, set_tp, hide1, hide2, putT1, putT2, putT3, sl1, sl2, back1, back2, gone_unW, gone_dW, gone_ownW, setA0, setA1, List.map_cons, List.map_nil, List.length_cons, List.length_nil, List.cons_append, List.nil_append, List.getElem?_cons_zero, List.getElem?_cons_succ, List.replicate_succ, List.replicate_zero, List.set_cons_zero, List.set_cons_succ, exists_eq_left, exists_eq_left', Option.some.injEq, Sl.own.injEq, exists_eq', and_true, true_and, Nat.reduceAdd, Nat.reduceSub, Nat.zero_add] at this
    exact this
end LC
end
section
namespace LC
open PySem (Str)
open L2 (atI ixN CMul CDivW CMulW CPow)
open DL
variable {Sg : Tab}
def TS (T : List (List Int)) : Prop := T.length ≤ 12 ∧ ∀ w ∈ T, 0 < w.length ∧ w.length ≤ 1000
theorem TS.ok {T : List (List Int)} (h : TS T) : TOk T := ⟨by have := h.1; omega, h.2⟩
theorem lcm_le (a b : Nat) (hb : 0 < b) : Nat.lcm a b ≤ a * b := by
  rcases Nat.eq_zero_or_pos a with h | h
  · subst h
    simp
  · exact Nat.le_of_dvd (Nat.mul_pos h hb) (Nat.lcm_dvd (Nat.dvd_mul_right a b) (Nat.dvd_mul_left b a))
theorem cyc_snoc (U : List (List Int)) (w : List Int) : cyc (U ++ [w]) = Nat.lcm (cyc U) w.length := by
  unfold cyc
  rw [List.foldl_append]
  rfl
theorem fold_pos : ∀ {T : List (List Int)} {n : Nat}, 0 < n → (∀ w ∈ T, 0 < w.length) → 0 < T.foldl (fun n w => Nat.lcm n w.length) n
  | [], n, h, _ => h
  | w :: T, n, h, hw => fold_pos (T := T) (Nat.lcm_pos h (hw w List.mem_cons_self)) fun v hv => hw v (List.mem_cons_of_mem _ hv)
theorem cyc_pos {T : List (List Int)} (h : ∀ w ∈ T, 0 < w.length) : 0 < cyc T := fold_pos Nat.one_pos h
theorem fold_le {M : Nat} : ∀ {T : List (List Int)} {n : Nat}, (∀ w ∈ T, 0 < w.length ∧ w.length ≤ M) → T.foldl (fun n w => Nat.lcm n w.length) n ≤ n * M ^ T.length
  | [], n, _ => by simp
  | w :: T, n, hw => by
    have h1 := hw w List.mem_cons_self
    have h2 := fold_le (M := M) (T := T) (n := Nat.lcm n w.length) fun v hv => hw v (List.mem_cons_of_mem _ hv)
    refine Nat.le_trans h2 ?_
    rw [List.length_cons, Nat.pow_succ]
    have h3 : Nat.lcm n w.length ≤ n * M := Nat.le_trans (lcm_le n w.length h1.1) (Nat.mul_le_mul_left n h1.2)
    calc Nat.lcm n w.length * M ^ T.length ≤ n * M * M ^ T.length := Nat.mul_le_mul_right _ h3
      _ = n * (M ^ T.length * M) := by rw [Nat.mul_assoc, Nat.mul_comm M]
theorem cyc_le {M : Nat} {T : List (List Int)} (h : ∀ w ∈ T, 0 < w.length ∧ w.length ≤ M) : cyc T ≤ M ^ T.length := by
  have := fold_le (n := 1) h
  rw [Nat.one_mul] at this
  exact this
theorem TS.cyc_lt {T : List (List Int)} (h : TS T) : cyc T ≤ 2 ^ 120 := by
  refine Nat.le_trans (cyc_le h.2) ?_
  refine Nat.le_trans (Nat.pow_le_pow_right (by decide) h.1) ?_
  decide +kernel
theorem TS.pre {U V : List (List Int)} (h : TS (U ++ V)) : TS U := ⟨by have := h.1; rw [List.length_append] at this; omega, fun w hw => h.2 w (List.mem_append_left _ hw)⟩
theorem at_wheel {w : List Int} (h : 0 < w.length) (t : Int) : atI (w.map D.int) (t % (w.length : Int)) = some (.int (w.getD (t % w.length).toNat 0)) := by
  have h1 := Int.emod_nonneg t (by omega : (w.length : Int) ≠ 0)
  have h2 := Int.emod_lt_of_pos t (by omega : (0 : Int) < (w.length : Int))
  refine atI_get h1 ?_
  rw [List.getElem?_map, List.getD_eq_getElem?_getD, List.getElem?_eq_getElem (by omega)]
  rfl
def sp_lheight : Spec := fun ds c Q E => ∃ T t, ds = [tabD T, .int t] ∧ TOk T ∧ Q (.d (.int (hgt T t))) c
def sp_lcycle : Spec := fun ds c Q E => ∃ T, ds = [tabD T] ∧ TS T ∧ Q (.d (.int (cyc T : Nat))) c
theorem hgt_snoc (U : List (List Int)) (w : List Int) (t : Int) : hgt (U ++ [w]) t = hgt U t + w.getD (t % w.length).toNat 0 := by
  unfold hgt
  rw [List.map_append, List.sum_append]
  simp
theorem k_lheight : Keeps Sg 4 b__law_height sp_lheight := by
  rintro ds c Q E ⟨T, t, rfl, hT, hq⟩
  unfold b__law_height
  (try simp -dsimp only [kK_eq, optK_some, blK_eq, intK_eq, strK_eq, iteK_t, iteK_f, andK_t, sK_some, valS_d, valS_own, valS_tp, ↓wE_v, ↓wE_k, ↓wE_bin, ↓wE_neg, ↓wE_no, ↓wE_cmp, ↓wE_chn, ↓wE_isN, ↓wE_ntN, ↓wE_and, ↓wE_or, ↓wE_orT, ↓wE_ite, ↓wE_call, ↓wE_callk, ↓wE_refused, ↓wE_callc, ↓wE_bi, ↓wE_isi, ↓wE_lenv, ↓wE_ixv, ↓wE_ix, ↓wE_sl, ↓wE_rev, ↓wE_tup, ↓wE_tpl, ↓wE_lst, ↓wE_vtp, ↓wE_index, ↓wE_lrng, ↓wE_sset, ↓comp_eq, ↓allg_eq, lstK_eq, cutK_tup, cutK_lst, cutK_scr, revK_tup, revK_lst, vtpK_tp, ↓wEs_nil, ↓wEs_cons, ↓wVs_nil, ↓wVs_cons, ↓wO_no, ↓wO_yes, ↓wC_no, ↓wC_yes, ↓wI_it, ↓wI_r1, ↓wI_r2, r2K_eq, ↓wI_r3, ↓wI_zip, ↓wS_asg, ↓wS_par, ↓wS_unp, ↓wS_setv, ↓wS_swp, ↓wS_ex, ↓wS_ret, ↓wS_iff, ↓wS_brk, ↓wS_rais, ↓wS_newd, ↓wS_skip, ↓wS_app, ↓wS_ext, ↓wS_aug, ownK_eq, lstD_eq, augK_add, augK_sub, ↓wSs_nil, ↓wSs_cons, ↓whl_eq, ↓fr_eq, b_add, b_sub, b_mul, b_div, b_mod, b_pow, b_addT, b_addL, c_lt, c_le, c_gt, c_ge, c_eq, c_ne, f_abs, f_int, f_min, f_len, f_list, f_tuple, set_mk, sl_d, sl_own, sl_tp, dat_d, dat_own, dat_tp, it_tupW, it_lst, it_scr, items_tab, items_wh, is_own, is_tup, is_lst, is_scr, is_cell, is_tab, is_wh, ln_own, ln_tup, ln_lst, ln_scr, ln_dk, ln_tab, ln_wh, set_d, set_own, set_dk, set_tp, hide1, hide2, putT1, putT2, putT3, sl1, sl2, back1, back2, gone_unW, gone_dW, gone_ownW, setA0, setA1, List.map_cons, List.map_nil, List.length_cons, List.length_nil, List.cons_append, List.nil_append, List.getElem?_cons_zero, List.getElem?_cons_succ, List.replicate_succ, List.replicate_zero, List.set_cons_zero, List.set_cons_succ, exists_eq_left, exists_eq_left', Option.some.injEq, Sl.own.injEq, exists_eq', and_true, true_and, Nat.reduceAdd, Nat.reduceSub, Nat.zero_add])
  refine for_ind (fun xs st => ∃ (U V : List (List Int)) (s : Sl), T = U ++ V ∧ xs = V.map whD ∧ st = ⟨[.d (tabD T), .d (.int t), .d (.int (hgt U t)), s], c⟩) (fun x xs st hI => ?_) (fun st hI => ?_) ⟨[], T, _, rfl, rfl, rfl⟩
  · obtain ⟨U, V, s, hU, hx, rfl⟩ := hI
    cases V with
    | nil => cases hx
    | cons w V =>
      cases hx
      have hw := hT.2 w (by rw [hU]; simp)
      refine ⟨_, rfl, fun nx n1 => ?_⟩
      (try simp -dsimp only [kK_eq, optK_some, blK_eq, intK_eq, strK_eq, iteK_t, iteK_f, andK_t, sK_some, valS_d, valS_own, valS_tp, ↓wE_v, ↓wE_k, ↓wE_bin, ↓wE_neg, ↓wE_no, ↓wE_cmp, ↓wE_chn, ↓wE_isN, ↓wE_ntN, ↓wE_and, ↓wE_or, ↓wE_orT, ↓wE_ite, ↓wE_call, ↓wE_callk, ↓wE_refused, ↓wE_callc, ↓wE_bi, ↓wE_isi, ↓wE_lenv, ↓wE_ixv, ↓wE_ix, ↓wE_sl, ↓wE_rev, ↓wE_tup, ↓wE_tpl, ↓wE_lst, ↓wE_vtp, ↓wE_index, ↓wE_lrng, ↓wE_sset, ↓comp_eq, ↓allg_eq, lstK_eq, cutK_tup, cutK_lst, cutK_scr, revK_tup, revK_lst, vtpK_tp, ↓wEs_nil, ↓wEs_cons, ↓wVs_nil, ↓wVs_cons, ↓wO_no, ↓wO_yes, ↓wC_no, ↓wC_yes, ↓wI_it, ↓wI_r1, ↓wI_r2, r2K_eq, ↓wI_r3, ↓wI_zip, ↓wS_asg, ↓wS_par, ↓wS_unp, ↓wS_setv, ↓wS_swp, ↓wS_ex, ↓wS_ret, ↓wS_iff, ↓wS_brk, ↓wS_rais, ↓wS_newd, ↓wS_skip, ↓wS_app, ↓wS_ext, ↓wS_aug, ownK_eq, lstD_eq, augK_add, augK_sub, ↓wSs_nil, ↓wSs_cons, ↓whl_eq, ↓fr_eq, b_add, b_sub, b_mul, b_div, b_mod, b_pow, b_addT, b_addL, c_lt, c_le, c_gt, c_ge, c_eq, c_ne, f_abs, f_int, f_min, f_len, f_list, f_tuple, set_mk, sl_d, sl_own, sl_tp, dat_d, dat_own, dat_tp, it_tupW, it_lst, it_scr, items_tab, items_wh, is_own, is_tup, is_lst, is_scr, is_cell, is_tab, is_wh, ln_own, ln_tup, ln_lst, ln_scr, ln_dk, ln_tab, ln_wh, set_d, set_own, set_dk, set_tp, hide1, hide2, putT1, putT2, putT3, sl1, sl2, back1, back2, gone_unW, gone_dW, gone_ownW, setA0, setA1, List.map_cons, List.map_nil, List.length_cons, List.length_nil, List.cons_append, List.nil_append, List.getElem?_cons_zero, List.getElem?_cons_succ, List.replicate_succ, List.replicate_zero, List.set_cons_zero, List.set_cons_succ, exists_eq_left, exists_eq_left', Option.some.injEq, Sl.own.injEq, exists_eq', and_true, true_and, Nat.reduceAdd, Nat.reduceSub, Nat.zero_add, at_wheel hw.1])
      refine ⟨by omega, ?_⟩
      (try simp -dsimp only [kK_eq, optK_some, blK_eq, intK_eq, strK_eq, iteK_t, iteK_f, andK_t, sK_some, valS_d, valS_own, valS_tp, ↓wE_v, ↓wE_k, ↓wE_bin, ↓wE_neg, ↓wE_no, ↓wE_cmp, ↓wE_chn, ↓wE_isN, ↓wE_ntN, ↓wE_and, ↓wE_or, ↓wE_orT, ↓wE_ite, ↓wE_call, ↓wE_callk, ↓wE_refused, ↓wE_callc, ↓wE_bi, ↓wE_isi, ↓wE_lenv, ↓wE_ixv, ↓wE_ix, ↓wE_sl, ↓wE_rev, ↓wE_tup, ↓wE_tpl, ↓wE_lst, ↓wE_vtp, ↓wE_index, ↓wE_lrng, ↓wE_sset, ↓comp_eq, ↓allg_eq, lstK_eq, cutK_tup, cutK_lst, cutK_scr, revK_tup, revK_lst, vtpK_tp, ↓wEs_nil, ↓wEs_cons, ↓wVs_nil, ↓wVs_cons, ↓wO_no, ↓wO_yes, ↓wC_no, ↓wC_yes, ↓wI_it, ↓wI_r1, ↓wI_r2, r2K_eq, ↓wI_r3, ↓wI_zip, ↓wS_asg, ↓wS_par, ↓wS_unp, ↓wS_setv, ↓wS_swp, ↓wS_ex, ↓wS_ret, ↓wS_iff, ↓wS_brk, ↓wS_rais, ↓wS_newd, ↓wS_skip, ↓wS_app, ↓wS_ext, ↓wS_aug, ownK_eq, lstD_eq, augK_add, augK_sub, ↓wSs_nil, ↓wSs_cons, ↓whl_eq, ↓fr_eq, b_add, b_sub, b_mul, b_div, b_mod, b_pow, b_addT, b_addL, c_lt, c_le, c_gt, c_ge, c_eq, c_ne, f_abs, f_int, f_min, f_len, f_list, f_tuple, set_mk, sl_d, sl_own, sl_tp, dat_d, dat_own, dat_tp, it_tupW, it_lst, it_scr, items_tab, items_wh, is_own, is_tup, is_lst, is_scr, is_cell, is_tab, is_wh, ln_own, ln_tup, ln_lst, ln_scr, ln_dk, ln_tab, ln_wh, set_d, set_own, set_dk, set_tp, hide1, hide2, putT1, putT2, putT3, sl1, sl2, back1, back2, gone_unW, gone_dW, gone_ownW, setA0, setA1, List.map_cons, List.map_nil, List.length_cons, List.length_nil, List.cons_append, List.nil_append, List.getElem?_cons_zero, List.getElem?_cons_succ, List.replicate_succ, List.replicate_zero, List.set_cons_zero, List.set_cons_succ, exists_eq_left, exists_eq_left', Option.some.injEq, Sl.own.injEq, exists_eq', and_true, true_and, Nat.reduceAdd, Nat.reduceSub, Nat.zero_add, at_wheel hw.1])
      exact n1 _ ⟨U ++ [w], V, .d (whD w), by rw [hU]; simp, rfl, by rw [hgt_snoc]⟩
  · obtain ⟨U, V, s, hU, hx, rfl⟩ := hI
    cases V with
    | cons w V => cases hx
    | nil =>
      rw [List.append_nil] at hU
      subst hU
      (try simp -dsimp only [kK_eq, optK_some, blK_eq, intK_eq, strK_eq, iteK_t, iteK_f, andK_t, sK_some, valS_d, valS_own, valS_tp, ↓wE_v, ↓wE_k, ↓wE_bin, ↓wE_neg, ↓wE_no, ↓wE_cmp, ↓wE_chn, ↓wE_isN, ↓wE_ntN, ↓wE_and, ↓wE_or, ↓wE_orT, ↓wE_ite, ↓wE_call, ↓wE_callk, ↓wE_refused, ↓wE_callc, ↓wE_bi, ↓wE_isi, ↓wE_lenv, ↓wE_ixv, ↓wE_ix, ↓wE_sl, ↓wE_rev, ↓wE_tup, ↓wE_tpl, ↓wE_lst, ↓wE_vtp, ↓wE_index, ↓wE_lrng, ↓wE_sset, ↓comp_eq, ↓allg_eq, lstK_eq, cutK_tup, cutK_lst, cutK_scr, revK_tup, revK_lst, vtpK_tp, ↓wEs_nil, ↓wEs_cons, ↓wVs_nil, ↓wVs_cons, ↓wO_no, ↓wO_yes, ↓wC_no, ↓wC_yes, ↓wI_it, ↓wI_r1, ↓wI_r2, r2K_eq, ↓wI_r3, ↓wI_zip, ↓wS_asg, ↓wS_par, ↓wS_unp, ↓wS_setv, ↓wS_swp, ↓wS_ex, ↓wS_ret, ↓wS_iff, ↓wS_brk, ↓wS_rais, ↓wS_newd, ↓wS_skip, ↓wS_app, ↓wS_ext, ↓wS_aug, ownK_eq, lstD_eq, augK_add, augK_sub, ↓wSs_nil, ↓wSs_cons, ↓whl_eq, ↓fr_eq, b_add, b_sub, b_mul, b_div, b_mod, b_pow, b_addT, b_addL, c_lt, c_le, c_gt, c_ge, c_eq, c_ne, f_abs, f_int, f_min, f_len, f_list, f_tuple, set_mk, sl_d, sl_own, sl_tp, dat_d, dat_own, dat_tp, it_tupW, it_lst, it_scr, items_tab, items_wh, is_own, is_tup, is_lst, is_scr, is_cell, is_tab, is_wh, ln_own, ln_tup, ln_lst, ln_scr, ln_dk, ln_tab, ln_wh, set_d, set_own, set_dk, set_tp, hide1, hide2, putT1, putT2, putT3, sl1, sl2, back1, back2, gone_unW, gone_dW, gone_ownW, setA0, setA1, List.map_cons, List.map_nil, List.length_cons, List.length_nil, List.cons_append, List.nil_append, List.getElem?_cons_zero, List.getElem?_cons_succ, List.replicate_succ, List.replicate_zero, List.set_cons_zero, List.set_cons_succ, exists_eq_left, exists_eq_left', Option.some.injEq, Sl.own.injEq, exists_eq', and_true, true_and, Nat.reduceAdd, Nat.reduceSub, Nat.zero_add])
      exact hq
theorem k_lcycle (h1 : Sg "_law_gcd" = sp_gcd) : Keeps Sg 3 b__law_cycle sp_lcycle := by
  rintro ds c Q E ⟨T, rfl, hT, hq⟩
  unfold b__law_cycle
  (try simp -dsimp only [kK_eq, optK_some, blK_eq, intK_eq, strK_eq, iteK_t, iteK_f, andK_t, sK_some, valS_d, valS_own, valS_tp, ↓wE_v, ↓wE_k, ↓wE_bin, ↓wE_neg, ↓wE_no, ↓wE_cmp, ↓wE_chn, ↓wE_isN, ↓wE_ntN, ↓wE_and, ↓wE_or, ↓wE_orT, ↓wE_ite, ↓wE_call, ↓wE_callk, ↓wE_refused, ↓wE_callc, ↓wE_bi, ↓wE_isi, ↓wE_lenv, ↓wE_ixv, ↓wE_ix, ↓wE_sl, ↓wE_rev, ↓wE_tup, ↓wE_tpl, ↓wE_lst, ↓wE_vtp, ↓wE_index, ↓wE_lrng, ↓wE_sset, ↓comp_eq, ↓allg_eq, lstK_eq, cutK_tup, cutK_lst, cutK_scr, revK_tup, revK_lst, vtpK_tp, ↓wEs_nil, ↓wEs_cons, ↓wVs_nil, ↓wVs_cons, ↓wO_no, ↓wO_yes, ↓wC_no, ↓wC_yes, ↓wI_it, ↓wI_r1, ↓wI_r2, r2K_eq, ↓wI_r3, ↓wI_zip, ↓wS_asg, ↓wS_par, ↓wS_unp, ↓wS_setv, ↓wS_swp, ↓wS_ex, ↓wS_ret, ↓wS_iff, ↓wS_brk, ↓wS_rais, ↓wS_newd, ↓wS_skip, ↓wS_app, ↓wS_ext, ↓wS_aug, ownK_eq, lstD_eq, augK_add, augK_sub, ↓wSs_nil, ↓wSs_cons, ↓whl_eq, ↓fr_eq, b_add, b_sub, b_mul, b_div, b_mod, b_pow, b_addT, b_addL, c_lt, c_le, c_gt, c_ge, c_eq, c_ne, f_abs, f_int, f_min, f_len, f_list, f_tuple, set_mk, sl_d, sl_own, sl_tp, dat_d, dat_own, dat_tp, it_tupW, it_lst, it_scr, items_tab, items_wh, is_own, is_tup, is_lst, is_scr, is_cell, is_tab, is_wh, ln_own, ln_tup, ln_lst, ln_scr, ln_dk, ln_tab, ln_wh, set_d, set_own, set_dk, set_tp, hide1, hide2, putT1, putT2, putT3, sl1, sl2, back1, back2, gone_unW, gone_dW, gone_ownW, setA0, setA1, List.map_cons, List.map_nil, List.length_cons, List.length_nil, List.cons_append, List.nil_append, List.getElem?_cons_zero, List.getElem?_cons_succ, List.replicate_succ, List.replicate_zero, List.set_cons_zero, List.set_cons_succ, exists_eq_left, exists_eq_left', Option.some.injEq, Sl.own.injEq, exists_eq', and_true, true_and, Nat.reduceAdd, Nat.reduceSub, Nat.zero_add])
  refine for_ind (fun xs st => ∃ (U V : List (List Int)) (s : Sl), T = U ++ V ∧ xs = V.map whD ∧ st = ⟨[.d (tabD T), .d (.int (cyc U : Nat)), s], c⟩) (fun x xs st hI => ?_) (fun st hI => ?_) ⟨[], T, _, rfl, rfl, rfl⟩
  · obtain ⟨U, V, s, hU, hx, rfl⟩ := hI
    cases V with
    | nil => cases hx
    | cons w V =>
      cases hx
      have hw := hT.2 w (by rw [hU]; simp)
      have hU2 : TS U := by rw [hU] at hT; exact hT.pre
      have hc := hU2.cyc_lt
      have hp : 0 < cyc U := cyc_pos fun v hv => (hU2.2 v hv).1
      have hg0 : 0 < Nat.gcd (cyc U) w.length := Nat.gcd_pos_of_pos_right _ hw.1
      have hg1 : Nat.gcd (cyc U) w.length ≤ 1000 := Nat.le_trans (Nat.le_of_dvd hw.1 (Nat.gcd_dvd_right _ _)) hw.2
      refine ⟨_, rfl, fun nx n1 => ?_⟩
      (try simp -dsimp only [kK_eq, optK_some, blK_eq, intK_eq, strK_eq, iteK_t, iteK_f, andK_t, sK_some, valS_d, valS_own, valS_tp, ↓wE_v, ↓wE_k, ↓wE_bin, ↓wE_neg, ↓wE_no, ↓wE_cmp, ↓wE_chn, ↓wE_isN, ↓wE_ntN, ↓wE_and, ↓wE_or, ↓wE_orT, ↓wE_ite, ↓wE_call, ↓wE_callk, ↓wE_refused, ↓wE_callc, ↓wE_bi, ↓wE_isi, ↓wE_lenv, ↓wE_ixv, ↓wE_ix, ↓wE_sl, ↓wE_rev, ↓wE_tup, ↓wE_tpl, ↓wE_lst, ↓wE_vtp, ↓wE_index, ↓wE_lrng, ↓wE_sset, ↓comp_eq, ↓allg_eq, lstK_eq, cutK_tup, cutK_lst, cutK_scr, revK_tup, revK_lst, vtpK_tp, ↓wEs_nil, ↓wEs_cons, ↓wVs_nil, ↓wVs_cons, ↓wO_no, ↓wO_yes, ↓wC_no, ↓wC_yes, ↓wI_it, ↓wI_r1, ↓wI_r2, r2K_eq, ↓wI_r3, ↓wI_zip, ↓wS_asg, ↓wS_par, ↓wS_unp, ↓wS_setv, ↓wS_swp, ↓wS_ex, ↓wS_ret, ↓wS_iff, ↓wS_brk, ↓wS_rais, ↓wS_newd, ↓wS_skip, ↓wS_app, ↓wS_ext, ↓wS_aug, ownK_eq, lstD_eq, augK_add, augK_sub, ↓wSs_nil, ↓wSs_cons, ↓whl_eq, ↓fr_eq, b_add, b_sub, b_mul, b_div, b_mod, b_pow, b_addT, b_addL, c_lt, c_le, c_gt, c_ge, c_eq, c_ne, f_abs, f_int, f_min, f_len, f_list, f_tuple, set_mk, sl_d, sl_own, sl_tp, dat_d, dat_own, dat_tp, it_tupW, it_lst, it_scr, items_tab, items_wh, is_own, is_tup, is_lst, is_scr, is_cell, is_tab, is_wh, ln_own, ln_tup, ln_lst, ln_scr, ln_dk, ln_tab, ln_wh, set_d, set_own, set_dk, set_tp, hide1, hide2, putT1, putT2, putT3, sl1, sl2, back1, back2, gone_unW, gone_dW, gone_ownW, setA0, setA1, List.map_cons, List.map_nil, List.length_cons, List.length_nil, List.cons_append, List.nil_append, List.getElem?_cons_zero, List.getElem?_cons_succ, List.replicate_succ, List.replicate_zero, List.set_cons_zero, List.set_cons_succ, exists_eq_left, exists_eq_left', Option.some.injEq, Sl.own.injEq, exists_eq', and_true, true_and, Nat.reduceAdd, Nat.reduceSub, Nat.zero_add])
      refine ⟨.inl (.inr ⟨by omega, by omega⟩), ?_⟩
      (try simp -dsimp only [kK_eq, optK_some, blK_eq, intK_eq, strK_eq, iteK_t, iteK_f, andK_t, sK_some, valS_d, valS_own, valS_tp, ↓wE_v, ↓wE_k, ↓wE_bin, ↓wE_neg, ↓wE_no, ↓wE_cmp, ↓wE_chn, ↓wE_isN, ↓wE_ntN, ↓wE_and, ↓wE_or, ↓wE_orT, ↓wE_ite, ↓wE_call, ↓wE_callk, ↓wE_refused, ↓wE_callc, ↓wE_bi, ↓wE_isi, ↓wE_lenv, ↓wE_ixv, ↓wE_ix, ↓wE_sl, ↓wE_rev, ↓wE_tup, ↓wE_tpl, ↓wE_lst, ↓wE_vtp, ↓wE_index, ↓wE_lrng, ↓wE_sset, ↓comp_eq, ↓allg_eq, lstK_eq, cutK_tup, cutK_lst, cutK_scr, revK_tup, revK_lst, vtpK_tp, ↓wEs_nil, ↓wEs_cons, ↓wVs_nil, ↓wVs_cons, ↓wO_no, ↓wO_yes, ↓wC_no, ↓wC_yes, ↓wI_it, ↓wI_r1, ↓wI_r2, r2K_eq, ↓wI_r3, ↓wI_zip, ↓wS_asg, ↓wS_par, ↓wS_unp, ↓wS_setv, ↓wS_swp, ↓wS_ex, ↓wS_ret, ↓wS_iff, ↓wS_brk, ↓wS_rais, ↓wS_newd, ↓wS_skip, ↓wS_app, ↓wS_ext, ↓wS_aug, ownK_eq, lstD_eq, augK_add, augK_sub, ↓wSs_nil, ↓wSs_cons, ↓whl_eq, ↓fr_eq, b_add, b_sub, b_mul, b_div, b_mod, b_pow, b_addT, b_addL, c_lt, c_le, c_gt, c_ge, c_eq, c_ne, f_abs, f_int, f_min, f_len, f_list, f_tuple, set_mk, sl_d, sl_own, sl_tp, dat_d, dat_own, dat_tp, it_tupW, it_lst, it_scr, items_tab, items_wh, is_own, is_tup, is_lst, is_scr, is_cell, is_tab, is_wh, ln_own, ln_tup, ln_lst, ln_scr, ln_dk, ln_tab, ln_wh, set_d, set_own, set_dk, set_tp, hide1, hide2, putT1, putT2, putT3, sl1, sl2, back1, back2, gone_unW, gone_dW, gone_ownW, setA0, setA1, List.map_cons, List.map_nil, List.length_cons, List.length_nil, List.cons_append, List.nil_append, List.getElem?_cons_zero, List.getElem?_cons_succ, List.replicate_succ, List.replicate_zero, List.set_cons_zero, List.set_cons_succ, exists_eq_left, exists_eq_left', Option.some.injEq, Sl.own.injEq, exists_eq', and_true, true_and, Nat.reduceAdd, Nat.reduceSub, Nat.zero_add])
      refine call_of h1 ⟨_, _, rfl, ?_, ?_⟩
      · show cyc U * w.length < 2 ^ 399
        refine Nat.lt_of_le_of_lt (Nat.mul_le_mul hc hw.2) (by decide +kernel)
      · (try simp -dsimp only [kK_eq, optK_some, blK_eq, intK_eq, strK_eq, iteK_t, iteK_f, andK_t, sK_some, valS_d, valS_own, valS_tp, ↓wE_v, ↓wE_k, ↓wE_bin, ↓wE_neg, ↓wE_no, ↓wE_cmp, ↓wE_chn, ↓wE_isN, ↓wE_ntN, ↓wE_and, ↓wE_or, ↓wE_orT, ↓wE_ite, ↓wE_call, ↓wE_callk, ↓wE_refused, ↓wE_callc, ↓wE_bi, ↓wE_isi, ↓wE_lenv, ↓wE_ixv, ↓wE_ix, ↓wE_sl, ↓wE_rev, ↓wE_tup, ↓wE_tpl, ↓wE_lst, ↓wE_vtp, ↓wE_index, ↓wE_lrng, ↓wE_sset, ↓comp_eq, ↓allg_eq, lstK_eq, cutK_tup, cutK_lst, cutK_scr, revK_tup, revK_lst, vtpK_tp, ↓wEs_nil, ↓wEs_cons, ↓wVs_nil, ↓wVs_cons, ↓wO_no, ↓wO_yes, ↓wC_no, ↓wC_yes, ↓wI_it, ↓wI_r1, ↓wI_r2, r2K_eq, ↓wI_r3, ↓wI_zip, ↓wS_asg, ↓wS_par, ↓wS_unp, ↓wS_setv, ↓wS_swp, ↓wS_ex, ↓wS_ret, ↓wS_iff, ↓wS_brk, ↓wS_rais, ↓wS_newd, ↓wS_skip, ↓wS_app, ↓wS_ext, ↓wS_aug, ownK_eq, lstD_eq, augK_add, augK_sub, ↓wSs_nil, ↓wSs_cons, ↓whl_eq, ↓fr_eq, b_add, b_sub, b_mul, b_div, b_mod, b_pow, b_addT, b_addL, c_lt, c_le, c_gt, c_ge, c_eq, c_ne, f_abs, f_int, f_min, f_len, f_list, f_tuple, set_mk, sl_d, sl_own, sl_tp, dat_d, dat_own, dat_tp, it_tupW, it_lst, it_scr, items_tab, items_wh, is_own, is_tup, is_lst, is_scr, is_cell, is_tab, is_wh, ln_own, ln_tup, ln_lst, ln_scr, ln_dk, ln_tab, ln_wh, set_d, set_own, set_dk, set_tp, hide1, hide2, putT1, putT2, putT3, sl1, sl2, back1, back2, gone_unW, gone_dW, gone_ownW, setA0, setA1, List.map_cons, List.map_nil, List.length_cons, List.length_nil, List.cons_append, List.nil_append, List.getElem?_cons_zero, List.getElem?_cons_succ, List.replicate_succ, List.replicate_zero, List.set_cons_zero, List.set_cons_succ, exists_eq_left, exists_eq_left', Option.some.injEq, Sl.own.injEq, exists_eq', and_true, true_and, Nat.reduceAdd, Nat.reduceSub, Nat.zero_add])
        have hlog : (Nat.gcd (cyc U) w.length).log2 < 9000 := by
          have h2 : (Nat.gcd (cyc U) w.length).log2 < 10 := (Nat.log2_lt (by omega)).mpr (by omega)
          omega
        refine ⟨⟨by simpa using hg0, by simpa using hlog⟩, ?_⟩
        (try simp -dsimp only [kK_eq, optK_some, blK_eq, intK_eq, strK_eq, iteK_t, iteK_f, andK_t, sK_some, valS_d, valS_own, valS_tp, ↓wE_v, ↓wE_k, ↓wE_bin, ↓wE_neg, ↓wE_no, ↓wE_cmp, ↓wE_chn, ↓wE_isN, ↓wE_ntN, ↓wE_and, ↓wE_or, ↓wE_orT, ↓wE_ite, ↓wE_call, ↓wE_callk, ↓wE_refused, ↓wE_callc, ↓wE_bi, ↓wE_isi, ↓wE_lenv, ↓wE_ixv, ↓wE_ix, ↓wE_sl, ↓wE_rev, ↓wE_tup, ↓wE_tpl, ↓wE_lst, ↓wE_vtp, ↓wE_index, ↓wE_lrng, ↓wE_sset, ↓comp_eq, ↓allg_eq, lstK_eq, cutK_tup, cutK_lst, cutK_scr, revK_tup, revK_lst, vtpK_tp, ↓wEs_nil, ↓wEs_cons, ↓wVs_nil, ↓wVs_cons, ↓wO_no, ↓wO_yes, ↓wC_no, ↓wC_yes, ↓wI_it, ↓wI_r1, ↓wI_r2, r2K_eq, ↓wI_r3, ↓wI_zip, ↓wS_asg, ↓wS_par, ↓wS_unp, ↓wS_setv, ↓wS_swp, ↓wS_ex, ↓wS_ret, ↓wS_iff, ↓wS_brk, ↓wS_rais, ↓wS_newd, ↓wS_skip, ↓wS_app, ↓wS_ext, ↓wS_aug, ownK_eq, lstD_eq, augK_add, augK_sub, ↓wSs_nil, ↓wSs_cons, ↓whl_eq, ↓fr_eq, b_add, b_sub, b_mul, b_div, b_mod, b_pow, b_addT, b_addL, c_lt, c_le, c_gt, c_ge, c_eq, c_ne, f_abs, f_int, f_min, f_len, f_list, f_tuple, set_mk, sl_d, sl_own, sl_tp, dat_d, dat_own, dat_tp, it_tupW, it_lst, it_scr, items_tab, items_wh, is_own, is_tup, is_lst, is_scr, is_cell, is_tab, is_wh, ln_own, ln_tup, ln_lst, ln_scr, ln_dk, ln_tab, ln_wh, set_d, set_own, set_dk, set_tp, hide1, hide2, putT1, putT2, putT3, sl1, sl2, back1, back2, gone_unW, gone_dW, gone_ownW, setA0, setA1, List.map_cons, List.map_nil, List.length_cons, List.length_nil, List.cons_append, List.nil_append, List.getElem?_cons_zero, List.getElem?_cons_succ, List.replicate_succ, List.replicate_zero, List.set_cons_zero, List.set_cons_succ, exists_eq_left, exists_eq_left', Option.some.injEq, Sl.own.injEq, exists_eq', and_true, true_and, Nat.reduceAdd, Nat.reduceSub, Nat.zero_add])
        refine n1 _ ⟨U ++ [w], V, .d (whD w), by rw [hU]; simp, rfl, ?_⟩
        rw [cyc_snoc]
        have e : ((cyc U : Int) * (w.length : Int)) / ((Nat.gcd (cyc U : Int).natAbs (w.length : Int).natAbs : Nat) : Int) = ((Nat.lcm (cyc U) w.length : Nat) : Int) := by
          rw [Nat.lcm]
          simp
        rw [e]
  · obtain ⟨U, V, s, hU, hx, rfl⟩ := hI
    cases V with
    | cons w V => cases hx
    | nil =>
      rw [List.append_nil] at hU
      subst hU
      (try simp -dsimp only [kK_eq, optK_some, blK_eq, intK_eq, strK_eq, iteK_t, iteK_f, andK_t, sK_some, valS_d, valS_own, valS_tp, ↓wE_v, ↓wE_k, ↓wE_bin, ↓wE_neg, ↓wE_no, ↓wE_cmp, ↓wE_chn, ↓wE_isN, ↓wE_ntN, ↓wE_and, ↓wE_or, ↓wE_orT, ↓wE_ite, ↓wE_call, ↓wE_callk, ↓wE_refused, ↓wE_callc, ↓wE_bi, ↓wE_isi, ↓wE_lenv, ↓wE_ixv, ↓wE_ix, ↓wE_sl, ↓wE_rev, ↓wE_tup, ↓wE_tpl, ↓wE_lst, ↓wE_vtp, ↓wE_index, ↓wE_lrng, ↓wE_sset, ↓comp_eq, ↓allg_eq, lstK_eq, cutK_tup, cutK_lst, cutK_scr, revK_tup, revK_lst, vtpK_tp, ↓wEs_nil, ↓wEs_cons, ↓wVs_nil, ↓wVs_cons, ↓wO_no, ↓wO_yes, ↓wC_no, ↓wC_yes, ↓wI_it, ↓wI_r1, ↓wI_r2, r2K_eq, ↓wI_r3, ↓wI_zip, ↓wS_asg, ↓wS_par, ↓wS_unp, ↓wS_setv, ↓wS_swp, ↓wS_ex, ↓wS_ret, ↓wS_iff, ↓wS_brk, ↓wS_rais, ↓wS_newd, ↓wS_skip, ↓wS_app, ↓wS_ext, ↓wS_aug, ownK_eq, lstD_eq, augK_add, augK_sub, ↓wSs_nil, ↓wSs_cons, ↓whl_eq, ↓fr_eq, b_add, b_sub, b_mul, b_div, b_mod, b_pow, b_addT, b_addL, c_lt, c_le, c_gt, c_ge, c_eq, c_ne, f_abs, f_int, f_min, f_len, f_list, f_tuple, set_mk, sl_d, sl_own, sl_tp, dat_d, dat_own, dat_tp, it_tupW, it_lst, it_scr, items_tab, items_wh, is_own, is_tup, is_lst, is_scr, is_cell, is_tab, is_wh, ln_own, ln_tup, ln_lst, ln_scr, ln_dk, ln_tab, ln_wh, set_d, set_own, set_dk, set_tp, hide1, hide2, putT1, putT2, putT3, sl1, sl2, back1, back2, gone_unW, gone_dW, gone_ownW, setA0, setA1, List.map_cons, List.map_nil, List.length_cons, List.length_nil, List.cons_append, List.nil_append, List.getElem?_cons_zero, List.getElem?_cons_succ, List.replicate_succ, List.replicate_zero, List.set_cons_zero, List.set_cons_succ, exists_eq_left, exists_eq_left', Option.some.injEq, Sl.own.injEq, exists_eq', and_true, true_and, Nat.reduceAdd, Nat.reduceSub, Nat.zero_add])
      exact hq
def sp_need_bar : Spec := fun ds c Q E => ∃ x n, ds = [x, .str n] ∧ x.plain = true ∧ n.length ≤ 1000 ∧ if inR x (-10000000) 10000000 = true then Q (.d .non) c else E n c
theorem k_need_bar (h1 : Sg "need_integer" = sp_need_integer) : Keeps Sg 2 b_need_bar sp_need_bar := by
  rintro ds c Q E ⟨x, n, rfl, hp, hn, hq⟩
  unfold b_need_bar
  (try simp -dsimp only [kK_eq, optK_some, blK_eq, intK_eq, strK_eq, iteK_t, iteK_f, andK_t, sK_some, valS_d, valS_own, valS_tp, ↓wE_v, ↓wE_k, ↓wE_bin, ↓wE_neg, ↓wE_no, ↓wE_cmp, ↓wE_chn, ↓wE_isN, ↓wE_ntN, ↓wE_and, ↓wE_or, ↓wE_orT, ↓wE_ite, ↓wE_call, ↓wE_callk, ↓wE_refused, ↓wE_callc, ↓wE_bi, ↓wE_isi, ↓wE_lenv, ↓wE_ixv, ↓wE_ix, ↓wE_sl, ↓wE_rev, ↓wE_tup, ↓wE_tpl, ↓wE_lst, ↓wE_vtp, ↓wE_index, ↓wE_lrng, ↓wE_sset, ↓comp_eq, ↓allg_eq, lstK_eq, cutK_tup, cutK_lst, cutK_scr, revK_tup, revK_lst, vtpK_tp, ↓wEs_nil, ↓wEs_cons, ↓wVs_nil, ↓wVs_cons, ↓wO_no, ↓wO_yes, ↓wC_no, ↓wC_yes, ↓wI_it, ↓wI_r1, ↓wI_r2, r2K_eq, ↓wI_r3, ↓wI_zip, ↓wS_asg, ↓wS_par, ↓wS_unp, ↓wS_setv, ↓wS_swp, ↓wS_ex, ↓wS_ret, ↓wS_iff, ↓wS_brk, ↓wS_rais, ↓wS_newd, ↓wS_skip, ↓wS_app, ↓wS_ext, ↓wS_aug, ownK_eq, lstD_eq, augK_add, augK_sub, ↓wSs_nil, ↓wSs_cons, ↓whl_eq, ↓fr_eq, b_add, b_sub, b_mul, b_div, b_mod, b_pow, b_addT, b_addL, c_lt, c_le, c_gt, c_ge, c_eq, c_ne, f_abs, f_int, f_min, f_len, f_list, f_tuple, set_mk, sl_d, sl_own, sl_tp, dat_d, dat_own, dat_tp, it_tupW, it_lst, it_scr, items_tab, items_wh, is_own, is_tup, is_lst, is_scr, is_cell, is_tab, is_wh, ln_own, ln_tup, ln_lst, ln_scr, ln_dk, ln_tab, ln_wh, set_d, set_own, set_dk, set_tp, hide1, hide2, putT1, putT2, putT3, sl1, sl2, back1, back2, gone_unW, gone_dW, gone_ownW, setA0, setA1, List.map_cons, List.map_nil, List.length_cons, List.length_nil, List.cons_append, List.nil_append, List.getElem?_cons_zero, List.getElem?_cons_succ, List.replicate_succ, List.replicate_zero, List.set_cons_zero, List.set_cons_succ, exists_eq_left, exists_eq_left', Option.some.injEq, Sl.own.injEq, exists_eq', and_true, true_and, Nat.reduceAdd, Nat.reduceSub, Nat.zero_add])
  exact call_of h1 ⟨x, n, -10000000, 10000000, rfl, hp, hn, hq⟩
end LC
end
section
namespace L01
open DL LC
/-- a polynomial (constant first) at work on a row -/
def ap : List Int → (Nat → Int) → Nat → Int
  | [], _, _ => 0
  | c :: p, f, t => c * f t + ap p f (t + 1)
theorem ap_zero : ∀ (p : List Int) (t : Nat), ap p (fun _ => 0) t = 0
  | [], _ => rfl
  | c :: p, t => by
    show c * 0 + ap p _ (t + 1) = 0
    rw [ap_zero p]
    simp
theorem ap_sub : ∀ (p : List Int) (f g : Nat → Int) (t : Nat), ap p (fun s => f s - g s) t = ap p f t - ap p g t
  | [], _, _, _ => rfl
  | c :: p, f, g, t => by
    show c * (f t - g t) + ap p _ (t + 1) = (c * f t + ap p f (t + 1)) - (c * g t + ap p g (t + 1))
    rw [ap_sub p, Int.mul_sub]
    omega
theorem ap_add : ∀ (p : List Int) (f g : Nat → Int) (t : Nat), ap p (fun s => f s + g s) t = ap p f t + ap p g t
  | [], _, _, _ => rfl
  | c :: p, f, g, t => by
    show c * (f t + g t) + ap p _ (t + 1) = (c * f t + ap p f (t + 1)) + (c * g t + ap p g (t + 1))
    rw [ap_add p, Int.mul_add]
    omega
theorem ap_mul : ∀ (p : List Int) (c : Int) (f : Nat → Int) (t : Nat), ap p (fun s => c * f s) t = c * ap p f t
  | [], c, _, _ => by simp [ap]
  | a :: p, c, f, t => by
    show a * (c * f t) + ap p _ (t + 1) = c * (a * f t + ap p f (t + 1))
    rw [ap_mul p, Int.mul_add, ← Int.mul_assoc, ← Int.mul_assoc, Int.mul_comm a c]
theorem ap_shift : ∀ (p : List Int) (f : Nat → Int) (t : Nat), ap p (fun s => f (s + 1)) t = ap p f (t + 1)
  | [], _, _ => rfl
  | c :: p, f, t => by
    show c * f (t + 1) + ap p _ (t + 1) = c * f (t + 1) + ap p f (t + 1 + 1)
    rw [ap_shift p]
theorem ap_comm : ∀ (p q : List Int) (f : Nat → Int) (t : Nat), ap p (ap q f) t = ap q (ap p f) t
  | [], q, f, t => (ap_zero q t).symm
  | c :: p, q, f, t => by
    show c * ap q f t + ap p (ap q f) (t + 1) = ap q (fun s => c * f s + ap p f (s + 1)) t
    rw [ap_add q, ap_mul q, ap_shift q (ap p f), ap_comm p q]
theorem ap_congr : ∀ (p : List Int) {f g : Nat → Int} (_ : ∀ t, f t = g t) (t : Nat), ap p f t = ap p g t := fun p f g h t => by
  have e : f = g := funext h
  rw [e]
def addP : List Int → List Int → List Int
  | [], q => q
  | p, [] => p
  | a :: p, b :: q => (a + b) :: addP p q
def mulP : List Int → List Int → List Int
  | [], _ => []
  | c :: p, q => addP (q.map (c * ·)) (0 :: mulP p q)
theorem ap_addP : ∀ (p q : List Int) (f : Nat → Int) (t : Nat), ap (addP p q) f t = ap p f t + ap q f t
  | [], q, f, t => by
    show ap q f t = 0 + ap q f t
    rw [Int.zero_add]
  | a :: p, [], f, t => by
    show ap (a :: p) f t = ap (a :: p) f t + 0
    rw [Int.add_zero]
  | a :: p, b :: q, f, t => by
    show (a + b) * f t + ap (addP p q) f (t + 1) = (a * f t + ap p f (t + 1)) + (b * f t + ap q f (t + 1))
    rw [ap_addP p q, Int.add_mul]
    omega
theorem ap_scale (c : Int) : ∀ (q : List Int) (f : Nat → Int) (t : Nat), ap (q.map (c * ·)) f t = c * ap q f t
  | [], _, _ => by simp [ap]
  | a :: q, f, t => by
    show c * a * f t + ap (q.map (c * ·)) f (t + 1) = c * (a * f t + ap q f (t + 1))
    rw [ap_scale c q, Int.mul_add, Int.mul_assoc]
theorem ap_mulP : ∀ (p q : List Int) (f : Nat → Int) (t : Nat), ap (mulP p q) f t = ap p (ap q f) t
  | [], _, _, _ => rfl
  | c :: p, q, f, t => by
    show ap (addP (q.map (c * ·)) (0 :: mulP p q)) f t = c * ap q f t + ap p (ap q f) (t + 1)
    rw [ap_addP, ap_scale]
    show c * ap q f t + (0 * f t + ap (mulP p q) f (t + 1)) = _
    rw [ap_mulP p q, Int.zero_mul, Int.zero_add]
/-- many polynomials, one behind the other -/
def aps (ps : List (List Int)) (f : Nat → Int) : Nat → Int := ps.foldr ap f
theorem aps_zero : ∀ (ps : List (List Int)) {f : Nat → Int} (_ : ∀ t, f t = 0) (t : Nat), aps ps f t = 0
  | [], f, h, t => h t
  | p :: ps, f, h, t => by
    show ap p (aps ps f) t = 0
    have e : aps ps f = fun _ => 0 := funext fun s => aps_zero ps h s
    rw [e, ap_zero]
theorem aps_app (ps qs : List (List Int)) (f : Nat → Int) : aps (ps ++ qs) f = aps ps (aps qs f) := List.foldr_append
theorem aps_perm {ps qs : List (List Int)} (h : ps.Perm qs) : ∀ f : Nat → Int, aps ps f = aps qs f := by
  induction h with
  | nil => exact fun f => rfl
  | cons p _ ih => exact fun f => by show ap p (aps _ f) = ap p (aps _ f); rw [ih f]
  | swap p q ps => exact fun f => funext fun t => ap_comm q p (aps ps f) t
  | trans _ _ i1 i2 => exact fun f => (i1 f).trans (i2 f)
theorem aps_sub (ps : List (List Int)) (f g : Nat → Int) : aps ps (fun s => f s - g s) = fun s => aps ps f s - aps ps g s := by
  induction ps with
  | nil => rfl
  | cons p ps ih =>
    show ap p (aps ps _) = fun s => ap p (aps ps f) s - ap p (aps ps g) s
    rw [ih]
    funext t
    exact ap_sub p _ _ t
theorem aps_add (ps : List (List Int)) (f g : Nat → Int) : aps ps (fun s => f s + g s) = fun s => aps ps f s + aps ps g s := by
  induction ps with
  | nil => rfl
  | cons p ps ih =>
    show ap p (aps ps _) = fun s => ap p (aps ps f) s + ap p (aps ps g) s
    rw [ih]
    funext t
    exact ap_add p _ _ t
def prodP (ps : List (List Int)) : List Int := ps.foldr mulP [1]
theorem ap_prodP : ∀ (ps : List (List Int)) (f : Nat → Int) (t : Nat), ap (prodP ps) f t = aps ps f t
  | [], f, t => by
    show 1 * f t + 0 = f t
    omega
  | p :: ps, f, t => by
    show ap (mulP p (prodP ps)) f t = ap p (aps ps f) t
    rw [ap_mulP]
    exact ap_congr p (ap_prodP ps f) t

theorem ap_snoc : ∀ (l : List Int) (f : Nat → Int) (t : Nat), ap (l ++ [1]) f t = ap l f t + f (t + l.length)
  | [], f, t => by
    show 1 * f t + 0 = 0 + f (t + 0)
    rw [Nat.add_zero]
    omega
  | c :: l, f, t => by
    show c * f t + ap (l ++ [1]) f (t + 1) = c * f t + ap l f (t + 1) + f (t + (l.length + 1))
    rw [ap_snoc l]
    have e : t + 1 + l.length = t + (l.length + 1) := by omega
    rw [e]
    omega
theorem ap_reach : ∀ (l : List Int) {f : Nat → Int} {n : Nat} (t : Nat), (∀ s, s < n → f s = 0) → t + l.length ≤ n → ap l f t = 0
  | [], _, _, _, _, _ => rfl
  | c :: l, f, n, t, h, ht => by
    rw [List.length_cons] at ht
    show c * f t + ap l f (t + 1) = 0
    rw [h t (by omega), ap_reach l (t + 1) h (by omega)]
    simp
/-- zero at first, and under a polynomial with a highest part of one: zero for ever -/
theorem zero_one {l : List Int} {f : Nat → Int} (hz : ∀ t, ap (l ++ [1]) f t = 0) (h : ∀ t, t < l.length → f t = 0) : ∀ t, f t = 0 := by
  have key : ∀ n, ∀ s, s < n → f s = 0 := by
    intro n
    induction n with
    | zero => exact fun s hs => absurd hs (Nat.not_lt_zero _)
    | succ n ih =>
      intro s hs
      by_cases h1 : s < n
      · exact ih s h1
      · have e : s = n := by omega
        subst e
        by_cases h2 : s < l.length
        · exact h s h2
        · have := hz (s - l.length)
          rw [ap_snoc, ap_reach l (s - l.length) ih (by omega)] at this
          have e2 : s - l.length + l.length = s := by omega
          rw [e2] at this
          omega
  exact fun t => key (t + 1) t (by omega)
def degs (ls : List (List Int)) : Nat := (ls.map List.length).sum
def mon (ls : List (List Int)) : List (List Int) := ls.map (· ++ [1])
theorem aps_reach : ∀ (ls : List (List Int)) {f : Nat → Int} {n : Nat}, (∀ s, s < n + degs ls → f s = 0) → ∀ s, s < n → aps (mon ls) f s = 0
  | [], _, _, h, s, hs => h s (by unfold degs; simp; omega)
  | l :: ls, f, n, h, s, hs => by
    show ap (l ++ [1]) (aps (mon ls) f) s = 0
    have i := aps_reach ls (n := n + l.length) (f := f) fun s hs => h s (by unfold degs at hs ⊢; rw [List.map_cons, List.sum_cons]; omega)
    rw [ap_snoc, ap_reach l s i (by omega), i _ (by omega)]
    rfl
theorem zero_all : ∀ (ls : List (List Int)) {f : Nat → Int}, (∀ t, aps (mon ls) f t = 0) → (∀ t, t < degs ls → f t = 0) → ∀ t, f t = 0
  | [], _, hz, _, t => hz t
  | l :: ls, f, hz, h, t => by
    have hd : degs (l :: ls) = l.length + degs ls := by unfold degs; rw [List.map_cons, List.sum_cons]
    have h1 : ∀ s, aps (mon ls) f s = 0 := zero_one (l := l) (f := aps (mon ls) f) hz (aps_reach ls (n := l.length) fun s hs => h s (by omega))
    exact zero_all ls h1 (fun s hs => h s (by omega)) t

def SZ : List Nat := [1, 2, 3, 4, 5, 6, 7, 8, 10, 12, 14, 16, 20, 24, 28, 32]
def cyc0 : Nat → List Int
  | 1 => [-1]
  | 2 => [1]
  | 3 => [1, 1]
  | 4 => [1, 0]
  | 5 => [1, 1, 1, 1]
  | 6 => [1, -1]
  | 7 => [1, 1, 1, 1, 1, 1]
  | 8 => [1, 0, 0, 0]
  | 10 => [1, -1, 1, -1]
  | 12 => [1, 0, -1, 0]
  | 14 => [1, -1, 1, -1, 1, -1]
  | 16 => [1, 0, 0, 0, 0, 0, 0, 0]
  | 20 => [1, 0, -1, 0, 1, 0, -1, 0]
  | 24 => [1, 0, 0, 0, -1, 0, 0, 0]
  | 28 => [1, 0, -1, 0, 1, 0, -1, 0, 1, 0, -1, 0]
  | 32 => [1, 0, 0, 0, 0, 0, 0, 0, 0, 0, 0, 0, 0, 0, 0, 0]
  | _ => []
def dvs (n : Nat) : List Nat := SZ.filter fun d => decide (d ∣ n)
def xn1 (n : Nat) : List Int := (-1) :: (List.replicate (n - 1) 0 ++ [1])
theorem prod_ok : ∀ n ∈ SZ, prodP (mon ((dvs n).map cyc0)) = xn1 n := by decide +kernel
theorem ap_zeros (k : Nat) (f : Nat → Int) : ∀ t, ap (List.replicate k 0) f t = 0 := by
  induction k with
  | zero => exact fun t => rfl
  | succ k ih =>
    intro t
    rw [List.replicate_succ]
    show 0 * f t + ap _ f (t + 1) = 0
    rw [ih]
    simp
theorem ap_xn1 {n : Nat} (hn : 0 < n) (f : Nat → Int) (t : Nat) : ap (xn1 n) f t = f (t + n) - f t := by
  show -1 * f t + ap (List.replicate (n - 1) 0 ++ [1]) f (t + 1) = _
  rw [ap_snoc, ap_zeros, List.length_replicate]
  have e : t + 1 + (n - 1) = t + n := by omega
  rw [e]
  omega
theorem sz_pos : ∀ n ∈ SZ, 0 < n := by decide
theorem per_zero {n : Nat} (hn : n ∈ SZ) {f : Nat → Int} (hp : ∀ t, f (t + n) = f t) (t : Nat) : aps (mon ((dvs n).map cyc0)) f t = 0 := by
  rw [← ap_prodP, prod_ok n hn, ap_xn1 (sz_pos n hn), hp]
  omega
/-- the divisors of some sizes -/
def DV (ns : List Nat) : List Nat := SZ.filter fun d => ns.any fun n => decide (d ∣ n)
theorem per_zeros {ns : List Nat} {n : Nat} (hm : n ∈ ns) (hn : n ∈ SZ) {f : Nat → Int} (hp : ∀ t, f (t + n) = f t) (t : Nat) : aps (mon ((DV ns).map cyc0)) f t = 0 := by
  have h1 : (DV ns).Perm ((DV ns).filter (fun d => !decide (d ∣ n)) ++ (DV ns).filter (fun d => decide (d ∣ n))) :=
    ((List.filter_append_perm (fun d => decide (d ∣ n)) (DV ns)).symm).trans List.perm_append_comm
  have h2 : (DV ns).filter (fun d => decide (d ∣ n)) = dvs n := by
    unfold DV dvs
    rw [List.filter_filter]
    refine List.filter_congr fun d _ => ?_
    by_cases hd : d ∣ n
    · have : (ns.any fun n => decide (d ∣ n)) = true := List.any_eq_true.mpr ⟨n, hm, decide_eq_true hd⟩
      rw [this, decide_eq_true hd]
      rfl
    · rw [decide_eq_false hd]
      rfl
  rw [h2] at h1
  have h3 : (mon ((DV ns).map cyc0)).Perm (mon (((DV ns).filter (fun d => !decide (d ∣ n))).map cyc0) ++ mon ((dvs n).map cyc0)) := by
    unfold mon
    rw [← List.map_append, ← List.map_append]
    exact (h1.map _).map _
  rw [aps_perm h3, aps_app]
  exact aps_zero _ (fun t => per_zero hn hp t) t
end L01
end
section
namespace L01
open DL LC

def ins (ks : List (List Int)) (k : List Int) : List (List Int) := if k ∈ ks then ks else ks ++ [k]
def keyOf (n a : Nat) : List Int := [((a / Nat.gcd n a : Nat) : Int), ((n / Nat.gcd n a : Nat) : Int)]
def insN (ks : List (List Int)) (n : Nat) (as : List Nat) : List (List Int) := as.foldl (fun ks a => ins ks (keyOf n a)) ks
def keys (ns : List Nat) : List (List Int) := ns.foldl (fun ks n => insN ks n (List.range n)) []
theorem ins_mem {ks : List (List Int)} {k x : List Int} : x ∈ ins ks k ↔ x ∈ ks ∨ x = k := by
  unfold ins
  split
  · rename_i h
    exact ⟨.inl, fun z => z.elim id fun e => e ▸ h⟩
  · rw [List.mem_append, List.mem_singleton]
theorem insN_sub {n : Nat} : ∀ {as : List Nat} {ks : List (List Int)} {x : List Int}, x ∈ ks → x ∈ insN ks n as
  | [], _, _, h => h
  | a :: as, ks, x, h => insN_sub (as := as) (ks := ins ks (keyOf n a)) (ins_mem.mpr (.inl h))
theorem insN_has {n a : Nat} : ∀ {as : List Nat} {ks : List (List Int)}, a ∈ as → keyOf n a ∈ insN ks n as
  | [], _, h => nomatch h
  | b :: as, ks, h => by
    rcases List.mem_cons.mp h with rfl | h
    · exact insN_sub (as := as) (ks := ins ks (keyOf n a)) (ins_mem.mpr (.inr rfl))
    · exact insN_has (as := as) (ks := ins ks (keyOf n b)) h
theorem foldK_sub : ∀ {ns : List Nat} {ks : List (List Int)} {x : List Int}, x ∈ ks → x ∈ ns.foldl (fun ks n => insN ks n (List.range n)) ks
  | [], _, _, h => h
  | n :: ns, ks, x, h => foldK_sub (ns := ns) (insN_sub h)
theorem foldK_has {n a : Nat} (ha : a < n) : ∀ {ns : List Nat} {ks : List (List Int)}, n ∈ ns → keyOf n a ∈ ns.foldl (fun ks n => insN ks n (List.range n)) ks
  | [], _, h => nomatch h
  | m :: ns, ks, h => by
    rcases List.mem_cons.mp h with rfl | h
    · exact foldK_sub (ns := ns) (insN_has (List.mem_range.mpr ha))
    · exact foldK_has ha (ns := ns) h
theorem keys_has {ns : List Nat} {n a : Nat} (hn : n ∈ ns) (ha : a < n) : keyOf n a ∈ keys ns := foldK_has ha hn
/-- a divisor's fractions are all there -/
theorem keys_dv {ns : List Nat} {n d p : Nat} (hn : n ∈ ns) (h0 : 0 < n) (hd : d ∣ n) (hp : p < d) (hc : Nat.gcd d p = 1) : [(p : Int), (d : Int)] ∈ keys ns := by
  obtain ⟨k, rfl⟩ := hd
  have hk : 0 < k := Nat.pos_of_ne_zero fun e => by subst e; simp at h0
  have hdp : 0 < d := Nat.lt_of_le_of_lt (Nat.zero_le _) hp
  have h := keys_has (a := p * k) hn (Nat.mul_lt_mul_of_pos_right hp hk)
  have e : Nat.gcd (d * k) (p * k) = k := by rw [Nat.gcd_mul_right, hc, Nat.one_mul]
  unfold keyOf at h
  rw [e, Nat.mul_div_cancel _ hk, Nat.mul_div_cancel _ hk] at h
  exact h
theorem len_le {α : Type} [DecidableEq α] : ∀ {l m : List α}, l.Nodup → (∀ x ∈ l, x ∈ m) → l.length ≤ m.length
  | [], _, _, _ => Nat.zero_le _
  | x :: l, m, hn, h => by
    obtain ⟨h1, h2⟩ := List.nodup_cons.mp hn
    have hx := h x List.mem_cons_self
    have i := len_le (l := l) (m := m.erase x) h2 fun y hy => by
      have hne : y ≠ x := fun e => h1 (e ▸ hy)
      exact (List.mem_erase_of_ne hne).mpr (h y (List.mem_cons_of_mem _ hy))
    rw [List.length_erase_of_mem hx] at i
    have := List.length_pos_of_mem hx
    rw [List.length_cons]
    omega
def frs (d : Nat) : List (List Int) := ((List.range d).filter fun p => decide (Nat.gcd d p = 1)).map fun (p : Nat) => [(p : Int), (d : Int)]
theorem frs_len : ∀ d ∈ SZ, (frs d).length = (cyc0 d).length := by decide +kernel
theorem frs_nodup (d : Nat) : (frs d).Nodup := by
  unfold frs List.Nodup
  rw [List.pairwise_map]
  refine ((List.nodup_range (n := d)).filter _).imp fun {a b} h e => h ?_
  have := (List.cons.inj e).1
  omega
theorem frs_snd {d : Nat} {x : List Int} (h : x ∈ frs d) : ∃ p : Nat, x = [(p : Int), (d : Int)] ∧ p < d ∧ Nat.gcd d p = 1 := by
  unfold frs at h
  obtain ⟨p, hp, rfl⟩ := List.mem_map.mp h
  rw [List.mem_filter, List.mem_range, decide_eq_true_eq] at hp
  exact ⟨p, rfl, hp⟩
theorem flat_nodup : ∀ {l : List Nat}, l.Nodup → (l.flatMap frs).Nodup
  | [], _ => List.nodup_nil
  | d :: l, h => by
    obtain ⟨h1, h2⟩ := List.nodup_cons.mp h
    rw [List.flatMap_cons]
    refine List.nodup_append.mpr ⟨frs_nodup d, flat_nodup h2, fun x hx y hy e => ?_⟩
    obtain ⟨p, e1, _⟩ := frs_snd hx
    obtain ⟨d', hd', hy⟩ := List.mem_flatMap.mp hy
    obtain ⟨q, e2, _⟩ := frs_snd hy
    rw [e1, e2] at e
    have : d = d' := by
      have := (List.cons.inj (List.cons.inj e).2).1
      omega
    exact h1 (this ▸ hd')
theorem flat_len : ∀ {l : List Nat}, (∀ d ∈ l, d ∈ SZ) → (l.flatMap frs).length = degs (l.map cyc0)
  | [], _ => rfl
  | d :: l, h => by
    rw [List.flatMap_cons, List.length_append, frs_len d (h d List.mem_cons_self), flat_len fun e he => h e (List.mem_cons_of_mem _ he)]
    unfold degs
    rw [List.map_cons, List.map_cons, List.sum_cons]
theorem DV_mem {ns : List Nat} {d : Nat} (h : d ∈ DV ns) : d ∈ SZ ∧ ∃ n ∈ ns, d ∣ n := by
  unfold DV at h
  rw [List.mem_filter, List.any_eq_true] at h
  obtain ⟨h1, n, hn, h2⟩ := h
  exact ⟨h1, n, hn, of_decide_eq_true h2⟩
theorem keys_many {ns : List Nat} (hn : ∀ n ∈ ns, n ∈ SZ) : degs ((DV ns).map cyc0) ≤ (keys ns).length := by
  rw [← flat_len fun d hd => (DV_mem hd).1]
  refine len_le (flat_nodup (List.Pairwise.filter _ (by decide : SZ.Nodup))) fun x hx => ?_
  obtain ⟨d, hd, hx⟩ := List.mem_flatMap.mp hx
  obtain ⟨_, n, hn1, hn2⟩ := DV_mem hd
  obtain ⟨p, rfl, h1, h2⟩ := frs_snd hx
  exact keys_dv hn1 (sz_pos n (hn n hn1)) hn2 h1 h2

def sizes (T : List (List Int)) : List Nat := T.map List.length
def SzOk (T : List (List Int)) : Prop := ∀ w ∈ T, w.length ∈ SZ
theorem wheel_per (w : List Int) (t : Nat) : w.getD (((t + w.length : Nat) : Int) % w.length).toNat 0 = w.getD ((t : Int) % w.length).toNat 0 := by
  rw [Int.natCast_add, Int.add_emod_right]
theorem aps_tab {ns : List Nat} : ∀ {T : List (List Int)}, SzOk T → (∀ w ∈ T, w.length ∈ ns) → ∀ t, aps (mon ((DV ns).map cyc0)) (fun (t : Nat) => hgt T t) t = 0
  | [], _, _, t => aps_zero _ (fun t => rfl) t
  | w :: T, h1, h2, t => by
    have e : (fun (t : Nat) => hgt (w :: T) t) = fun (t : Nat) => w.getD ((t : Int) % w.length).toNat 0 + hgt T t := by
      funext t
      unfold hgt
      rw [List.map_cons, List.sum_cons]
    rw [e, aps_add]
    show aps _ _ t + aps _ _ t = 0
    rw [aps_tab (fun v hv => h1 v (List.mem_cons_of_mem _ hv)) (fun v hv => h2 v (List.mem_cons_of_mem _ hv)) t, per_zeros (h2 w List.mem_cons_self) (h1 w List.mem_cons_self) (wheel_per w) t]
    rfl
/-- alike at enough times: alike for ever -/
theorem enough {A B : List (List Int)} (hA : SzOk A) (hB : SzOk B) (h : ∀ t : Nat, t < (keys (sizes (A ++ B))).length → hgt A t = hgt B t) : ∀ t : Nat, hgt A t = hgt B t := by
  have hs : ∀ w ∈ A ++ B, w.length ∈ sizes (A ++ B) := fun w hw => List.mem_map.mpr ⟨w, hw, rfl⟩
  have hz : ∀ n ∈ sizes (A ++ B), n ∈ SZ := fun n hn => by
    obtain ⟨w, hw, rfl⟩ := List.mem_map.mp hn
    rcases List.mem_append.mp hw with z | z
    · exact hA w z
    · exact hB w z
  have key := zero_all ((DV (sizes (A ++ B))).map cyc0) (f := fun (t : Nat) => hgt A t - hgt B t) (fun t => by
    rw [aps_sub]
    show aps _ _ t - aps _ _ t = 0
    rw [aps_tab hA (fun w hw => hs w (List.mem_append_left _ hw)), aps_tab hB (fun w hw => hs w (List.mem_append_right _ hw))]
    rfl) (fun t ht => by
    have := h t (Nat.lt_of_lt_of_le ht (keys_many hz))
    show hgt A t - hgt B t = 0
    omega)
  intro t
  have : hgt A t - hgt B t = 0 := key t
  omega

def firstU (p : Nat → Bool) : Nat → Nat → Option Nat
  | _, 0 => none
  | t, n + 1 => if p t = true then some t else firstU p (t + 1) n
theorem firstU_none {p : Nat → Bool} : ∀ {n t : Nat}, firstU p t n = none ↔ ∀ s, t ≤ s → s < t + n → p s = false
  | 0, t => ⟨fun _ s h1 h2 => by omega, fun _ => rfl⟩
  | n + 1, t => by
    unfold firstU
    cases e : p t with
    | true =>
      rw [if_pos rfl]
      constructor
      · intro h
        cases h
      · intro h
        rw [h t (Nat.le_refl _) (by omega)] at e
        cases e
    | false =>
      rw [if_neg (by decide), firstU_none (n := n) (t := t + 1)]
      constructor
      · intro h s h1 h2
        by_cases z : s = t
        · rw [z, e]
        · exact h s (by omega) (by omega)
      · exact fun h s h1 h2 => h s (by omega) (by omega)
theorem firstU_some {p : Nat → Bool} {m : Nat} : ∀ {n t : Nat}, firstU p t n = some m ↔ (t ≤ m ∧ m < t + n ∧ p m = true ∧ ∀ s, t ≤ s → s < m → p s = false)
  | 0, t => by
    constructor
    · intro h
      cases h
    · rintro ⟨h1, h2, _⟩
      omega
  | n + 1, t => by
    unfold firstU
    cases e : p t with
    | true =>
      rw [if_pos rfl]
      constructor
      · intro h
        cases h
        exact ⟨Nat.le_refl _, by omega, e, fun s h1 h2 => by omega⟩
      · rintro ⟨h1, h2, h3, h4⟩
        by_cases z : m = t
        · rw [z]
        · have := h4 t (Nat.le_refl _) (by omega)
          rw [e] at this
          cases this
    | false =>
      rw [if_neg (by decide), firstU_some (n := n) (t := t + 1)]
      constructor
      · rintro ⟨h1, h2, h3, h4⟩
        refine ⟨by omega, by omega, h3, fun s z1 z2 => ?_⟩
        by_cases z : s = t
        · rw [z, e]
        · exact h4 s (by omega) z2
      · rintro ⟨h1, h2, h3, h4⟩
        have z : m ≠ t := fun z => by rw [z, e] at h3; cases h3
        exact ⟨by omega, by omega, h3, fun s z1 z2 => h4 s (by omega) z2⟩
/-- two lengths, each enough -/
theorem firstU_eq {p : Nat → Bool} {n m : Nat} (hn : (∀ s, s < n → p s = false) → ∀ s, p s = false) (hm : (∀ s, s < m → p s = false) → ∀ s, p s = false) : firstU p 0 n = firstU p 0 m := by
  cases e : firstU p 0 m with
  | none =>
    have h := hm fun s hs => firstU_none.mp e s (Nat.zero_le _) (by omega)
    exact firstU_none.mpr fun s _ _ => h s
  | some k =>
    obtain ⟨h1, h2, h3, h4⟩ := firstU_some.mp e
    refine firstU_some.mpr ⟨h1, ?_, h3, h4⟩
    by_cases hk : k < 0 + n
    · exact hk
    · have := hn (fun s hs => h4 s (Nat.zero_le _) (by omega)) k
      rw [this] at h3
      cases h3
def unl (A B : List (List Int)) (t : Nat) : Bool := !decide (hgt A t = hgt B t)
theorem unl_f {A B : List (List Int)} {t : Nat} : unl A B t = false ↔ hgt A t = hgt B t := by
  unfold unl
  by_cases h : hgt A t = hgt B t <;> simp [h]
theorem fold_dvd : ∀ {T : List (List Int)} {n : Nat}, n ∣ T.foldl (fun n w => Nat.lcm n w.length) n ∧ ∀ w ∈ T, w.length ∣ T.foldl (fun n w => Nat.lcm n w.length) n
  | [], n => ⟨Nat.dvd_refl _, fun w h => nomatch h⟩
  | w :: T, n => by
    obtain ⟨h1, h2⟩ := fold_dvd (T := T) (n := Nat.lcm n w.length)
    refine ⟨Nat.dvd_trans (Nat.dvd_lcm_left _ _) h1, fun v hv => ?_⟩
    rcases List.mem_cons.mp hv with rfl | hv
    · exact Nat.dvd_trans (Nat.dvd_lcm_right _ _) h1
    · exact h2 v hv
theorem len_dvd {T : List (List Int)} {w : List Int} (hw : w ∈ T) : w.length ∣ cyc T := fold_dvd.2 w hw
theorem hgt_mul {T : List (List Int)} {m : Nat} (h : ∀ w ∈ T, w.length ∣ m) (t : Int) : hgt T (t + m) = hgt T t := by
  unfold hgt
  congr 1
  refine List.map_congr_left fun w hw => ?_
  obtain ⟨k, hk⟩ := h w hw
  have e : (t + (m : Int)) % (w.length : Int) = t % (w.length : Int) := by
    rw [hk]
    push_cast
    rw [Int.add_mul_emod_self_left]
  rw [e]
theorem hgt_mod {T : List (List Int)} (m : Nat) (h : ∀ w ∈ T, w.length ∣ m) (t : Nat) : hgt T ((t % m : Nat) : Int) = hgt T t := by
  unfold hgt
  congr 1
  refine List.map_congr_left fun w hw => ?_
  have e : ((t % m : Nat) : Int) % (w.length : Int) = (t : Int) % (w.length : Int) := by
    have := Nat.mod_mod_of_dvd t (h w hw)
    rw [← Int.natCast_emod, ← Int.natCast_emod, this]
  rw [e]
theorem unl_cyc {A B : List (List Int)} (hc : 0 < cyc (A ++ B)) (h : ∀ s, s < cyc (A ++ B) → unl A B s = false) : ∀ s, unl A B s = false := fun s => by
  have := unl_f.mp (h (s % cyc (A ++ B)) (Nat.mod_lt _ hc))
  rw [hgt_mod (T := A) _ (fun w hw => len_dvd (List.mem_append_left _ hw)), hgt_mod (T := B) _ (fun w hw => len_dvd (List.mem_append_right _ hw))] at this
  exact unl_f.mpr this
theorem SzOk.app {A B : List (List Int)} (h1 : SzOk A) (h2 : SzOk B) : SzOk (A ++ B) := fun w hw => by
  rcases List.mem_append.mp hw with z | z
  · exact h1 w z
  · exact h2 w z
theorem unlike_eq {A B : List (List Int)} (hA : SzOk A) (hB : SzOk B) : firstU (unl A B) 0 (keys (sizes (A ++ B))).length = firstU (unl A B) 0 (cyc (A ++ B)) :=
  firstU_eq (fun h s => unl_f.mpr (enough hA hB (fun t ht => unl_f.mp (h t ht)) s)) (unl_cyc (cyc_pos fun w hw => sz_pos _ (hA.app hB w hw)))
end L01
end
section
namespace L01
open DL LC
def Per (T : List (List Int)) (m : Nat) : Prop := ∀ t : Nat, hgt T ((t : Int) + (m : Int)) = hgt T t
variable {T : List (List Int)}
theorem Per.add {a b : Nat} (h1 : Per T a) (h2 : Per T b) : Per T (a + b) := fun t => by
  have e : (t : Int) + ((a + b : Nat) : Int) = ((t + a : Nat) : Int) + (b : Int) := by push_cast; omega
  rw [e, h2, Int.natCast_add, h1]
theorem Per.zero : Per T 0 := fun t => by
  have e : (t : Int) + ((0 : Nat) : Int) = t := by simp
  rw [e]
theorem Per.mul {a : Nat} (h : Per T a) : ∀ k : Nat, Per T (a * k)
  | 0 => by rw [Nat.mul_zero]; exact Per.zero
  | k + 1 => by rw [Nat.mul_succ]; exact (Per.mul h k).add h
theorem Per.sub {a b : Nat} (h1 : Per T (a + b)) (h2 : Per T b) : Per T a := fun t => by
  have e1 := h2 (t + a)
  have e2 := h1 t
  have e : (t : Int) + ((a + b : Nat) : Int) = ((t + a : Nat) : Int) + (b : Int) := by push_cast; omega
  rw [e, e1, Int.natCast_add] at e2
  exact e2
theorem Per.mod {a b : Nat} (h1 : Per T a) (h2 : Per T b) : Per T (a % b) := by
  have e : a = a % b + b * (a / b) := (Nat.mod_add_div a b).symm
  rw [e] at h1
  exact h1.sub (h2.mul _)
theorem Per.gcd : ∀ (a b : Nat), Per T a → Per T b → Per T (Nat.gcd a b) := by
  intro a
  induction a using Nat.strongRecOn with
  | ind a ih =>
    intro b h1 h2
    by_cases h : a = 0
    · subst h
      rw [Nat.gcd_zero_left]
      exact h2
    · rw [Nat.gcd_rec]
      exact ih (b % a) (Nat.mod_lt _ (by omega)) a (h2.mod h1) h1
theorem Per.dvd {a b : Nat} (h : Per T a) (hd : a ∣ b) : Per T b := by
  obtain ⟨k, rfl⟩ := hd
  exact h.mul k
theorem per_cyc (T : List (List Int)) : Per T (cyc T) := fun t => hgt_mul (fun w hw => len_dvd hw) t
def Least (T : List (List Int)) (m : Nat) : Prop := 0 < m ∧ Per T m ∧ ∀ k, 0 < k → Per T k → m ≤ k
theorem min_ex {p : Nat → Prop} : ∀ n, p n → ∃ m, p m ∧ ∀ k, p k → m ≤ k := by
  intro n
  induction n using Nat.strongRecOn with
  | ind n ih =>
    intro hn
    by_cases h : ∃ k, k < n ∧ p k
    · obtain ⟨k, h1, h2⟩ := h
      exact ih k h1 h2
    · exact ⟨n, hn, fun k hk => Nat.le_of_not_lt fun z => h ⟨k, z, hk⟩⟩
theorem div_ex {e : Nat} (he : 2 ≤ e) : ∃ q, 2 ≤ q ∧ q ∣ e ∧ ∀ a b, q ∣ a * b → q ∣ a ∨ q ∣ b := by
  obtain ⟨q, ⟨h1, h2⟩, h3⟩ := min_ex (p := fun q => 2 ≤ q ∧ q ∣ e) e ⟨he, Nat.dvd_refl _⟩
  refine ⟨q, h1, h2, fun a b hab => ?_⟩
  have hg := Nat.gcd_dvd_left q a
  by_cases h4 : 2 ≤ Nat.gcd q a
  · have := h3 _ ⟨h4, Nat.dvd_trans hg h2⟩
    have h5 := Nat.le_of_dvd (by omega) hg
    have e : Nat.gcd q a = q := by omega
    exact .inl (e ▸ Nat.gcd_dvd_right q a)
  · have h5 : 0 < Nat.gcd q a := Nat.gcd_pos_of_pos_left _ (by omega)
    have e : Nat.gcd q a = 1 := by omega
    exact .inr (Nat.Coprime.dvd_of_dvd_mul_left e hab)
theorem prime_size {q : Nat} (hq : 2 ≤ q) (hp : ∀ a b, q ∣ a * b → q ∣ a ∨ q ∣ b) : ∀ {T : List (List Int)} {n : Nat}, q ∣ T.foldl (fun n w => Nat.lcm n w.length) n → q ∣ n ∨ ∃ w ∈ T, q ∣ w.length
  | [], n, h => .inl h
  | w :: T, n, h => by
    rcases prime_size hq hp (T := T) (n := Nat.lcm n w.length) h with z | ⟨v, hv, z⟩
    · have h2 : q ∣ n * w.length := Nat.dvd_trans z (Nat.lcm_dvd (Nat.dvd_mul_right _ _) (Nat.dvd_mul_left _ _))
      rcases hp _ _ h2 with y | y
      · exact .inl y
      · exact .inr ⟨w, List.mem_cons_self, y⟩
    · exact .inr ⟨v, List.mem_cons_of_mem _ hv, z⟩
theorem least_of {f : Nat} (h8 : ∀ w ∈ T, 0 < w.length ∧ w.length ≤ 60) (hf : 0 < f) (hd : f ∣ cyc T) (hP : Per T f) (hq : ∀ q, 2 ≤ q → q ≤ 60 → q ∣ f → ¬ Per T (f / q)) : Least T f := by
  refine ⟨hf, hP, fun k hk hPk => Nat.le_of_not_lt fun hlt => ?_⟩
  have hg := Per.gcd f k hP hPk
  have h1 := Nat.gcd_dvd_left f k
  have h2 := Nat.le_of_dvd hk (Nat.gcd_dvd_right f k)
  have h3 : 0 < Nat.gcd f k := Nat.gcd_pos_of_pos_left _ hf
  generalize Nat.gcd f k = g at *
  obtain ⟨e, rfl⟩ := h1
  have he : 2 ≤ e := by
    rcases e with _ | _ | e
    · simp at hf
    · simp at hlt; omega
    · omega
  obtain ⟨q, q1, q2, q3⟩ := div_ex he
  have hqf : q ∣ g * e := Nat.dvd_trans q2 (Nat.dvd_mul_left _ _)
  have hq60 : q ≤ 60 := by
    rcases prime_size q1 q3 (T := T) (n := 1) (Nat.dvd_trans hqf hd) with z | ⟨w, hw, z⟩
    · have := Nat.le_of_dvd Nat.one_pos z
      omega
    · have := Nat.le_of_dvd (h8 w hw).1 z
      have := (h8 w hw).2
      omega
  refine hq q q1 hq60 hqf ?_
  obtain ⟨e', rfl⟩ := q2
  have e1 : g * (q * e') / q = g * e' := by
    rw [← Nat.mul_assoc, Nat.mul_comm g q, Nat.mul_assoc, Nat.mul_div_cancel_left _ (by omega)]
  rw [e1]
  exact hg.mul e'
theorem least_dvd {m : Nat} (h : Least T m) : m ∣ cyc T := by
  obtain ⟨h1, h2, h3⟩ := h
  have hm := Per.mod (per_cyc T) h2
  have hl := Nat.mod_lt (cyc T) h1
  refine Nat.dvd_of_mod_eq_zero ?_
  by_cases z : cyc T % m = 0
  · exact z
  · have := h3 _ (by omega) hm
    omega
/-- a walk through a cycle tells a period -/
theorem per_walk (hc : 0 < cyc T) {m : Nat} : (∀ t : Nat, t < cyc T → hgt T t = hgt T ((t : Int) + (m : Int))) ↔ Per T m := by
  constructor
  · intro h t
    have e := h (t % cyc T) (Nat.mod_lt _ hc)
    have d := fun w (hw : w ∈ T) => len_dvd hw
    have e2 : ((t % cyc T : Nat) : Int) + (m : Int) = ((t % cyc T + m : Nat) : Int) := by push_cast; rfl
    have e3 : hgt T ((t % cyc T + m : Nat) : Int) = hgt T ((t + m : Nat) : Int) := by
      rw [← hgt_mod _ d (t % cyc T + m), ← hgt_mod _ d (t + m), Nat.mod_add_mod]
    rw [e2, e3, hgt_mod _ d] at e
    rw [← Int.natCast_add, ← e]
  · exact fun h t _ => (h t).symm

def turn (m : Nat) (w : List Int) : List Int := (List.range w.length).map fun (i : Nat) => w.getD (((i : Int) + (m : Int)) % (w.length : Int)).toNat 0
theorem turn_len (m : Nat) (w : List Int) : (turn m w).length = w.length := by
  unfold turn
  rw [List.length_map, List.length_range]
theorem hgt_turn {m : Nat} (hT : ∀ w ∈ T, 0 < w.length) (t : Nat) : hgt (T.map (turn m)) t = hgt T ((t : Int) + (m : Int)) := by
  unfold hgt
  rw [List.map_map]
  congr 1
  refine List.map_congr_left fun w hw => ?_
  have h0 := hT w hw
  show (turn m w).getD ((t : Int) % ((turn m w).length : Nat)).toNat 0 = _
  rw [turn_len]
  have q1 := Int.emod_nonneg (t : Int) (by omega : (w.length : Int) ≠ 0)
  have q2 := Int.emod_lt_of_pos (t : Int) (by omega : (0 : Int) < (w.length : Int))
  unfold turn
  rw [List.getD_eq_getElem?_getD, List.getElem?_map, List.getElem?_range (by omega)]
  show w.getD (((((t : Int) % (w.length : Int)).toNat : Nat) : Int) + (m : Int) |> (· % (w.length : Int))).toNat 0 = _
  have e2 : ((((t : Int) % (w.length : Int)).toNat : Nat) : Int) = (t : Int) % (w.length : Int) := by omega
  rw [e2]
  show w.getD (((t : Int) % (w.length : Int) + (m : Int)) % (w.length : Int)).toNat 0 = _
  rw [Int.emod_add_emod]
end L01
end
section
namespace L01
open PySem DL
def b_is_integer : Ss := (.cons (.ret (.and (.isi "int" (.v 0)) (.no (.isi "bool" (.v 0))))) .nil)
def b_is_wheel : Ss := (.cons (.iff (.or (.no (.isi "tuple" (.v 0))) (.no (.chn .LtE .LtE (.k (.int 1)) (.lenv 0) (.k (.int 60))))) (.cons (.ret (.k (.bl false))) .nil) .nil) (.cons (.ret (.allg 1 (.it (.v 0)) (.and (.call "is_integer" (.cons (.v 1) .nil)) (.cmp .LtE (.bi .abs (.cons (.v 1) .nil)) (.k (.int 1000000)))))) .nil))
def b_is_table : Ss := (.cons (.ret (.and (.isi "tuple" (.v 0)) (.and (.cmp .LtE (.lenv 0) (.k (.int 6))) (.allg 1 (.it (.v 0)) (.call "is_wheel" (.cons (.v 1) .nil)))))) .nil)
def b_need_table : Ss := (.cons (.iff (.no (.call "is_table" (.cons (.v 0) .nil))) (.cons (.rais (.v 1)) .nil) .nil) .nil)
def b_common : Ss := (.cons (.whl (.cmp .Gt (.v 1) (.k (.int 0))) (.cons (.par [0, 1] (.cons (.v 1) (.cons (.bin .Mod (.v 0) (.v 1)) .nil))) .nil)) (.cons (.ret (.v 0)) .nil))
def b_together : Ss := (.cons (.ret (.bin .Mult (.bin .FloorDiv (.v 0) (.call "common" (.cons (.v 0) (.cons (.v 1) .nil)))) (.v 1))) .nil)
def b_height_of : Ss := (.cons (.ret (.bi .sum (.cons (.comp (.one 2) (.it (.v 0)) .no (.ixv 2 (.bin .Mod (.v 1) (.lenv 2)))) .nil))) .nil)
def b_turned_by : Ss := (.cons (.ret (.bi .tuple (.cons (.comp (.one 2) (.r1 (.lenv 0)) .no (.ixv 0 (.bin .Mod (.bin .Add (.v 2) (.v 1)) (.lenv 0)))) .nil))) .nil)
def b_cycle_of : Ss := (.cons (.asg 1 (.k (.int 1))) (.cons (.fr (.one 2) (.it (.v 0)) (.cons (.asg 1 (.call "together" (.cons (.v 1) (.cons (.lenv 2) .nil)))) .nil)) (.cons (.ret (.v 1)) .nil)))
def b_enough_times : Ss := (.cons (.newd 1) (.cons (.fr (.one 2) (.it (.v 0)) (.cons (.fr (.one 3) (.r1 (.v 2)) (.cons (.asg 4 (.call "common" (.cons (.v 2) (.cons (.v 3) .nil)))) (.cons (.dput 1 (.tpl (.cons (.bin .FloorDiv (.v 3) (.v 4)) (.cons (.bin .FloorDiv (.v 2) (.v 4)) .nil))) (.k (.bl true))) .nil))) .nil)) (.cons (.ret (.lenv 1)) .nil)))
def b_unlike_of : Ss := (.cons (.asg 2 (.call "enough_times" (.cons (.comp (.one 3) (.it (.bin .Add (.v 0) (.v 1))) .no (.lenv 3)) .nil))) (.cons (.fr (.one 4) (.r1 (.v 2)) (.cons (.iff (.cmp .NotEq (.call "height_of" (.cons (.v 0) (.cons (.v 4) .nil))) (.call "height_of" (.cons (.v 1) (.cons (.v 4) .nil)))) (.cons (.ret (.v 4)) .nil) .nil) .nil)) (.cons (.ret (.k .non)) .nil)))
def b_unlike_time : Ss := (.cons (.ex "need_table" (.cons (.v 0) (.cons (.k (.str "one")) .nil))) (.cons (.ex "need_table" (.cons (.v 1) (.cons (.k (.str "other")) .nil))) (.cons (.ret (.call "unlike_of" (.cons (.v 0) (.cons (.v 1) .nil)))) .nil)))
def b_same_for_ever : Ss := (.cons (.ex "need_table" (.cons (.v 0) (.cons (.k (.str "one")) .nil))) (.cons (.ex "need_table" (.cons (.v 1) (.cons (.k (.str "other")) .nil))) (.cons (.ret (.isN (.call "unlike_of" (.cons (.v 0) (.cons (.v 1) .nil))))) .nil)))
def b_returns_after : Ss := (.cons (.ret (.isN (.call "unlike_of" (.cons (.v 0) (.cons (.bi .tuple (.cons (.comp (.one 2) (.it (.v 0)) .no (.call "turned_by" (.cons (.v 2) (.cons (.v 1) .nil)))) .nil)) .nil))))) .nil)
def b_least_period : Ss := (.cons (.ex "need_table" (.cons (.v 0) (.cons (.k (.str "table")) .nil))) (.cons (.asg 1 (.call "cycle_of" (.cons (.v 0) .nil))) (.cons (.asg 2 (.k (.int 2))) (.cons (.whl (.cmp .LtE (.v 2) (.k (.int 60))) (.cons (.whl (.and (.cmp .Eq (.bin .Mod (.v 1) (.v 2)) (.k (.int 0))) (.call "returns_after" (.cons (.v 0) (.cons (.bin .FloorDiv (.v 1) (.v 2)) .nil)))) (.cons (.asg 1 (.bin .FloorDiv (.v 1) (.v 2))) .nil)) (.cons (.aug 2 .Add (.k (.int 1))) .nil))) (.cons (.ret (.v 1)) .nil)))))
def b__law_dice : Ss := (.cons (.asg 2 (.ite (.cmp .Lt (.v 1) (.lenv 0)) (.ixv 0 (.v 1)) (.bin .Add (.bin .Mult (.k (.int 733)) (.v 1)) (.k (.int 29))))) (.cons (.asg 3 (.bin .Add (.k (.int 930011)) (.bin .Mult (.k (.int 7907)) (.v 1)))) (.cons (.fr (.one 4) (.it (.bin .Add (.sl (.v 0) .no (.yes (.k (.int 6)))) (.lst (.cons (.v 2) .nil)))) (.cons (.asg 3 (.bin .Mod (.bi .int (.cons (.bin .Add (.bin .Mult (.v 3) (.k (.int 48271))) (.bin .Mod (.bi .int (.cons (.v 4) .nil)) (.k (.int 2147480009)))) .nil)) (.k (.int 2147480009)))) .nil)) (.cons (.ret (.lst (.cons (.ite (.or (.cmp .Lt (.v 2) (.k (.int 0))) (.cmp .GtE (.v 2) (.bin .Pow (.k (.int 10)) (.k (.int 16))))) (.bi .abs (.cons (.v 2) .nil)) (.k (.int 0))) (.cons (.v 3) (.cons (.k (.int 0)) .nil))))) .nil))))
def b__law_roll : Ss := (.cons (.iff (.cmp .Gt (.ixv 0 (.k (.int 0))) (.k (.int 0))) (.cons (.asg 2 (.bin .Mod (.bi .int (.cons (.ixv 0 (.k (.int 0))) .nil)) (.v 1))) (.cons (.setv 0 (.k (.int 0)) (.bin .FloorDiv (.ixv 0 (.k (.int 0))) (.v 1))) (.cons (.ret (.v 2)) .nil))) .nil) (.cons (.setv 0 (.k (.int 2)) (.bin .Add (.ixv 0 (.k (.int 2))) (.k (.int 1)))) (.cons (.setv 0 (.k (.int 1)) (.bin .Mod (.bi .int (.cons (.bin .Add (.bin .Add (.bin .Mult (.ixv 0 (.k (.int 1))) (.k (.int 52501))) (.bin .Mult (.bin .Mult (.ixv 0 (.k (.int 2))) (.ixv 0 (.k (.int 2)))) (.k (.int 1009)))) (.k (.int 77))) .nil)) (.k (.int 2147480009)))) (.cons (.ret (.bin .Mod (.bi .int (.cons (.bin .FloorDiv (.ixv 0 (.k (.int 1))) (.k (.int 211))) .nil)) (.v 1))) .nil))))
def b__law_pick : Ss := (.cons (.ret (.ixv 1 (.call "_law_roll" (.cons (.v 0) (.cons (.lenv 1) .nil))))) .nil)
def b__law_gcd : Ss := (.cons (.par [0, 1] (.cons (.bi .abs (.cons (.v 0) .nil)) (.cons (.bi .abs (.cons (.v 1) .nil)) .nil))) (.cons (.fr (.one 2) (.r1 (.k (.int 400))) (.cons (.iff (.cmp .Eq (.v 1) (.k (.int 0))) (.cons .brk .nil) .nil) (.cons (.par [0, 1] (.cons (.v 1) (.cons (.bin .Mod (.v 0) (.v 1)) .nil))) .nil))) (.cons (.ret (.v 0)) .nil)))
def b__law_height : Ss := (.cons (.asg 2 (.k (.int 0))) (.cons (.fr (.one 3) (.it (.v 0)) (.cons (.asg 2 (.bin .Add (.v 2) (.ixv 3 (.bin .Mod (.v 1) (.lenv 3))))) .nil)) (.cons (.ret (.v 2)) .nil)))
def b__law_cycle : Ss := (.cons (.asg 1 (.k (.int 1))) (.cons (.fr (.one 2) (.it (.v 0)) (.cons (.asg 1 (.bin .FloorDiv (.bin .Mult (.v 1) (.lenv 2)) (.call "_law_gcd" (.cons (.v 1) (.cons (.lenv 2) .nil))))) .nil)) (.cons (.ret (.v 1)) .nil)))
def b__law_other : Ss := (.cons (.iff (.cmp .Eq (.lenv 1) (.k (.int 0))) (.cons (.ret (.call "_law_pick" (.cons (.v 0) (.cons (.lst (.cons (.v 1) (.cons (.tup (.cons (.tup (.cons (.k (.int 0)) .nil)) .nil)) (.cons (.tup (.cons (.tup (.cons (.k (.int 1)) (.cons (.neg (.k (.int 1))) .nil))) (.cons (.tup (.cons (.neg (.k (.int 1))) (.cons (.k (.int 1)) .nil))) .nil))) (.cons (.tup (.cons (.tup (.cons (.k (.int 0)) (.cons (.k (.int 1)) .nil))) .nil)) .nil))))) .nil)))) .nil) .nil) (.cons (.par [2, 3] (.cons (.call "_law_roll" (.cons (.v 0) (.cons (.k (.int 5)) .nil))) (.cons (.call "_law_roll" (.cons (.v 0) (.cons (.lenv 1) .nil))) .nil))) (.cons (.par [4, 5] (.cons (.ixv 1 (.v 3)) (.cons (.bin .Sub (.call "_law_roll" (.cons (.v 0) (.cons (.k (.int 9)) .nil))) (.k (.int 4))) .nil))) (.cons (.asg 6 (.bin .Add (.sl (.v 1) .no (.yes (.v 3))) (.sl (.v 1) (.yes (.bin .Add (.v 3) (.k (.int 1)))) .no))) (.cons (.iff (.cmp .Eq (.v 2) (.k (.int 0))) (.cons (.ret (.bin .Add (.v 6) (.tup (.cons (.bi .tuple (.cons (.comp (.one 7) (.it (.v 4)) .no (.bin .Add (.v 7) (.v 5))) .nil)) (.cons (.tup (.cons (.bin .Sub (.k (.int 0)) (.v 5)) .nil)) .nil))))) .nil) .nil) (.cons (.iff (.cmp .Eq (.v 2) (.k (.int 1))) (.cons (.asg 8 (.bi .tuple (.cons (.comp (.one 7) (.it (.v 4)) .no (.call "_law_roll" (.cons (.v 0) (.cons (.k (.int 9)) .nil)))) .nil))) (.cons (.ret (.bin .Add (.v 6) (.tup (.cons (.v 8) (.cons (.bi .tuple (.cons (.comp (.two 7 9) (.zip (.v 4) (.v 8)) .no (.bin .Sub (.v 7) (.v 9))) .nil)) .nil))))) .nil)) .nil) (.cons (.iff (.cmp .Eq (.v 2) (.k (.int 2))) (.cons (.ret (.bin .Add (.tup (.cons (.bin .Mult (.v 4) (.k (.int 2))) .nil)) (.v 6))) .nil) .nil) (.cons (.iff (.cmp .Eq (.v 2) (.k (.int 3))) (.cons (.asg 10 (.call "_law_roll" (.cons (.v 0) (.cons (.lenv 4) .nil)))) (.cons (.ret (.bin .Add (.v 6) (.tup (.cons (.bin .Add (.bin .Add (.sl (.v 4) .no (.yes (.v 10))) (.tup (.cons (.bin .Add (.ixv 4 (.v 10)) (.k (.int 1))) .nil))) (.sl (.v 4) (.yes (.bin .Add (.v 10) (.k (.int 1)))) .no)) .nil)))) .nil)) .nil) (.cons (.ret (.rev (.v 1))) .nil)))))))))
def b__law_first : Ss := (.cons (.fr (.one 3) (.r1 (.v 2)) (.cons (.iff (.cmp .NotEq (.call "_law_height" (.cons (.v 0) (.cons (.v 3) .nil))) (.call "_law_height" (.cons (.v 1) (.cons (.v 3) .nil)))) (.cons (.ret (.v 3)) .nil) .nil) .nil)) (.cons (.ret (.k .non)) .nil))
def b__law_comes : Ss := (.cons (.fr (.one 3) (.r1 (.v 2)) (.cons (.iff (.cmp .NotEq (.call "_law_height" (.cons (.v 0) (.cons (.v 3) .nil))) (.call "_law_height" (.cons (.v 0) (.cons (.bin .Add (.v 3) (.v 1)) .nil)))) (.cons (.ret (.k (.bl false))) .nil) .nil) .nil)) (.cons (.ret (.k (.bl true))) .nil))
def b__law_right : Ss := (.cons (.asg 1 (.bi .tuple (.cons (.comp (.one 2) (.r1 (.call "_law_roll" (.cons (.v 0) (.cons (.k (.int 4)) .nil)))) .no (.bi .tuple (.cons (.comp (.one 3) (.r1 (.bin .Add (.k (.int 1)) (.call "_law_roll" (.cons (.v 0) (.cons (.k (.int 8)) .nil))))) .no (.call "_law_roll" (.cons (.v 0) (.cons (.k (.int 3)) .nil)))) .nil))) .nil))) (.cons (.asg 4 (.call "_law_other" (.cons (.v 0) (.cons (.v 1) .nil)))) (.cons (.asg 4 (.ite (.and (.cmp .Lt (.lenv 4) (.k (.int 4))) (.cmp .Eq (.call "_law_roll" (.cons (.v 0) (.cons (.k (.int 2)) .nil))) (.k (.int 0)))) (.call "_law_other" (.cons (.v 0) (.cons (.v 4) .nil))) (.v 4))) (.cons (.asg 5 (.call "_law_first" (.cons (.v 1) (.cons (.v 4) (.cons (.call "_law_cycle" (.cons (.bin .Add (.v 1) (.v 4)) .nil)) .nil))))) (.cons (.iff (.or (.cmp .NotEq (.callk "unlike_time" (.cons (.v 1) .nil) (.cons (.v 4) .nil)) (.v 5)) (.cmp .NotEq (.callk "same_for_ever" .nil (.cons (.v 4) (.cons (.v 1) .nil))) (.isN (.v 5)))) (.cons (.ret (.k (.bl false))) .nil) .nil) (.cons (.par [6, 7] (.cons (.call "_law_cycle" (.cons (.v 1) .nil)) (.cons (.call "least_period" (.cons (.v 1) .nil)) .nil))) (.cons (.iff (.or (.no (.chn .LtE .LtE (.k (.int 1)) (.v 7) (.v 6))) (.no (.call "_law_comes" (.cons (.v 1) (.cons (.v 7) (.cons (.v 6) .nil)))))) (.cons (.ret (.k (.bl false))) .nil) .nil) (.cons (.fr (.one 8) (.r2 (.k (.int 1)) (.v 7)) (.cons (.iff (.and (.cmp .Eq (.bin .Mod (.v 6) (.v 8)) (.k (.int 0))) (.call "_law_comes" (.cons (.v 1) (.cons (.v 8) (.cons (.v 6) .nil))))) (.cons (.ret (.k (.bl false))) .nil) .nil) .nil)) (.cons (.asg 9 (.lst (.cons (.refused "unlike_time" (.cons (.k .non) (.cons (.k .non) .nil))) (.cons (.refused "unlike_time" (.cons (.v 1) (.cons (.lst .nil) .nil))) (.cons (.refused "same_for_ever" (.cons (.v 1) (.cons (.tup (.cons (.tup .nil) .nil)) .nil))) (.cons (.refused "least_period" (.cons (.tup (.cons (.k (.int 1)) .nil)) .nil)) .nil)))))) (.cons (.ret (.cmp .Eq (.v 9) (.lst (.cons (.k (.str "one")) (.cons (.k (.str "other")) (.cons (.k (.str "other")) (.cons (.k (.str "table")) .nil))))))) .nil))))))))))
def b_law : Ss := (.cons (.fr (.one 1) (.r1 (.bi .max (.cons (.k (.int 1)) (.cons (.bi .min (.cons (.k (.int 4)) (.cons (.lenv 0) .nil))) .nil)))) (.cons (.iff (.no (.callc "_law_right" "_law_dice" (.cons (.v 0) (.cons (.v 1) .nil)))) (.cons (.ret (.k (.bl false))) .nil) .nil) .nil)) (.cons (.ret (.k (.bl true))) .nil))
end L01
end
section
namespace DL
open PySem (Str Operator CmpOp PyData)
def D.pysM : ∀ xs : List D, D.pys xs = xs.map D.py
  | [] => by rw [D.pys]; rfl
  | x :: xs => by rw [D.pys, List.map_cons, D.pysM xs]
mutual
theorem eqv_self : ∀ x : D, PyData.eqv x.py x.py = true
  | .non => by rw [D.py, PyData.eqv]
  | .bl b => by rw [D.py, PyData.eqv]; simp
  | .int i => by rw [D.py, PyData.eqv]; simp
  | .str s => by rw [D.py, PyData.eqv]; simp
  | .tup xs => by rw [D.py, PyData.eqv]; exact eqvs_self xs
  | .lst xs => by rw [D.py, PyData.eqv]; exact eqvs_self xs
  | .scr _ => by rw [D.py, PyData.eqv]
  | .cell => by rw [D.py, PyData.eqv]
theorem eqvs_self : ∀ xs : List D, PyData.eqvAll (D.pys xs) (D.pys xs) = true
  | [] => by rw [D.pys, PyData.eqvAll]
  | x :: xs => by rw [D.pys, PyData.eqvAll, eqv_self x, eqvs_self xs]; rfl
end
/-- plain data of at most so many layers -/
structure ShN (n : Nat) (x : D) : Prop where
  pl : x.plain = true
  lay : x.py.canLay0 = true
  dep : x.py.depth ≤ n
theorem ShN.mono {n m : Nat} {x : D} (h : ShN n x) (hm : n ≤ m) : ShN m x := ⟨h.pl, h.lay, Nat.le_trans h.dep hm⟩
theorem ShN.shp {n : Nat} {x : D} (h : ShN n x) (hn : n ≤ 64) : x.shp = true := by
  unfold D.shp PySem.SeqAt.shaped
  rw [h.pl, h.lay, decide_eq_true (Nat.le_trans h.dep hn)]
  rfl
theorem sh_non : ShN 0 .non := ⟨rfl, by rw [D.py, PyData.canLay0], by rw [D.py, PyData.depth]; exact Nat.le_refl _⟩
theorem sh_bl (b : Bool) : ShN 0 (.bl b) := ⟨rfl, by rw [D.py, PyData.canLay0], by rw [D.py, PyData.depth]; exact Nat.le_refl _⟩
theorem sh_int (i : Int) : ShN 0 (.int i) := ⟨rfl, by rw [D.py, PyData.canLay0], by rw [D.py, PyData.depth]; exact Nat.le_refl _⟩
theorem plains_of : ∀ {xs : List D}, (∀ x ∈ xs, x.plain = true) → D.plains xs = true
  | [], _ => rfl
  | x :: xs, h => by
    show (x.plain && D.plains xs) = true
    rw [h x List.mem_cons_self, plains_of fun y hy => h y (List.mem_cons_of_mem _ hy)]
    rfl
theorem lays_of {n : Nat} : ∀ {xs : List D}, (∀ x ∈ xs, ShN n x) → PyData.canLayAll0 (D.pys xs) = true ∧ PyData.depthAll (D.pys xs) ≤ n
  | [], _ => ⟨by rw [D.pys, PyData.canLayAll0], by rw [D.pys, PyData.depthAll]; exact Nat.zero_le _⟩
  | x :: xs, h => by
    have h1 := h x List.mem_cons_self
    have h2 := lays_of (xs := xs) fun y hy => h y (List.mem_cons_of_mem _ hy)
    refine ⟨?_, ?_⟩
    · rw [D.pys, PyData.canLayAll0, h1.lay, h2.1]
      rfl
    · rw [D.pys, PyData.depthAll]
      exact Nat.max_le.mpr ⟨h1.dep, h2.2⟩
theorem sh_tup {n : Nat} {xs : List D} (h : ∀ x ∈ xs, ShN n x) : ShN (n + 1) (.tup xs) :=
  ⟨plains_of fun x hx => (h x hx).pl, by rw [D.py, PyData.canLay0]; exact (lays_of h).1, by rw [D.py, PyData.depth]; exact Nat.succ_le_succ (lays_of h).2⟩
theorem sh_lst {n : Nat} {xs : List D} (h : ∀ x ∈ xs, ShN n x) : ShN (n + 1) (.lst xs) :=
  ⟨plains_of fun x hx => (h x hx).pl, by rw [D.py, PyData.canLay0]; exact (lays_of h).1, by rw [D.py, PyData.depth]; exact Nat.succ_le_succ (lays_of h).2⟩
theorem sh_pair (p : Int × Int) : ShN 1 (pairD p) := sh_tup fun x hx => by
  rcases List.mem_cons.mp hx with rfl | hx
  · exact sh_int _
  · rw [List.mem_singleton.mp hx]
    exact sh_int _
theorem sh_wh (w : List Int) : ShN 1 (whD w) := sh_tup fun x hx => by
  obtain ⟨i, _, rfl⟩ := List.mem_map.mp hx
  exact sh_int i
theorem sh_tab (T : List (List Int)) : ShN 2 (tabD T) := sh_tup fun x hx => by
  obtain ⟨w, _, rfl⟩ := List.mem_map.mp hx
  exact sh_wh w
theorem ne_same {n : Nat} {x : D} {K : Bool → Prop} (h : ShN n x) (hn : n ≤ 64) (k : K false) : cmpK .NotEq x x K := by
  have e := eqv_self x
  have s := h.shp hn
  cases x with
  | int i =>
    show K (!decide (i = i))
    rw [decide_eq_true rfl]
    exact k
  | _ =>
    refine ⟨s, s, ?_⟩
    unfold D.eqv
    rw [e]
    exact k
theorem eq_same {n : Nat} {x : D} {K : Bool → Prop} (h : ShN n x) (hn : n ≤ 64) (k : K true) : cmpK .Eq x x K := by
  have e := eqv_self x
  have s := h.shp hn
  cases x with
  | int i =>
    show K (decide (i = i))
    rw [decide_eq_true rfl]
    exact k
  | _ =>
    refine ⟨s, s, ?_⟩
    unfold D.eqv
    rw [e]
    exact k
theorem ite_y {c : Bool} {A B : Prop} (h : c = true) (a : A) : iteK c A B := by rw [h, iteK_t]; exact a
theorem ite_n {c : Bool} {A B : Prop} (h : c = false) (b : B) : iteK c A B := by rw [h, iteK_f]; exact b

def dputK (i : Nat) (k : Vl) (y : D) (st : DS) (K : DS → Prop) (_ : Dm K := dm K) : Prop := ∃ ds ns ks, k = .tp ds ∧ D.ints ds = some ns ∧ y = .bl true ∧ st.env[i]? = some (.dk ks) ∧ ks.length < 100000 ∧ K (st.set i (.dk (if ns ∈ ks then ks else ks ++ [ns])))
theorem dput_of {i : Nat} {ds : List D} {ns : List Int} {ks : List (List Int)} {st : DS} {K : DS → Prop} (h1 : D.ints ds = some ns) (h2 : st.env[i]? = some (.dk ks)) (h3 : ks.length < 100000) (h4 : K (st.set i (.dk (if ns ∈ ks then ks else ks ++ [ns])))) : dputK i (.tp ds) (.bl true) st K := ⟨ds, ns, ks, rfl, h1, rfl, h2, h3, h4⟩
theorem wS_dput (Sg : Tab) (st : DS) (N : Nd) (i : Nat) (a e : E) (hs : ∃ s, st.env[i]? = some s ∧ s.isSet) : wpS Sg (.dput i a e) N st = wpE Sg e st fun y st1 => kK y.dat fun y => wpE Sg a st1 fun k st2 => dputK i k y st2 N.nx := by
  rw [wpS]
  show ((∃ s, st.env[i]? = some s ∧ s.isSet) ∧ wpE Sg e st fun y st1 => wpE Sg a st1 fun k st2 => ∃ ds ns ks, k = .tp ds ∧ D.ints ds = some ns ∧ y.dat = .bl true ∧ st2.env[i]? = some (.dk ks) ∧ ks.length < 100000 ∧ N.nx (st2.set i (.dk (if ns ∈ ks then ks else ks ++ [ns])))) = _
  rw [eq_true hs, true_and]
  rfl
end DL
end
section
namespace L01
open PySem (Str)
open L2 (atI ixN CMul CDivW CMulW CPow)
open DL LC
variable {Sg : Tab}
def sp_turned_by : Spec := fun ds c Q E => ∃ (w : List Int) (m : Nat), ds = [whD w, .int m] ∧ 0 < w.length ∧ w.length ≤ 1000 ∧ Q (.d (whD (turn m w))) c
theorem k_turned_by : Keeps Sg 3 b_turned_by sp_turned_by := by
  rintro ds c Q E ⟨w, m, rfl, h0, h1, hq⟩
  unfold b_turned_by
  (try simp -dsimp only [kK_eq, optK_some, blK_eq, intK_eq, strK_eq, iteK_t, iteK_f, andK_t, sK_some, valS_d, valS_own, valS_tp, ↓wE_v, ↓wE_k, ↓wE_bin, ↓wE_neg, ↓wE_no, ↓wE_cmp, ↓wE_chn, ↓wE_isN, ↓wE_ntN, ↓wE_and, ↓wE_or, ↓wE_orT, ↓wE_ite, ↓wE_call, ↓wE_callk, ↓wE_refused, ↓wE_callc, ↓wE_bi, ↓wE_isi, ↓wE_lenv, ↓wE_ixv, ↓wE_ix, ↓wE_sl, ↓wE_rev, ↓wE_tup, ↓wE_tpl, ↓wE_lst, ↓wE_vtp, ↓wE_index, ↓wE_lrng, ↓wE_sset, ↓comp_eq, ↓allg_eq, lstK_eq, cutK_tup, cutK_lst, cutK_scr, revK_tup, revK_lst, vtpK_tp, ↓wEs_nil, ↓wEs_cons, ↓wVs_nil, ↓wVs_cons, ↓wO_no, ↓wO_yes, ↓wC_no, ↓wC_yes, ↓wI_it, ↓wI_r1, ↓wI_r2, r2K_eq, ↓wI_r3, ↓wI_zip, ↓wS_asg, ↓wS_par, ↓wS_unp, ↓wS_setv, ↓wS_swp, ↓wS_ex, ↓wS_ret, ↓wS_iff, ↓wS_brk, ↓wS_rais, ↓wS_newd, ↓wS_skip, ↓wS_app, ↓wS_ext, ↓wS_aug, ownK_eq, lstD_eq, augK_add, augK_sub, ↓wSs_nil, ↓wSs_cons, ↓whl_eq, ↓fr_eq, b_add, b_sub, b_mul, b_div, b_mod, b_pow, b_addT, b_addL, c_lt, c_le, c_gt, c_ge, c_eq, c_ne, f_abs, f_int, f_min, f_len, f_list, f_tuple, set_mk, sl_d, sl_own, sl_tp, dat_d, dat_own, dat_tp, it_tupW, it_lst, it_scr, items_tab, items_wh, is_own, is_tup, is_lst, is_scr, is_cell, is_tab, is_wh, ln_own, ln_tup, ln_lst, ln_scr, ln_dk, ln_tab, ln_wh, set_d, set_own, set_dk, set_tp, hide1, hide2, putT1, putT2, putT3, sl1, sl2, back1, back2, gone_unW, gone_dW, gone_ownW, setA0, setA1, List.map_cons, List.map_nil, List.length_cons, List.length_nil, List.cons_append, List.nil_append, List.getElem?_cons_zero, List.getElem?_cons_succ, List.replicate_succ, List.replicate_zero, List.set_cons_zero, List.set_cons_succ, exists_eq_left, exists_eq_left', Option.some.injEq, Sl.own.injEq, exists_eq', and_true, true_and, Nat.reduceAdd, Nat.reduceSub, Nat.zero_add])
  refine ⟨by unfold rngOk; omega, ?_⟩
  refine comp_ind (fun acc xs st => ∃ (a k : Nat) (s : Sl), a + k = w.length ∧ xs = rngD a 1 k ∧ acc = ((List.range a).map fun (i : Nat) => D.int (w.getD (((i : Int) + (m : Int)) % (w.length : Int)).toNat 0)) ∧ st = ⟨[.d (whD w), .d (.int m), s], c⟩) (fun x xs acc st hI => ?_) (fun acc st hI => ?_) ⟨0, w.length, .un, by omega, rfl, rfl, rfl⟩
  · obtain ⟨a, k, s, ha, hx, hacc, rfl⟩ := hI
    cases k with
    | zero => cases hx
    | succ k =>
      rw [rngD_succ] at hx
      cases hx
      refine ⟨_, rfl, fun nx n1 n2 => ?_⟩
      have hl : acc.length < 100000 := by rw [hacc, List.length_map, List.length_range]; omega
      rw [wC_no, if_pos rfl]
      (try simp -dsimp only [kK_eq, optK_some, blK_eq, intK_eq, strK_eq, iteK_t, iteK_f, andK_t, sK_some, valS_d, valS_own, valS_tp, ↓wE_v, ↓wE_k, ↓wE_bin, ↓wE_neg, ↓wE_no, ↓wE_cmp, ↓wE_chn, ↓wE_isN, ↓wE_ntN, ↓wE_and, ↓wE_or, ↓wE_orT, ↓wE_ite, ↓wE_call, ↓wE_callk, ↓wE_refused, ↓wE_callc, ↓wE_bi, ↓wE_isi, ↓wE_lenv, ↓wE_ixv, ↓wE_ix, ↓wE_sl, ↓wE_rev, ↓wE_tup, ↓wE_tpl, ↓wE_lst, ↓wE_vtp, ↓wE_index, ↓wE_lrng, ↓wE_sset, ↓comp_eq, ↓allg_eq, lstK_eq, cutK_tup, cutK_lst, cutK_scr, revK_tup, revK_lst, vtpK_tp, ↓wEs_nil, ↓wEs_cons, ↓wVs_nil, ↓wVs_cons, ↓wO_no, ↓wO_yes, ↓wC_no, ↓wC_yes, ↓wI_it, ↓wI_r1, ↓wI_r2, r2K_eq, ↓wI_r3, ↓wI_zip, ↓wS_asg, ↓wS_par, ↓wS_unp, ↓wS_setv, ↓wS_swp, ↓wS_ex, ↓wS_ret, ↓wS_iff, ↓wS_brk, ↓wS_rais, ↓wS_newd, ↓wS_skip, ↓wS_app, ↓wS_ext, ↓wS_aug, ownK_eq, lstD_eq, augK_add, augK_sub, ↓wSs_nil, ↓wSs_cons, ↓whl_eq, ↓fr_eq, b_add, b_sub, b_mul, b_div, b_mod, b_pow, b_addT, b_addL, c_lt, c_le, c_gt, c_ge, c_eq, c_ne, f_abs, f_int, f_min, f_len, f_list, f_tuple, set_mk, sl_d, sl_own, sl_tp, dat_d, dat_own, dat_tp, it_tupW, it_lst, it_scr, items_tab, items_wh, is_own, is_tup, is_lst, is_scr, is_cell, is_tab, is_wh, ln_own, ln_tup, ln_lst, ln_scr, ln_dk, ln_tab, ln_wh, set_d, set_own, set_dk, set_tp, hide1, hide2, putT1, putT2, putT3, sl1, sl2, back1, back2, gone_unW, gone_dW, gone_ownW, setA0, setA1, List.map_cons, List.map_nil, List.length_cons, List.length_nil, List.cons_append, List.nil_append, List.getElem?_cons_zero, List.getElem?_cons_succ, List.replicate_succ, List.replicate_zero, List.set_cons_zero, List.set_cons_succ, exists_eq_left, exists_eq_left', Option.some.injEq, Sl.own.injEq, exists_eq', and_true, true_and, Nat.reduceAdd, Nat.reduceSub, Nat.zero_add, at_wheel h0])
      refine ⟨by omega, ?_⟩
      (try simp -dsimp only [kK_eq, optK_some, blK_eq, intK_eq, strK_eq, iteK_t, iteK_f, andK_t, sK_some, valS_d, valS_own, valS_tp, ↓wE_v, ↓wE_k, ↓wE_bin, ↓wE_neg, ↓wE_no, ↓wE_cmp, ↓wE_chn, ↓wE_isN, ↓wE_ntN, ↓wE_and, ↓wE_or, ↓wE_orT, ↓wE_ite, ↓wE_call, ↓wE_callk, ↓wE_refused, ↓wE_callc, ↓wE_bi, ↓wE_isi, ↓wE_lenv, ↓wE_ixv, ↓wE_ix, ↓wE_sl, ↓wE_rev, ↓wE_tup, ↓wE_tpl, ↓wE_lst, ↓wE_vtp, ↓wE_index, ↓wE_lrng, ↓wE_sset, ↓comp_eq, ↓allg_eq, lstK_eq, cutK_tup, cutK_lst, cutK_scr, revK_tup, revK_lst, vtpK_tp, ↓wEs_nil, ↓wEs_cons, ↓wVs_nil, ↓wVs_cons, ↓wO_no, ↓wO_yes, ↓wC_no, ↓wC_yes, ↓wI_it, ↓wI_r1, ↓wI_r2, r2K_eq, ↓wI_r3, ↓wI_zip, ↓wS_asg, ↓wS_par, ↓wS_unp, ↓wS_setv, ↓wS_swp, ↓wS_ex, ↓wS_ret, ↓wS_iff, ↓wS_brk, ↓wS_rais, ↓wS_newd, ↓wS_skip, ↓wS_app, ↓wS_ext, ↓wS_aug, ownK_eq, lstD_eq, augK_add, augK_sub, ↓wSs_nil, ↓wSs_cons, ↓whl_eq, ↓fr_eq, b_add, b_sub, b_mul, b_div, b_mod, b_pow, b_addT, b_addL, c_lt, c_le, c_gt, c_ge, c_eq, c_ne, f_abs, f_int, f_min, f_len, f_list, f_tuple, set_mk, sl_d, sl_own, sl_tp, dat_d, dat_own, dat_tp, it_tupW, it_lst, it_scr, items_tab, items_wh, is_own, is_tup, is_lst, is_scr, is_cell, is_tab, is_wh, ln_own, ln_tup, ln_lst, ln_scr, ln_dk, ln_tab, ln_wh, set_d, set_own, set_dk, set_tp, hide1, hide2, putT1, putT2, putT3, sl1, sl2, back1, back2, gone_unW, gone_dW, gone_ownW, setA0, setA1, List.map_cons, List.map_nil, List.length_cons, List.length_nil, List.cons_append, List.nil_append, List.getElem?_cons_zero, List.getElem?_cons_succ, List.replicate_succ, List.replicate_zero, List.set_cons_zero, List.set_cons_succ, exists_eq_left, exists_eq_left', Option.some.injEq, Sl.own.injEq, exists_eq', and_true, true_and, Nat.reduceAdd, Nat.reduceSub, Nat.zero_add, at_wheel h0])
      refine ⟨hl, n2 _ _ hl ⟨a + 1, k, _, by omega, by simp, ?_, rfl⟩⟩
      rw [hacc, List.range_succ, List.map_append]
      rfl
  · obtain ⟨a, k, s, ha, hx, hacc, rfl⟩ := hI
    cases k with
    | succ k =>
      rw [rngD_succ] at hx
      cases hx
    | zero =>
      have e : a = w.length := by omega
      subst e
      (try simp -dsimp only [kK_eq, optK_some, blK_eq, intK_eq, strK_eq, iteK_t, iteK_f, andK_t, sK_some, valS_d, valS_own, valS_tp, ↓wE_v, ↓wE_k, ↓wE_bin, ↓wE_neg, ↓wE_no, ↓wE_cmp, ↓wE_chn, ↓wE_isN, ↓wE_ntN, ↓wE_and, ↓wE_or, ↓wE_orT, ↓wE_ite, ↓wE_call, ↓wE_callk, ↓wE_refused, ↓wE_callc, ↓wE_bi, ↓wE_isi, ↓wE_lenv, ↓wE_ixv, ↓wE_ix, ↓wE_sl, ↓wE_rev, ↓wE_tup, ↓wE_tpl, ↓wE_lst, ↓wE_vtp, ↓wE_index, ↓wE_lrng, ↓wE_sset, ↓comp_eq, ↓allg_eq, lstK_eq, cutK_tup, cutK_lst, cutK_scr, revK_tup, revK_lst, vtpK_tp, ↓wEs_nil, ↓wEs_cons, ↓wVs_nil, ↓wVs_cons, ↓wO_no, ↓wO_yes, ↓wC_no, ↓wC_yes, ↓wI_it, ↓wI_r1, ↓wI_r2, r2K_eq, ↓wI_r3, ↓wI_zip, ↓wS_asg, ↓wS_par, ↓wS_unp, ↓wS_setv, ↓wS_swp, ↓wS_ex, ↓wS_ret, ↓wS_iff, ↓wS_brk, ↓wS_rais, ↓wS_newd, ↓wS_skip, ↓wS_app, ↓wS_ext, ↓wS_aug, ownK_eq, lstD_eq, augK_add, augK_sub, ↓wSs_nil, ↓wSs_cons, ↓whl_eq, ↓fr_eq, b_add, b_sub, b_mul, b_div, b_mod, b_pow, b_addT, b_addL, c_lt, c_le, c_gt, c_ge, c_eq, c_ne, f_abs, f_int, f_min, f_len, f_list, f_tuple, set_mk, sl_d, sl_own, sl_tp, dat_d, dat_own, dat_tp, it_tupW, it_lst, it_scr, items_tab, items_wh, is_own, is_tup, is_lst, is_scr, is_cell, is_tab, is_wh, ln_own, ln_tup, ln_lst, ln_scr, ln_dk, ln_tab, ln_wh, set_d, set_own, set_dk, set_tp, hide1, hide2, putT1, putT2, putT3, sl1, sl2, back1, back2, gone_unW, gone_dW, gone_ownW, setA0, setA1, List.map_cons, List.map_nil, List.length_cons, List.length_nil, List.cons_append, List.nil_append, List.getElem?_cons_zero, List.getElem?_cons_succ, List.replicate_succ, List.replicate_zero, List.set_cons_zero, List.set_cons_succ, exists_eq_left, exists_eq_left', Option.some.injEq, Sl.own.injEq, exists_eq', and_true, true_and, Nat.reduceAdd, Nat.reduceSub, Nat.zero_add])
      have e2 : D.tup acc = whD (turn m w) := by
        unfold whD turn
        rw [hacc, List.map_map]
        rfl
      rw [e2]
      exact hq
def natsD (ns : List Nat) : List D := ns.map fun n => D.int (n : Nat)
def sp_enough : Spec := fun ds c Q E => ∃ ns : List Nat, ds = [.lst (natsD ns)] ∧ (∀ n ∈ ns, 0 < n ∧ n ≤ 1000) ∧ ns.length ≤ 50 ∧ Q (.d (.int ((keys ns).length : Nat))) c
theorem ins_len (ks : List (List Int)) (k : List Int) : (ins ks k).length ≤ ks.length + 1 := by
  unfold ins
  split
  · omega
  · rw [List.length_append]
    exact Nat.le_refl _
theorem insN_len (n : Nat) : ∀ (as : List Nat) (ks : List (List Int)), (insN ks n as).length ≤ ks.length + as.length
  | [], ks => Nat.le_refl _
  | a :: as, ks => by
    have h1 := insN_len n as (ins ks (keyOf n a))
    have h2 := ins_len ks (keyOf n a)
    rw [List.length_cons]
    show (insN (ins ks (keyOf n a)) n as).length ≤ _
    omega
theorem insN_snoc (n : Nat) (as : List Nat) (a : Nat) (ks : List (List Int)) : insN ks n (as ++ [a]) = ins (insN ks n as) (keyOf n a) := by
  unfold insN
  rw [List.foldl_append]
  rfl
theorem keys_snoc (ns : List Nat) (n : Nat) : keys (ns ++ [n]) = insN (keys ns) n (List.range n) := by
  unfold keys
  rw [List.foldl_append]
  rfl
theorem cdiv_ok {a g n : Nat} (h0 : 0 < g) (h1 : g ≤ n) (h2 : n ≤ 1000) : CDivW (a : Int) (g : Int) := by
  have hlog : g.log2 < 9000 := by
    have h2 : g.log2 < 10 := (Nat.log2_lt (by omega)).mpr (by omega)
    omega
  exact ⟨by omega, by simpa using hlog⟩
theorem k_enough (h1 : Sg "common" = sp_common) : Keeps Sg 5 b_enough_times sp_enough := by
  rintro ds c Q E ⟨ns, rfl, hn, hl, hq⟩
  unfold b_enough_times
  (try simp -dsimp only [kK_eq, optK_some, blK_eq, intK_eq, strK_eq, iteK_t, iteK_f, andK_t, sK_some, valS_d, valS_own, valS_tp, ↓wE_v, ↓wE_k, ↓wE_bin, ↓wE_neg, ↓wE_no, ↓wE_cmp, ↓wE_chn, ↓wE_isN, ↓wE_ntN, ↓wE_and, ↓wE_or, ↓wE_orT, ↓wE_ite, ↓wE_call, ↓wE_callk, ↓wE_refused, ↓wE_callc, ↓wE_bi, ↓wE_isi, ↓wE_lenv, ↓wE_ixv, ↓wE_ix, ↓wE_sl, ↓wE_rev, ↓wE_tup, ↓wE_tpl, ↓wE_lst, ↓wE_vtp, ↓wE_index, ↓wE_lrng, ↓wE_sset, ↓comp_eq, ↓allg_eq, lstK_eq, cutK_tup, cutK_lst, cutK_scr, revK_tup, revK_lst, vtpK_tp, ↓wEs_nil, ↓wEs_cons, ↓wVs_nil, ↓wVs_cons, ↓wO_no, ↓wO_yes, ↓wC_no, ↓wC_yes, ↓wI_it, ↓wI_r1, ↓wI_r2, r2K_eq, ↓wI_r3, ↓wI_zip, ↓wS_asg, ↓wS_par, ↓wS_unp, ↓wS_setv, ↓wS_swp, ↓wS_ex, ↓wS_ret, ↓wS_iff, ↓wS_brk, ↓wS_rais, ↓wS_newd, ↓wS_skip, ↓wS_app, ↓wS_ext, ↓wS_aug, ownK_eq, lstD_eq, augK_add, augK_sub, ↓wSs_nil, ↓wSs_cons, ↓whl_eq, ↓fr_eq, b_add, b_sub, b_mul, b_div, b_mod, b_pow, b_addT, b_addL, c_lt, c_le, c_gt, c_ge, c_eq, c_ne, f_abs, f_int, f_min, f_len, f_list, f_tuple, set_mk, sl_d, sl_own, sl_tp, dat_d, dat_own, dat_tp, it_tupW, it_lst, it_scr, items_tab, items_wh, is_own, is_tup, is_lst, is_scr, is_cell, is_tab, is_wh, ln_own, ln_tup, ln_lst, ln_scr, ln_dk, ln_tab, ln_wh, set_d, set_own, set_dk, set_tp, hide1, hide2, putT1, putT2, putT3, sl1, sl2, back1, back2, gone_unW, gone_dW, gone_ownW, setA0, setA1, List.map_cons, List.map_nil, List.length_cons, List.length_nil, List.cons_append, List.nil_append, List.getElem?_cons_zero, List.getElem?_cons_succ, List.replicate_succ, List.replicate_zero, List.set_cons_zero, List.set_cons_succ, exists_eq_left, exists_eq_left', Option.some.injEq, Sl.own.injEq, exists_eq', and_true, true_and, Nat.reduceAdd, Nat.reduceSub, Nat.zero_add])
  refine for_ind (fun xs st => ∃ (U V : List Nat) (s2 s3 s4 : Sl), ns = U ++ V ∧ xs = natsD V ∧ (keys U).length ≤ 1000 * U.length ∧ st = ⟨[.d (.lst (natsD ns)), .dk (keys U), s2, s3, s4], c⟩) (fun x xs st hI => ?_) (fun st hI => ?_) ⟨[], ns, _, _, _, rfl, rfl, Nat.le_refl _, rfl⟩
  · obtain ⟨U, V, s2, s3, s4, hU, hx, hk, rfl⟩ := hI
    cases V with
    | nil => cases hx
    | cons n V =>
      cases hx
      have hn1 := hn n (by rw [hU]; simp)
      have hlU : U.length + 1 ≤ 50 := by
        have := congrArg List.length hU
        rw [List.length_append, List.length_cons] at this
        omega
      refine ⟨_, rfl, fun nx n1 => ?_⟩
      (try simp -dsimp only [kK_eq, optK_some, blK_eq, intK_eq, strK_eq, iteK_t, iteK_f, andK_t, sK_some, valS_d, valS_own, valS_tp, ↓wE_v, ↓wE_k, ↓wE_bin, ↓wE_neg, ↓wE_no, ↓wE_cmp, ↓wE_chn, ↓wE_isN, ↓wE_ntN, ↓wE_and, ↓wE_or, ↓wE_orT, ↓wE_ite, ↓wE_call, ↓wE_callk, ↓wE_refused, ↓wE_callc, ↓wE_bi, ↓wE_isi, ↓wE_lenv, ↓wE_ixv, ↓wE_ix, ↓wE_sl, ↓wE_rev, ↓wE_tup, ↓wE_tpl, ↓wE_lst, ↓wE_vtp, ↓wE_index, ↓wE_lrng, ↓wE_sset, ↓comp_eq, ↓allg_eq, lstK_eq, cutK_tup, cutK_lst, cutK_scr, revK_tup, revK_lst, vtpK_tp, ↓wEs_nil, ↓wEs_cons, ↓wVs_nil, ↓wVs_cons, ↓wO_no, ↓wO_yes, ↓wC_no, ↓wC_yes, ↓wI_it, ↓wI_r1, ↓wI_r2, r2K_eq, ↓wI_r3, ↓wI_zip, ↓wS_asg, ↓wS_par, ↓wS_unp, ↓wS_setv, ↓wS_swp, ↓wS_ex, ↓wS_ret, ↓wS_iff, ↓wS_brk, ↓wS_rais, ↓wS_newd, ↓wS_skip, ↓wS_app, ↓wS_ext, ↓wS_aug, ownK_eq, lstD_eq, augK_add, augK_sub, ↓wSs_nil, ↓wSs_cons, ↓whl_eq, ↓fr_eq, b_add, b_sub, b_mul, b_div, b_mod, b_pow, b_addT, b_addL, c_lt, c_le, c_gt, c_ge, c_eq, c_ne, f_abs, f_int, f_min, f_len, f_list, f_tuple, set_mk, sl_d, sl_own, sl_tp, dat_d, dat_own, dat_tp, it_tupW, it_lst, it_scr, items_tab, items_wh, is_own, is_tup, is_lst, is_scr, is_cell, is_tab, is_wh, ln_own, ln_tup, ln_lst, ln_scr, ln_dk, ln_tab, ln_wh, set_d, set_own, set_dk, set_tp, hide1, hide2, putT1, putT2, putT3, sl1, sl2, back1, back2, gone_unW, gone_dW, gone_ownW, setA0, setA1, List.map_cons, List.map_nil, List.length_cons, List.length_nil, List.cons_append, List.nil_append, List.getElem?_cons_zero, List.getElem?_cons_succ, List.replicate_succ, List.replicate_zero, List.set_cons_zero, List.set_cons_succ, exists_eq_left, exists_eq_left', Option.some.injEq, Sl.own.injEq, exists_eq', and_true, true_and, Nat.reduceAdd, Nat.reduceSub, Nat.zero_add])
      refine ⟨by unfold rngOk; omega, ?_⟩
      refine for_ind (fun xs st => ∃ (a k : Nat) (s3 s4 : Sl), a + k = n ∧ xs = rngD a 1 k ∧ st = ⟨[.d (.lst (natsD ns)), .dk (insN (keys U) n (List.range a)), .d (.int n), s3, s4], c⟩) (fun x xs st hI => ?_) (fun st hI => ?_) ⟨0, n, _, _, by omega, rfl, rfl⟩
      · obtain ⟨a, k, s3, s4, ha, hx, rfl⟩ := hI
        cases k with
        | zero => cases hx
        | succ k =>
          rw [rngD_succ] at hx
          cases hx
          refine ⟨_, rfl, fun nx n1 => ?_⟩
          have hg0 : 0 < Nat.gcd n a := Nat.gcd_pos_of_pos_left _ hn1.1
          have hg1 : Nat.gcd n a ≤ n := Nat.le_of_dvd hn1.1 (Nat.gcd_dvd_left _ _)
          (try simp -dsimp only [kK_eq, optK_some, blK_eq, intK_eq, strK_eq, iteK_t, iteK_f, andK_t, sK_some, valS_d, valS_own, valS_tp, ↓wE_v, ↓wE_k, ↓wE_bin, ↓wE_neg, ↓wE_no, ↓wE_cmp, ↓wE_chn, ↓wE_isN, ↓wE_ntN, ↓wE_and, ↓wE_or, ↓wE_orT, ↓wE_ite, ↓wE_call, ↓wE_callk, ↓wE_refused, ↓wE_callc, ↓wE_bi, ↓wE_isi, ↓wE_lenv, ↓wE_ixv, ↓wE_ix, ↓wE_sl, ↓wE_rev, ↓wE_tup, ↓wE_tpl, ↓wE_lst, ↓wE_vtp, ↓wE_index, ↓wE_lrng, ↓wE_sset, ↓comp_eq, ↓allg_eq, lstK_eq, cutK_tup, cutK_lst, cutK_scr, revK_tup, revK_lst, vtpK_tp, ↓wEs_nil, ↓wEs_cons, ↓wVs_nil, ↓wVs_cons, ↓wO_no, ↓wO_yes, ↓wC_no, ↓wC_yes, ↓wI_it, ↓wI_r1, ↓wI_r2, r2K_eq, ↓wI_r3, ↓wI_zip, ↓wS_asg, ↓wS_par, ↓wS_unp, ↓wS_setv, ↓wS_swp, ↓wS_ex, ↓wS_ret, ↓wS_iff, ↓wS_brk, ↓wS_rais, ↓wS_newd, ↓wS_skip, ↓wS_app, ↓wS_ext, ↓wS_aug, ownK_eq, lstD_eq, augK_add, augK_sub, ↓wSs_nil, ↓wSs_cons, ↓whl_eq, ↓fr_eq, b_add, b_sub, b_mul, b_div, b_mod, b_pow, b_addT, b_addL, c_lt, c_le, c_gt, c_ge, c_eq, c_ne, f_abs, f_int, f_min, f_len, f_list, f_tuple, set_mk, sl_d, sl_own, sl_tp, dat_d, dat_own, dat_tp, it_tupW, it_lst, it_scr, items_tab, items_wh, is_own, is_tup, is_lst, is_scr, is_cell, is_tab, is_wh, ln_own, ln_tup, ln_lst, ln_scr, ln_dk, ln_tab, ln_wh, set_d, set_own, set_dk, set_tp, hide1, hide2, putT1, putT2, putT3, sl1, sl2, back1, back2, gone_unW, gone_dW, gone_ownW, setA0, setA1, List.map_cons, List.map_nil, List.length_cons, List.length_nil, List.cons_append, List.nil_append, List.getElem?_cons_zero, List.getElem?_cons_succ, List.replicate_succ, List.replicate_zero, List.set_cons_zero, List.set_cons_succ, exists_eq_left, exists_eq_left', Option.some.injEq, Sl.own.injEq, exists_eq', and_true, true_and, Nat.reduceAdd, Nat.reduceSub, Nat.zero_add])
          refine call_of h1 ⟨n, a, rfl, ?_⟩
          (try simp -dsimp only [kK_eq, optK_some, blK_eq, intK_eq, strK_eq, iteK_t, iteK_f, andK_t, sK_some, valS_d, valS_own, valS_tp, ↓wE_v, ↓wE_k, ↓wE_bin, ↓wE_neg, ↓wE_no, ↓wE_cmp, ↓wE_chn, ↓wE_isN, ↓wE_ntN, ↓wE_and, ↓wE_or, ↓wE_orT, ↓wE_ite, ↓wE_call, ↓wE_callk, ↓wE_refused, ↓wE_callc, ↓wE_bi, ↓wE_isi, ↓wE_lenv, ↓wE_ixv, ↓wE_ix, ↓wE_sl, ↓wE_rev, ↓wE_tup, ↓wE_tpl, ↓wE_lst, ↓wE_vtp, ↓wE_index, ↓wE_lrng, ↓wE_sset, ↓comp_eq, ↓allg_eq, lstK_eq, cutK_tup, cutK_lst, cutK_scr, revK_tup, revK_lst, vtpK_tp, ↓wEs_nil, ↓wEs_cons, ↓wVs_nil, ↓wVs_cons, ↓wO_no, ↓wO_yes, ↓wC_no, ↓wC_yes, ↓wI_it, ↓wI_r1, ↓wI_r2, r2K_eq, ↓wI_r3, ↓wI_zip, ↓wS_asg, ↓wS_par, ↓wS_unp, ↓wS_setv, ↓wS_swp, ↓wS_ex, ↓wS_ret, ↓wS_iff, ↓wS_brk, ↓wS_rais, ↓wS_newd, ↓wS_skip, ↓wS_app, ↓wS_ext, ↓wS_aug, ownK_eq, lstD_eq, augK_add, augK_sub, ↓wSs_nil, ↓wSs_cons, ↓whl_eq, ↓fr_eq, b_add, b_sub, b_mul, b_div, b_mod, b_pow, b_addT, b_addL, c_lt, c_le, c_gt, c_ge, c_eq, c_ne, f_abs, f_int, f_min, f_len, f_list, f_tuple, set_mk, sl_d, sl_own, sl_tp, dat_d, dat_own, dat_tp, it_tupW, it_lst, it_scr, items_tab, items_wh, is_own, is_tup, is_lst, is_scr, is_cell, is_tab, is_wh, ln_own, ln_tup, ln_lst, ln_scr, ln_dk, ln_tab, ln_wh, set_d, set_own, set_dk, set_tp, hide1, hide2, putT1, putT2, putT3, sl1, sl2, back1, back2, gone_unW, gone_dW, gone_ownW, setA0, setA1, List.map_cons, List.map_nil, List.length_cons, List.length_nil, List.cons_append, List.nil_append, List.getElem?_cons_zero, List.getElem?_cons_succ, List.replicate_succ, List.replicate_zero, List.set_cons_zero, List.set_cons_succ, exists_eq_left, exists_eq_left', Option.some.injEq, Sl.own.injEq, exists_eq', and_true, true_and, Nat.reduceAdd, Nat.reduceSub, Nat.zero_add, ↓wS_dput])
          refine ⟨cdiv_ok hg0 hg1 hn1.2, cdiv_ok hg0 hg1 hn1.2, ?_⟩
          refine dput_of rfl rfl ?_ ?_
          · have := insN_len n (List.range a) (keys U)
            rw [List.length_range] at this
            omega
          · (try simp -dsimp only [kK_eq, optK_some, blK_eq, intK_eq, strK_eq, iteK_t, iteK_f, andK_t, sK_some, valS_d, valS_own, valS_tp, ↓wE_v, ↓wE_k, ↓wE_bin, ↓wE_neg, ↓wE_no, ↓wE_cmp, ↓wE_chn, ↓wE_isN, ↓wE_ntN, ↓wE_and, ↓wE_or, ↓wE_orT, ↓wE_ite, ↓wE_call, ↓wE_callk, ↓wE_refused, ↓wE_callc, ↓wE_bi, ↓wE_isi, ↓wE_lenv, ↓wE_ixv, ↓wE_ix, ↓wE_sl, ↓wE_rev, ↓wE_tup, ↓wE_tpl, ↓wE_lst, ↓wE_vtp, ↓wE_index, ↓wE_lrng, ↓wE_sset, ↓comp_eq, ↓allg_eq, lstK_eq, cutK_tup, cutK_lst, cutK_scr, revK_tup, revK_lst, vtpK_tp, ↓wEs_nil, ↓wEs_cons, ↓wVs_nil, ↓wVs_cons, ↓wO_no, ↓wO_yes, ↓wC_no, ↓wC_yes, ↓wI_it, ↓wI_r1, ↓wI_r2, r2K_eq, ↓wI_r3, ↓wI_zip, ↓wS_asg, ↓wS_par, ↓wS_unp, ↓wS_setv, ↓wS_swp, ↓wS_ex, ↓wS_ret, ↓wS_iff, ↓wS_brk, ↓wS_rais, ↓wS_newd, ↓wS_skip, ↓wS_app, ↓wS_ext, ↓wS_aug, ownK_eq, lstD_eq, augK_add, augK_sub, ↓wSs_nil, ↓wSs_cons, ↓whl_eq, ↓fr_eq, b_add, b_sub, b_mul, b_div, b_mod, b_pow, b_addT, b_addL, c_lt, c_le, c_gt, c_ge, c_eq, c_ne, f_abs, f_int, f_min, f_len, f_list, f_tuple, set_mk, sl_d, sl_own, sl_tp, dat_d, dat_own, dat_tp, it_tupW, it_lst, it_scr, items_tab, items_wh, is_own, is_tup, is_lst, is_scr, is_cell, is_tab, is_wh, ln_own, ln_tup, ln_lst, ln_scr, ln_dk, ln_tab, ln_wh, set_d, set_own, set_dk, set_tp, hide1, hide2, putT1, putT2, putT3, sl1, sl2, back1, back2, gone_unW, gone_dW, gone_ownW, setA0, setA1, List.map_cons, List.map_nil, List.length_cons, List.length_nil, List.cons_append, List.nil_append, List.getElem?_cons_zero, List.getElem?_cons_succ, List.replicate_succ, List.replicate_zero, List.set_cons_zero, List.set_cons_succ, exists_eq_left, exists_eq_left', Option.some.injEq, Sl.own.injEq, exists_eq', and_true, true_and, Nat.reduceAdd, Nat.reduceSub, Nat.zero_add])
            refine n1 _ ⟨a + 1, k, .d (.int a), .d (.int (Nat.gcd n a : Nat)), by omega, by simp, ?_⟩
            rw [List.range_succ, insN_snoc]
            unfold ins keyOf
            rfl
      · obtain ⟨a, k, s3, s4, ha, hx, rfl⟩ := hI
        cases k with
        | succ k =>
          rw [rngD_succ] at hx
          cases hx
        | zero =>
          have e : a = n := by omega
          subst e
          refine n1 _ ⟨U ++ [a], V, _, _, _, by rw [hU]; simp, rfl, ?_, by rw [keys_snoc]⟩
          rw [keys_snoc]
          have := insN_len a (List.range a) (keys U)
          rw [List.length_range] at this
          rw [List.length_append]
          simp only [List.length_cons, List.length_nil]
          omega
  · obtain ⟨U, V, s2, s3, s4, hU, hx, hk, rfl⟩ := hI
    cases V with
    | cons n V => cases hx
    | nil =>
      rw [List.append_nil] at hU
      subst hU
      (try simp -dsimp only [kK_eq, optK_some, blK_eq, intK_eq, strK_eq, iteK_t, iteK_f, andK_t, sK_some, valS_d, valS_own, valS_tp, ↓wE_v, ↓wE_k, ↓wE_bin, ↓wE_neg, ↓wE_no, ↓wE_cmp, ↓wE_chn, ↓wE_isN, ↓wE_ntN, ↓wE_and, ↓wE_or, ↓wE_orT, ↓wE_ite, ↓wE_call, ↓wE_callk, ↓wE_refused, ↓wE_callc, ↓wE_bi, ↓wE_isi, ↓wE_lenv, ↓wE_ixv, ↓wE_ix, ↓wE_sl, ↓wE_rev, ↓wE_tup, ↓wE_tpl, ↓wE_lst, ↓wE_vtp, ↓wE_index, ↓wE_lrng, ↓wE_sset, ↓comp_eq, ↓allg_eq, lstK_eq, cutK_tup, cutK_lst, cutK_scr, revK_tup, revK_lst, vtpK_tp, ↓wEs_nil, ↓wEs_cons, ↓wVs_nil, ↓wVs_cons, ↓wO_no, ↓wO_yes, ↓wC_no, ↓wC_yes, ↓wI_it, ↓wI_r1, ↓wI_r2, r2K_eq, ↓wI_r3, ↓wI_zip, ↓wS_asg, ↓wS_par, ↓wS_unp, ↓wS_setv, ↓wS_swp, ↓wS_ex, ↓wS_ret, ↓wS_iff, ↓wS_brk, ↓wS_rais, ↓wS_newd, ↓wS_skip, ↓wS_app, ↓wS_ext, ↓wS_aug, ownK_eq, lstD_eq, augK_add, augK_sub, ↓wSs_nil, ↓wSs_cons, ↓whl_eq, ↓fr_eq, b_add, b_sub, b_mul, b_div, b_mod, b_pow, b_addT, b_addL, c_lt, c_le, c_gt, c_ge, c_eq, c_ne, f_abs, f_int, f_min, f_len, f_list, f_tuple, set_mk, sl_d, sl_own, sl_tp, dat_d, dat_own, dat_tp, it_tupW, it_lst, it_scr, items_tab, items_wh, is_own, is_tup, is_lst, is_scr, is_cell, is_tab, is_wh, ln_own, ln_tup, ln_lst, ln_scr, ln_dk, ln_tab, ln_wh, set_d, set_own, set_dk, set_tp, hide1, hide2, putT1, putT2, putT3, sl1, sl2, back1, back2, gone_unW, gone_dW, gone_ownW, setA0, setA1, List.map_cons, List.map_nil, List.length_cons, List.length_nil, List.cons_append, List.nil_append, List.getElem?_cons_zero, List.getElem?_cons_succ, List.replicate_succ, List.replicate_zero, List.set_cons_zero, List.set_cons_succ, exists_eq_left, exists_eq_left', Option.some.injEq, Sl.own.injEq, exists_eq', and_true, true_and, Nat.reduceAdd, Nat.reduceSub, Nat.zero_add])
      exact hq
def optN : Option Nat → D
  | none => .non
  | some n => .int n
/-- tables that this law asks about -/
def TZ (T : List (List Int)) : Prop := T.length ≤ 6 ∧ SzOk T
theorem sz_le : ∀ n ∈ SZ, n ≤ 32 := by decide
theorem TZ.ok {T : List (List Int)} (h : TZ T) : TOk T := ⟨by have := h.1; omega, fun w hw => ⟨sz_pos _ (h.2 w hw), by have := sz_le _ (h.2 w hw); omega⟩⟩
def sp_unlike_of : Spec := fun ds c Q E => ∃ A B, ds = [tabD A, tabD B] ∧ TZ A ∧ TZ B ∧ Q (.d (optN (firstU (unl A B) 0 (cyc (A ++ B))))) c
theorem b_addTab (S T : List (List Int)) (Q : Vl → Prop) : binK .Add (tabD S) (tabD T) Q = andK (S.length + T.length ≤ 100000) (Q (.d (tabD (S ++ T)))) := by
  have e : binK .Add (tabD S) (tabD T) Q = ((S.map whD).length + (T.map whD).length ≤ 100000 ∧ Q (.d (.tup (S.map whD ++ T.map whD)))) := rfl
  rw [e, List.length_map, List.length_map, ← List.map_append]
  rfl
/-- a search for the first unlike time -/
theorem first_loop {A B : List (List Int)} {c : List Int} {n i : Nat} {N : Nd} {b : Ss} {env : Sl → List Sl} (hput : ∀ (s : Sl) (x : D), putT (.one i) x ⟨env s, c⟩ = some ⟨env (.d x), c⟩)
    (hb : ∀ (t : Nat) (N : Nd), (unl A B t = true → N.rt (.d (.int t)) ⟨env (.d (.int t)), c⟩) → (unl A B t = false → N.nx ⟨env (.d (.int t)), c⟩) → wpSs Sg b N ⟨env (.d (.int t)), c⟩)
    (hr : ∀ (t : Nat) (s : Sl), firstU (unl A B) 0 n = some t → N.rt (.d (.int t)) ⟨env s, c⟩) (hn : ∀ s, firstU (unl A B) 0 n = none → N.nx ⟨env s, c⟩) (s : Sl) :
    wForB Sg (.one i) b N (rngD 0 1 n) ⟨env s, c⟩ := by
  refine for_ind (fun xs st => ∃ (m k : Nat) (s : Sl), m + k = n ∧ xs = rngD m 1 k ∧ firstU (unl A B) 0 n = firstU (unl A B) m k ∧ st = ⟨env s, c⟩) (fun x xs st hI => ?_) (fun st hI => ?_) ⟨0, n, s, by omega, rfl, rfl, rfl⟩
  · obtain ⟨m, k, s, hm, hx, hf, rfl⟩ := hI
    cases k with
    | zero => cases hx
    | succ k =>
      rw [rngD_succ] at hx
      cases hx
      refine ⟨_, hput s _, fun nx n1 => hb m _ (fun h => hr m _ ?_) (fun h => n1 _ ⟨m + 1, k, _, by omega, by simp, ?_, rfl⟩)⟩
      · rw [hf]
        unfold firstU
        rw [if_pos h]
      · rw [hf]
        conv => lhs; unfold firstU
        rw [if_neg (by rw [h]; decide)]
  · obtain ⟨m, k, s, hm, hx, hf, rfl⟩ := hI
    cases k with
    | succ k =>
      rw [rngD_succ] at hx
      cases hx
    | zero => exact hn s hf
theorem hgt_int {A B : List (List Int)} (t : Nat) : (!decide (hgt A (t : Int) = hgt B (t : Int))) = unl A B t := rfl
theorem k_unlike_of (h1 : Sg "enough_times" = sp_enough) (h2 : Sg "height_of" = sp_height_of) : Keeps Sg 5 b_unlike_of sp_unlike_of := by
  rintro ds c Q E ⟨A, B, rfl, hA, hB, hq⟩
  have hl := hA.1
  have hl2 := hB.1
  unfold b_unlike_of
  (try simp -dsimp only [kK_eq, optK_some, blK_eq, intK_eq, strK_eq, iteK_t, iteK_f, andK_t, sK_some, valS_d, valS_own, valS_tp, ↓wE_v, ↓wE_k, ↓wE_bin, ↓wE_neg, ↓wE_no, ↓wE_cmp, ↓wE_chn, ↓wE_isN, ↓wE_ntN, ↓wE_and, ↓wE_or, ↓wE_orT, ↓wE_ite, ↓wE_call, ↓wE_callk, ↓wE_refused, ↓wE_callc, ↓wE_bi, ↓wE_isi, ↓wE_lenv, ↓wE_ixv, ↓wE_ix, ↓wE_sl, ↓wE_rev, ↓wE_tup, ↓wE_tpl, ↓wE_lst, ↓wE_vtp, ↓wE_index, ↓wE_lrng, ↓wE_sset, ↓comp_eq, ↓allg_eq, lstK_eq, cutK_tup, cutK_lst, cutK_scr, revK_tup, revK_lst, vtpK_tp, ↓wEs_nil, ↓wEs_cons, ↓wVs_nil, ↓wVs_cons, ↓wO_no, ↓wO_yes, ↓wC_no, ↓wC_yes, ↓wI_it, ↓wI_r1, ↓wI_r2, r2K_eq, ↓wI_r3, ↓wI_zip, ↓wS_asg, ↓wS_par, ↓wS_unp, ↓wS_setv, ↓wS_swp, ↓wS_ex, ↓wS_ret, ↓wS_iff, ↓wS_brk, ↓wS_rais, ↓wS_newd, ↓wS_skip, ↓wS_app, ↓wS_ext, ↓wS_aug, ownK_eq, lstD_eq, augK_add, augK_sub, ↓wSs_nil, ↓wSs_cons, ↓whl_eq, ↓fr_eq, b_add, b_sub, b_mul, b_div, b_mod, b_pow, b_addT, b_addL, c_lt, c_le, c_gt, c_ge, c_eq, c_ne, f_abs, f_int, f_min, f_len, f_list, f_tuple, set_mk, sl_d, sl_own, sl_tp, dat_d, dat_own, dat_tp, it_tupW, it_lst, it_scr, items_tab, items_wh, is_own, is_tup, is_lst, is_scr, is_cell, is_tab, is_wh, ln_own, ln_tup, ln_lst, ln_scr, ln_dk, ln_tab, ln_wh, set_d, set_own, set_dk, set_tp, hide1, hide2, putT1, putT2, putT3, sl1, sl2, back1, back2, gone_unW, gone_dW, gone_ownW, setA0, setA1, List.map_cons, List.map_nil, List.length_cons, List.length_nil, List.cons_append, List.nil_append, List.getElem?_cons_zero, List.getElem?_cons_succ, List.replicate_succ, List.replicate_zero, List.set_cons_zero, List.set_cons_succ, exists_eq_left, exists_eq_left', Option.some.injEq, Sl.own.injEq, exists_eq', and_true, true_and, Nat.reduceAdd, Nat.reduceSub, Nat.zero_add, b_addTab])
  refine ⟨by omega, ?_⟩
  refine comp_ind (fun acc xs st => ∃ (U V : List (List Int)) (s : Sl), A ++ B = U ++ V ∧ xs = V.map whD ∧ acc = natsD (sizes U) ∧ st = ⟨[.d (tabD A), .d (tabD B), .un, s, .un], c⟩) (fun x xs acc st hI => ?_) (fun acc st hI => ?_) ⟨[], A ++ B, .un, rfl, rfl, rfl, rfl⟩
  · obtain ⟨U, V, s, hU, hx, hacc, rfl⟩ := hI
    cases V with
    | nil => cases hx
    | cons w V =>
      cases hx
      have hlen : acc.length < 100000 := by
        have := congrArg List.length hU
        rw [List.length_append, List.length_append, List.length_cons] at this
        rw [hacc]
        unfold natsD sizes
        rw [List.length_map, List.length_map]
        omega
      refine ⟨_, rfl, fun nx n1 n2 => ?_⟩
      rw [wC_no, if_pos rfl]
      (try simp -dsimp only [kK_eq, optK_some, blK_eq, intK_eq, strK_eq, iteK_t, iteK_f, andK_t, sK_some, valS_d, valS_own, valS_tp, ↓wE_v, ↓wE_k, ↓wE_bin, ↓wE_neg, ↓wE_no, ↓wE_cmp, ↓wE_chn, ↓wE_isN, ↓wE_ntN, ↓wE_and, ↓wE_or, ↓wE_orT, ↓wE_ite, ↓wE_call, ↓wE_callk, ↓wE_refused, ↓wE_callc, ↓wE_bi, ↓wE_isi, ↓wE_lenv, ↓wE_ixv, ↓wE_ix, ↓wE_sl, ↓wE_rev, ↓wE_tup, ↓wE_tpl, ↓wE_lst, ↓wE_vtp, ↓wE_index, ↓wE_lrng, ↓wE_sset, ↓comp_eq, ↓allg_eq, lstK_eq, cutK_tup, cutK_lst, cutK_scr, revK_tup, revK_lst, vtpK_tp, ↓wEs_nil, ↓wEs_cons, ↓wVs_nil, ↓wVs_cons, ↓wO_no, ↓wO_yes, ↓wC_no, ↓wC_yes, ↓wI_it, ↓wI_r1, ↓wI_r2, r2K_eq, ↓wI_r3, ↓wI_zip, ↓wS_asg, ↓wS_par, ↓wS_unp, ↓wS_setv, ↓wS_swp, ↓wS_ex, ↓wS_ret, ↓wS_iff, ↓wS_brk, ↓wS_rais, ↓wS_newd, ↓wS_skip, ↓wS_app, ↓wS_ext, ↓wS_aug, ownK_eq, lstD_eq, augK_add, augK_sub, ↓wSs_nil, ↓wSs_cons, ↓whl_eq, ↓fr_eq, b_add, b_sub, b_mul, b_div, b_mod, b_pow, b_addT, b_addL, c_lt, c_le, c_gt, c_ge, c_eq, c_ne, f_abs, f_int, f_min, f_len, f_list, f_tuple, set_mk, sl_d, sl_own, sl_tp, dat_d, dat_own, dat_tp, it_tupW, it_lst, it_scr, items_tab, items_wh, is_own, is_tup, is_lst, is_scr, is_cell, is_tab, is_wh, ln_own, ln_tup, ln_lst, ln_scr, ln_dk, ln_tab, ln_wh, set_d, set_own, set_dk, set_tp, hide1, hide2, putT1, putT2, putT3, sl1, sl2, back1, back2, gone_unW, gone_dW, gone_ownW, setA0, setA1, List.map_cons, List.map_nil, List.length_cons, List.length_nil, List.cons_append, List.nil_append, List.getElem?_cons_zero, List.getElem?_cons_succ, List.replicate_succ, List.replicate_zero, List.set_cons_zero, List.set_cons_succ, exists_eq_left, exists_eq_left', Option.some.injEq, Sl.own.injEq, exists_eq', and_true, true_and, Nat.reduceAdd, Nat.reduceSub, Nat.zero_add])
      refine ⟨hlen, n2 _ _ hlen ⟨U ++ [w], V, _, by rw [hU]; simp, rfl, ?_, rfl⟩⟩
      rw [hacc]
      unfold natsD sizes
      rw [List.map_append, List.map_append]
      rfl
  · obtain ⟨U, V, s, hU, hx, hacc, rfl⟩ := hI
    cases V with
    | cons w V => cases hx
    | nil =>
      rw [List.append_nil] at hU
      subst hU
      rw [hacc]
      (try simp -dsimp only [kK_eq, optK_some, blK_eq, intK_eq, strK_eq, iteK_t, iteK_f, andK_t, sK_some, valS_d, valS_own, valS_tp, ↓wE_v, ↓wE_k, ↓wE_bin, ↓wE_neg, ↓wE_no, ↓wE_cmp, ↓wE_chn, ↓wE_isN, ↓wE_ntN, ↓wE_and, ↓wE_or, ↓wE_orT, ↓wE_ite, ↓wE_call, ↓wE_callk, ↓wE_refused, ↓wE_callc, ↓wE_bi, ↓wE_isi, ↓wE_lenv, ↓wE_ixv, ↓wE_ix, ↓wE_sl, ↓wE_rev, ↓wE_tup, ↓wE_tpl, ↓wE_lst, ↓wE_vtp, ↓wE_index, ↓wE_lrng, ↓wE_sset, ↓comp_eq, ↓allg_eq, lstK_eq, cutK_tup, cutK_lst, cutK_scr, revK_tup, revK_lst, vtpK_tp, ↓wEs_nil, ↓wEs_cons, ↓wVs_nil, ↓wVs_cons, ↓wO_no, ↓wO_yes, ↓wC_no, ↓wC_yes, ↓wI_it, ↓wI_r1, ↓wI_r2, r2K_eq, ↓wI_r3, ↓wI_zip, ↓wS_asg, ↓wS_par, ↓wS_unp, ↓wS_setv, ↓wS_swp, ↓wS_ex, ↓wS_ret, ↓wS_iff, ↓wS_brk, ↓wS_rais, ↓wS_newd, ↓wS_skip, ↓wS_app, ↓wS_ext, ↓wS_aug, ownK_eq, lstD_eq, augK_add, augK_sub, ↓wSs_nil, ↓wSs_cons, ↓whl_eq, ↓fr_eq, b_add, b_sub, b_mul, b_div, b_mod, b_pow, b_addT, b_addL, c_lt, c_le, c_gt, c_ge, c_eq, c_ne, f_abs, f_int, f_min, f_len, f_list, f_tuple, set_mk, sl_d, sl_own, sl_tp, dat_d, dat_own, dat_tp, it_tupW, it_lst, it_scr, items_tab, items_wh, is_own, is_tup, is_lst, is_scr, is_cell, is_tab, is_wh, ln_own, ln_tup, ln_lst, ln_scr, ln_dk, ln_tab, ln_wh, set_d, set_own, set_dk, set_tp, hide1, hide2, putT1, putT2, putT3, sl1, sl2, back1, back2, gone_unW, gone_dW, gone_ownW, setA0, setA1, List.map_cons, List.map_nil, List.length_cons, List.length_nil, List.cons_append, List.nil_append, List.getElem?_cons_zero, List.getElem?_cons_succ, List.replicate_succ, List.replicate_zero, List.set_cons_zero, List.set_cons_succ, exists_eq_left, exists_eq_left', Option.some.injEq, Sl.own.injEq, exists_eq', and_true, true_and, Nat.reduceAdd, Nat.reduceSub, Nat.zero_add])
      refine call_of h1 ⟨sizes (A ++ B), rfl, fun n hn => ?_, by unfold sizes; rw [List.length_map, List.length_append]; omega, ?_⟩
      · obtain ⟨w, hw, rfl⟩ := List.mem_map.mp hn
        have := hA.2.app hB.2 w hw
        exact ⟨sz_pos _ this, by have := sz_le _ this; omega⟩
      · (try simp -dsimp only [kK_eq, optK_some, blK_eq, intK_eq, strK_eq, iteK_t, iteK_f, andK_t, sK_some, valS_d, valS_own, valS_tp, ↓wE_v, ↓wE_k, ↓wE_bin, ↓wE_neg, ↓wE_no, ↓wE_cmp, ↓wE_chn, ↓wE_isN, ↓wE_ntN, ↓wE_and, ↓wE_or, ↓wE_orT, ↓wE_ite, ↓wE_call, ↓wE_callk, ↓wE_refused, ↓wE_callc, ↓wE_bi, ↓wE_isi, ↓wE_lenv, ↓wE_ixv, ↓wE_ix, ↓wE_sl, ↓wE_rev, ↓wE_tup, ↓wE_tpl, ↓wE_lst, ↓wE_vtp, ↓wE_index, ↓wE_lrng, ↓wE_sset, ↓comp_eq, ↓allg_eq, lstK_eq, cutK_tup, cutK_lst, cutK_scr, revK_tup, revK_lst, vtpK_tp, ↓wEs_nil, ↓wEs_cons, ↓wVs_nil, ↓wVs_cons, ↓wO_no, ↓wO_yes, ↓wC_no, ↓wC_yes, ↓wI_it, ↓wI_r1, ↓wI_r2, r2K_eq, ↓wI_r3, ↓wI_zip, ↓wS_asg, ↓wS_par, ↓wS_unp, ↓wS_setv, ↓wS_swp, ↓wS_ex, ↓wS_ret, ↓wS_iff, ↓wS_brk, ↓wS_rais, ↓wS_newd, ↓wS_skip, ↓wS_app, ↓wS_ext, ↓wS_aug, ownK_eq, lstD_eq, augK_add, augK_sub, ↓wSs_nil, ↓wSs_cons, ↓whl_eq, ↓fr_eq, b_add, b_sub, b_mul, b_div, b_mod, b_pow, b_addT, b_addL, c_lt, c_le, c_gt, c_ge, c_eq, c_ne, f_abs, f_int, f_min, f_len, f_list, f_tuple, set_mk, sl_d, sl_own, sl_tp, dat_d, dat_own, dat_tp, it_tupW, it_lst, it_scr, items_tab, items_wh, is_own, is_tup, is_lst, is_scr, is_cell, is_tab, is_wh, ln_own, ln_tup, ln_lst, ln_scr, ln_dk, ln_tab, ln_wh, set_d, set_own, set_dk, set_tp, hide1, hide2, putT1, putT2, putT3, sl1, sl2, back1, back2, gone_unW, gone_dW, gone_ownW, setA0, setA1, List.map_cons, List.map_nil, List.length_cons, List.length_nil, List.cons_append, List.nil_append, List.getElem?_cons_zero, List.getElem?_cons_succ, List.replicate_succ, List.replicate_zero, List.set_cons_zero, List.set_cons_succ, exists_eq_left, exists_eq_left', Option.some.injEq, Sl.own.injEq, exists_eq', and_true, true_and, Nat.reduceAdd, Nat.reduceSub, Nat.zero_add])
        have hk : (keys (sizes (A ++ B))).length ≤ 1000000 := by
          have key : ∀ (ns : List Nat) (ks : List (List Int)), (∀ n ∈ ns, n ≤ 1000) → (ns.foldl (fun ks n => insN ks n (List.range n)) ks).length ≤ ks.length + 1000 * ns.length := by
            intro ns
            induction ns with
            | nil => exact fun ks _ => Nat.le_refl _
            | cons n ns ih =>
              intro ks h
              have i := ih (insN ks n (List.range n)) fun m hm => h m (List.mem_cons_of_mem _ hm)
              have i2 := insN_len n (List.range n) ks
              rw [List.length_range] at i2
              have i3 := h n List.mem_cons_self
              rw [List.length_cons]
              show (ns.foldl _ (insN ks n (List.range n))).length ≤ _
              omega
          have := key (sizes (A ++ B)) [] fun n hn => by
            obtain ⟨w, hw, rfl⟩ := List.mem_map.mp hn
            have := sz_le _ (hA.2.app hB.2 w hw)
            omega
          have e : (sizes (A ++ B)).length = A.length + B.length := by unfold sizes; rw [List.length_map, List.length_append]
          rw [e] at this
          unfold keys
          simp only [List.length_nil] at this
          omega
        refine ⟨by unfold rngOk; omega, ?_⟩
        have hN : ((keys (sizes (A ++ B))).length : Int).toNat = (keys (sizes (A ++ B))).length := Int.toNat_natCast _
        rw [hN]
        rw [← unlike_eq hA.2 hB.2] at hq
        refine first_loop (A := A) (B := B) (env := fun s => [.d (tabD A), .d (tabD B), .d (.int ((keys (sizes (A ++ B))).length : Nat)), .un, s]) (fun s x => rfl) (fun t N hr hn => ?_) (fun t s h => ?_) (fun s h => ?_) .un
        · (try simp -dsimp only [kK_eq, optK_some, blK_eq, intK_eq, strK_eq, iteK_t, iteK_f, andK_t, sK_some, valS_d, valS_own, valS_tp, ↓wE_v, ↓wE_k, ↓wE_bin, ↓wE_neg, ↓wE_no, ↓wE_cmp, ↓wE_chn, ↓wE_isN, ↓wE_ntN, ↓wE_and, ↓wE_or, ↓wE_orT, ↓wE_ite, ↓wE_call, ↓wE_callk, ↓wE_refused, ↓wE_callc, ↓wE_bi, ↓wE_isi, ↓wE_lenv, ↓wE_ixv, ↓wE_ix, ↓wE_sl, ↓wE_rev, ↓wE_tup, ↓wE_tpl, ↓wE_lst, ↓wE_vtp, ↓wE_index, ↓wE_lrng, ↓wE_sset, ↓comp_eq, ↓allg_eq, lstK_eq, cutK_tup, cutK_lst, cutK_scr, revK_tup, revK_lst, vtpK_tp, ↓wEs_nil, ↓wEs_cons, ↓wVs_nil, ↓wVs_cons, ↓wO_no, ↓wO_yes, ↓wC_no, ↓wC_yes, ↓wI_it, ↓wI_r1, ↓wI_r2, r2K_eq, ↓wI_r3, ↓wI_zip, ↓wS_asg, ↓wS_par, ↓wS_unp, ↓wS_setv, ↓wS_swp, ↓wS_ex, ↓wS_ret, ↓wS_iff, ↓wS_brk, ↓wS_rais, ↓wS_newd, ↓wS_skip, ↓wS_app, ↓wS_ext, ↓wS_aug, ownK_eq, lstD_eq, augK_add, augK_sub, ↓wSs_nil, ↓wSs_cons, ↓whl_eq, ↓fr_eq, b_add, b_sub, b_mul, b_div, b_mod, b_pow, b_addT, b_addL, c_lt, c_le, c_gt, c_ge, c_eq, c_ne, f_abs, f_int, f_min, f_len, f_list, f_tuple, set_mk, sl_d, sl_own, sl_tp, dat_d, dat_own, dat_tp, it_tupW, it_lst, it_scr, items_tab, items_wh, is_own, is_tup, is_lst, is_scr, is_cell, is_tab, is_wh, ln_own, ln_tup, ln_lst, ln_scr, ln_dk, ln_tab, ln_wh, set_d, set_own, set_dk, set_tp, hide1, hide2, putT1, putT2, putT3, sl1, sl2, back1, back2, gone_unW, gone_dW, gone_ownW, setA0, setA1, List.map_cons, List.map_nil, List.length_cons, List.length_nil, List.cons_append, List.nil_append, List.getElem?_cons_zero, List.getElem?_cons_succ, List.replicate_succ, List.replicate_zero, List.set_cons_zero, List.set_cons_succ, exists_eq_left, exists_eq_left', Option.some.injEq, Sl.own.injEq, exists_eq', and_true, true_and, Nat.reduceAdd, Nat.reduceSub, Nat.zero_add])
          refine call_of h2 ⟨A, t, rfl, hA.ok, ?_⟩
          (try simp -dsimp only [kK_eq, optK_some, blK_eq, intK_eq, strK_eq, iteK_t, iteK_f, andK_t, sK_some, valS_d, valS_own, valS_tp, ↓wE_v, ↓wE_k, ↓wE_bin, ↓wE_neg, ↓wE_no, ↓wE_cmp, ↓wE_chn, ↓wE_isN, ↓wE_ntN, ↓wE_and, ↓wE_or, ↓wE_orT, ↓wE_ite, ↓wE_call, ↓wE_callk, ↓wE_refused, ↓wE_callc, ↓wE_bi, ↓wE_isi, ↓wE_lenv, ↓wE_ixv, ↓wE_ix, ↓wE_sl, ↓wE_rev, ↓wE_tup, ↓wE_tpl, ↓wE_lst, ↓wE_vtp, ↓wE_index, ↓wE_lrng, ↓wE_sset, ↓comp_eq, ↓allg_eq, lstK_eq, cutK_tup, cutK_lst, cutK_scr, revK_tup, revK_lst, vtpK_tp, ↓wEs_nil, ↓wEs_cons, ↓wVs_nil, ↓wVs_cons, ↓wO_no, ↓wO_yes, ↓wC_no, ↓wC_yes, ↓wI_it, ↓wI_r1, ↓wI_r2, r2K_eq, ↓wI_r3, ↓wI_zip, ↓wS_asg, ↓wS_par, ↓wS_unp, ↓wS_setv, ↓wS_swp, ↓wS_ex, ↓wS_ret, ↓wS_iff, ↓wS_brk, ↓wS_rais, ↓wS_newd, ↓wS_skip, ↓wS_app, ↓wS_ext, ↓wS_aug, ownK_eq, lstD_eq, augK_add, augK_sub, ↓wSs_nil, ↓wSs_cons, ↓whl_eq, ↓fr_eq, b_add, b_sub, b_mul, b_div, b_mod, b_pow, b_addT, b_addL, c_lt, c_le, c_gt, c_ge, c_eq, c_ne, f_abs, f_int, f_min, f_len, f_list, f_tuple, set_mk, sl_d, sl_own, sl_tp, dat_d, dat_own, dat_tp, it_tupW, it_lst, it_scr, items_tab, items_wh, is_own, is_tup, is_lst, is_scr, is_cell, is_tab, is_wh, ln_own, ln_tup, ln_lst, ln_scr, ln_dk, ln_tab, ln_wh, set_d, set_own, set_dk, set_tp, hide1, hide2, putT1, putT2, putT3, sl1, sl2, back1, back2, gone_unW, gone_dW, gone_ownW, setA0, setA1, List.map_cons, List.map_nil, List.length_cons, List.length_nil, List.cons_append, List.nil_append, List.getElem?_cons_zero, List.getElem?_cons_succ, List.replicate_succ, List.replicate_zero, List.set_cons_zero, List.set_cons_succ, exists_eq_left, exists_eq_left', Option.some.injEq, Sl.own.injEq, exists_eq', and_true, true_and, Nat.reduceAdd, Nat.reduceSub, Nat.zero_add])
          refine call_of h2 ⟨B, t, rfl, hB.ok, ?_⟩
          (try simp -dsimp only [kK_eq, optK_some, blK_eq, intK_eq, strK_eq, iteK_t, iteK_f, andK_t, sK_some, valS_d, valS_own, valS_tp, ↓wE_v, ↓wE_k, ↓wE_bin, ↓wE_neg, ↓wE_no, ↓wE_cmp, ↓wE_chn, ↓wE_isN, ↓wE_ntN, ↓wE_and, ↓wE_or, ↓wE_orT, ↓wE_ite, ↓wE_call, ↓wE_callk, ↓wE_refused, ↓wE_callc, ↓wE_bi, ↓wE_isi, ↓wE_lenv, ↓wE_ixv, ↓wE_ix, ↓wE_sl, ↓wE_rev, ↓wE_tup, ↓wE_tpl, ↓wE_lst, ↓wE_vtp, ↓wE_index, ↓wE_lrng, ↓wE_sset, ↓comp_eq, ↓allg_eq, lstK_eq, cutK_tup, cutK_lst, cutK_scr, revK_tup, revK_lst, vtpK_tp, ↓wEs_nil, ↓wEs_cons, ↓wVs_nil, ↓wVs_cons, ↓wO_no, ↓wO_yes, ↓wC_no, ↓wC_yes, ↓wI_it, ↓wI_r1, ↓wI_r2, r2K_eq, ↓wI_r3, ↓wI_zip, ↓wS_asg, ↓wS_par, ↓wS_unp, ↓wS_setv, ↓wS_swp, ↓wS_ex, ↓wS_ret, ↓wS_iff, ↓wS_brk, ↓wS_rais, ↓wS_newd, ↓wS_skip, ↓wS_app, ↓wS_ext, ↓wS_aug, ownK_eq, lstD_eq, augK_add, augK_sub, ↓wSs_nil, ↓wSs_cons, ↓whl_eq, ↓fr_eq, b_add, b_sub, b_mul, b_div, b_mod, b_pow, b_addT, b_addL, c_lt, c_le, c_gt, c_ge, c_eq, c_ne, f_abs, f_int, f_min, f_len, f_list, f_tuple, set_mk, sl_d, sl_own, sl_tp, dat_d, dat_own, dat_tp, it_tupW, it_lst, it_scr, items_tab, items_wh, is_own, is_tup, is_lst, is_scr, is_cell, is_tab, is_wh, ln_own, ln_tup, ln_lst, ln_scr, ln_dk, ln_tab, ln_wh, set_d, set_own, set_dk, set_tp, hide1, hide2, putT1, putT2, putT3, sl1, sl2, back1, back2, gone_unW, gone_dW, gone_ownW, setA0, setA1, List.map_cons, List.map_nil, List.length_cons, List.length_nil, List.cons_append, List.nil_append, List.getElem?_cons_zero, List.getElem?_cons_succ, List.replicate_succ, List.replicate_zero, List.set_cons_zero, List.set_cons_succ, exists_eq_left, exists_eq_left', Option.some.injEq, Sl.own.injEq, exists_eq', and_true, true_and, Nat.reduceAdd, Nat.reduceSub, Nat.zero_add, hgt_int])
          refine iteK_of (fun h => ?_) (fun h => ?_)
          · (try simp -dsimp only [kK_eq, optK_some, blK_eq, intK_eq, strK_eq, iteK_t, iteK_f, andK_t, sK_some, valS_d, valS_own, valS_tp, ↓wE_v, ↓wE_k, ↓wE_bin, ↓wE_neg, ↓wE_no, ↓wE_cmp, ↓wE_chn, ↓wE_isN, ↓wE_ntN, ↓wE_and, ↓wE_or, ↓wE_orT, ↓wE_ite, ↓wE_call, ↓wE_callk, ↓wE_refused, ↓wE_callc, ↓wE_bi, ↓wE_isi, ↓wE_lenv, ↓wE_ixv, ↓wE_ix, ↓wE_sl, ↓wE_rev, ↓wE_tup, ↓wE_tpl, ↓wE_lst, ↓wE_vtp, ↓wE_index, ↓wE_lrng, ↓wE_sset, ↓comp_eq, ↓allg_eq, lstK_eq, cutK_tup, cutK_lst, cutK_scr, revK_tup, revK_lst, vtpK_tp, ↓wEs_nil, ↓wEs_cons, ↓wVs_nil, ↓wVs_cons, ↓wO_no, ↓wO_yes, ↓wC_no, ↓wC_yes, ↓wI_it, ↓wI_r1, ↓wI_r2, r2K_eq, ↓wI_r3, ↓wI_zip, ↓wS_asg, ↓wS_par, ↓wS_unp, ↓wS_setv, ↓wS_swp, ↓wS_ex, ↓wS_ret, ↓wS_iff, ↓wS_brk, ↓wS_rais, ↓wS_newd, ↓wS_skip, ↓wS_app, ↓wS_ext, ↓wS_aug, ownK_eq, lstD_eq, augK_add, augK_sub, ↓wSs_nil, ↓wSs_cons, ↓whl_eq, ↓fr_eq, b_add, b_sub, b_mul, b_div, b_mod, b_pow, b_addT, b_addL, c_lt, c_le, c_gt, c_ge, c_eq, c_ne, f_abs, f_int, f_min, f_len, f_list, f_tuple, set_mk, sl_d, sl_own, sl_tp, dat_d, dat_own, dat_tp, it_tupW, it_lst, it_scr, items_tab, items_wh, is_own, is_tup, is_lst, is_scr, is_cell, is_tab, is_wh, ln_own, ln_tup, ln_lst, ln_scr, ln_dk, ln_tab, ln_wh, set_d, set_own, set_dk, set_tp, hide1, hide2, putT1, putT2, putT3, sl1, sl2, back1, back2, gone_unW, gone_dW, gone_ownW, setA0, setA1, List.map_cons, List.map_nil, List.length_cons, List.length_nil, List.cons_append, List.nil_append, List.getElem?_cons_zero, List.getElem?_cons_succ, List.replicate_succ, List.replicate_zero, List.set_cons_zero, List.set_cons_succ, exists_eq_left, exists_eq_left', Option.some.injEq, Sl.own.injEq, exists_eq', and_true, true_and, Nat.reduceAdd, Nat.reduceSub, Nat.zero_add])
            exact hr h
          · exact hn h
        · rw [h] at hq
          exact hq
        · rw [h] at hq
          (try simp -dsimp only [kK_eq, optK_some, blK_eq, intK_eq, strK_eq, iteK_t, iteK_f, andK_t, sK_some, valS_d, valS_own, valS_tp, ↓wE_v, ↓wE_k, ↓wE_bin, ↓wE_neg, ↓wE_no, ↓wE_cmp, ↓wE_chn, ↓wE_isN, ↓wE_ntN, ↓wE_and, ↓wE_or, ↓wE_orT, ↓wE_ite, ↓wE_call, ↓wE_callk, ↓wE_refused, ↓wE_callc, ↓wE_bi, ↓wE_isi, ↓wE_lenv, ↓wE_ixv, ↓wE_ix, ↓wE_sl, ↓wE_rev, ↓wE_tup, ↓wE_tpl, ↓wE_lst, ↓wE_vtp, ↓wE_index, ↓wE_lrng, ↓wE_sset, ↓comp_eq, ↓allg_eq, lstK_eq, cutK_tup, cutK_lst, cutK_scr, revK_tup, revK_lst, vtpK_tp, ↓wEs_nil, ↓wEs_cons, ↓wVs_nil, ↓wVs_cons, ↓wO_no, ↓wO_yes, ↓wC_no, ↓wC_yes, ↓wI_it, ↓wI_r1, ↓wI_r2, r2K_eq, ↓wI_r3, ↓wI_zip, ↓wS_asg, ↓wS_par, ↓wS_unp, ↓wS_setv, ↓wS_swp, ↓wS_ex, ↓wS_ret, ↓wS_iff, ↓wS_brk, ↓wS_rais, ↓wS_newd, ↓wS_skip, ↓wS_app, ↓wS_ext, ↓wS_aug, ownK_eq, lstD_eq, augK_add, augK_sub, ↓wSs_nil, ↓wSs_cons, ↓whl_eq, ↓fr_eq, b_add, b_sub, b_mul, b_div, b_mod, b_pow, b_addT, b_addL, c_lt, c_le, c_gt, c_ge, c_eq, c_ne, f_abs, f_int, f_min, f_len, f_list, f_tuple, set_mk, sl_d, sl_own, sl_tp, dat_d, dat_own, dat_tp, it_tupW, it_lst, it_scr, items_tab, items_wh, is_own, is_tup, is_lst, is_scr, is_cell, is_tab, is_wh, ln_own, ln_tup, ln_lst, ln_scr, ln_dk, ln_tab, ln_wh, set_d, set_own, set_dk, set_tp, hide1, hide2, putT1, putT2, putT3, sl1, sl2, back1, back2, gone_unW, gone_dW, gone_ownW, setA0, setA1, List.map_cons, List.map_nil, List.length_cons, List.length_nil, List.cons_append, List.nil_append, List.getElem?_cons_zero, List.getElem?_cons_succ, List.replicate_succ, List.replicate_zero, List.set_cons_zero, List.set_cons_succ, exists_eq_left, exists_eq_left', Option.some.injEq, Sl.own.injEq, exists_eq', and_true, true_and, Nat.reduceAdd, Nat.reduceSub, Nat.zero_add])
          exact hq
end L01
end
section
namespace L03
open PySem DL
def b_is_integer : Ss := (.cons (.ret (.and (.isi "int" (.v 0)) (.no (.isi "bool" (.v 0))))) .nil)
def b_need_integer : Ss := (.cons (.iff (.or (.no (.call "is_integer" (.cons (.v 0) .nil))) (.or (.cmp .Lt (.v 0) (.v 2)) (.cmp .Gt (.v 0) (.v 3)))) (.cons (.rais (.v 1)) .nil) .nil) .nil)
def b_is_wheel : Ss := (.cons (.iff (.or (.no (.isi "tuple" (.v 0))) (.no (.chn .LtE .LtE (.k (.int 1)) (.lenv 0) (.k (.int 60))))) (.cons (.ret (.k (.bl false))) .nil) .nil) (.cons (.ret (.allg 1 (.it (.v 0)) (.and (.call "is_integer" (.cons (.v 1) .nil)) (.cmp .LtE (.bi .abs (.cons (.v 1) .nil)) (.k (.int 1000000)))))) .nil))
def b_is_table : Ss := (.cons (.ret (.and (.isi "tuple" (.v 0)) (.and (.cmp .LtE (.lenv 0) (.k (.int 6))) (.allg 1 (.it (.v 0)) (.call "is_wheel" (.cons (.v 1) .nil)))))) .nil)
def b_need_table : Ss := (.cons (.iff (.no (.call "is_table" (.cons (.v 0) .nil))) (.cons (.rais (.v 1)) .nil) .nil) .nil)
def b_common : Ss := (.cons (.whl (.cmp .Gt (.v 1) (.k (.int 0))) (.cons (.par [0, 1] (.cons (.v 1) (.cons (.bin .Mod (.v 0) (.v 1)) .nil))) .nil)) (.cons (.ret (.v 0)) .nil))
def b_together : Ss := (.cons (.ret (.bin .Mult (.bin .FloorDiv (.v 0) (.call "common" (.cons (.v 0) (.cons (.v 1) .nil)))) (.v 1))) .nil)
def b_height_of : Ss := (.cons (.ret (.bi .sum (.cons (.comp (.one 2) (.it (.v 0)) .no (.ixv 2 (.bin .Mod (.v 1) (.lenv 2)))) .nil))) .nil)
def b_cycle_of : Ss := (.cons (.asg 1 (.k (.int 1))) (.cons (.fr (.one 2) (.it (.v 0)) (.cons (.asg 1 (.call "together" (.cons (.v 1) (.cons (.lenv 2) .nil)))) .nil)) (.cons (.ret (.v 1)) .nil)))
def b_need_bar : Ss := (.cons (.ex "need_integer" (.cons (.v 0) (.cons (.v 1) (.cons (.bin .Sub (.k (.int 0)) (.k (.int 10000000))) (.cons (.k (.int 10000000)) .nil))))) .nil)
def b_need_short : Ss := (.cons (.ex "need_table" (.cons (.v 0) (.cons (.v 1) .nil))) (.cons (.iff (.cmp .Gt (.call "cycle_of" (.cons (.v 0) .nil)) (.k (.int 5000))) (.cons (.rais (.v 1)) .nil) .nil) .nil))
def b_over_row : Ss := (.cons (.ret (.comp (.one 2) (.r1 (.call "cycle_of" (.cons (.v 0) .nil))) .no (.cmp .GtE (.call "height_of" (.cons (.v 0) (.cons (.v 2) .nil))) (.v 1)))) .nil)
def b_many_over : Ss := (.cons (.ex "need_short" (.cons (.v 0) (.cons (.k (.str "table")) .nil))) (.cons (.ex "need_bar" (.cons (.v 1) (.cons (.k (.str "bar")) .nil))) (.cons (.ret (.bi .len (.cons (.comp (.one 2) (.it (.call "over_row" (.cons (.v 0) (.cons (.v 1) .nil)))) (.yes (.v 2)) (.k (.int 1))) .nil))) .nil)))
def b_next_over : Ss := (.cons (.ex "need_short" (.cons (.v 0) (.cons (.k (.str "table")) .nil))) (.cons (.ex "need_bar" (.cons (.v 1) (.cons (.k (.str "bar")) .nil))) (.cons (.ex "need_integer" (.cons (.v 2) (.cons (.k (.str "time")) (.cons (.bin .Sub (.k (.int 0)) (.k (.int 1000000000000))) (.cons (.k (.int 1000000000000)) .nil))))) (.cons (.fr (.one 3) (.r2 (.v 2) (.bin .Add (.v 2) (.call "cycle_of" (.cons (.v 0) .nil)))) (.cons (.iff (.cmp .GtE (.call "height_of" (.cons (.v 0) (.cons (.v 3) .nil))) (.v 1)) (.cons (.ret (.v 3)) .nil) .nil) .nil)) (.cons (.ret (.k .non)) .nil)))))
def b_runs_in : Ss := (.cons (.asg 1 (.lst .nil)) (.cons (.asg 2 (.neg (.k (.int 1)))) (.cons (.fr (.one 3) (.r1 (.lenv 0)) (.cons (.iff (.and (.ixv 0 (.v 3)) (.cmp .Lt (.v 2) (.k (.int 0)))) (.cons (.asg 2 (.v 3)) .nil) .nil) (.cons (.iff (.and (.cmp .GtE (.v 2) (.k (.int 0))) (.or (.no (.ixv 0 (.v 3))) (.cmp .Eq (.v 3) (.bin .Sub (.lenv 0) (.k (.int 1)))))) (.cons (.app 1 (.tup (.cons (.v 2) (.cons (.bin .Add (.bin .Sub (.v 3) (.v 2)) (.ite (.ixv 0 (.v 3)) (.k (.int 1)) (.k (.int 0)))) .nil)))) (.cons (.asg 2 (.neg (.k (.int 1)))) .nil)) .nil) .nil))) (.cons (.ret (.v 1)) .nil))))
def b_windows : Ss := (.cons (.ex "need_short" (.cons (.v 0) (.cons (.k (.str "table")) .nil))) (.cons (.ex "need_bar" (.cons (.v 1) (.cons (.k (.str "bar")) .nil))) (.cons (.ret (.call "windows_of" (.cons (.v 0) (.cons (.v 1) .nil)))) .nil)))
def b_windows_of : Ss := (.cons (.asg 2 (.call "over_row" (.cons (.v 0) (.cons (.v 1) .nil)))) (.cons (.asg 3 (.lenv 2)) (.cons (.iff (.cmp .NotIn (.k (.bl false)) (.v 2)) (.cons (.ret (.k .non)) .nil) .nil) (.cons (.asg 4 (.index (.v 2) (.k (.bl false)))) (.cons (.asg 5 (.comp (.two 6 7) (.it (.call "runs_in" (.cons (.bin .Add (.sl (.v 2) (.yes (.v 4)) .no) (.sl (.v 2) .no (.yes (.v 4)))) .nil))) .no (.tup (.cons (.bin .Mod (.bin .Add (.v 4) (.v 6)) (.v 3)) (.cons (.v 7) .nil))))) (.cons (.ret (.bi .tuple (.cons (.bi .sorted (.cons (.v 5) .nil)) .nil))) .nil))))))
def b_longest_window : Ss := (.cons (.ex "need_short" (.cons (.v 0) (.cons (.k (.str "table")) .nil))) (.cons (.ex "need_bar" (.cons (.v 1) (.cons (.k (.str "bar")) .nil))) (.cons (.asg 2 (.k .non)) (.cons (.fr (.two 3 4) (.it (.orT (.call "windows_of" (.cons (.v 0) (.cons (.v 1) .nil))) (.tup .nil))) (.cons (.iff (.or (.isN (.v 2)) (.cmp .Gt (.v 4) (.ixv 2 (.k (.int 1))))) (.cons (.asg 2 (.tup (.cons (.v 3) (.cons (.v 4) .nil)))) .nil) .nil) .nil)) (.cons (.ret (.v 2)) .nil)))))
def b_longest_wait : Ss := (.cons (.ex "need_short" (.cons (.v 0) (.cons (.k (.str "table")) .nil))) (.cons (.ex "need_bar" (.cons (.v 1) (.cons (.k (.str "bar")) .nil))) (.cons (.asg 2 (.k .non)) (.cons (.asg 3 (.call "over_row" (.cons (.v 0) (.cons (.v 1) .nil)))) (.cons (.iff (.or (.cmp .NotIn (.k (.bl true)) (.v 3)) (.cmp .NotIn (.k (.bl false)) (.v 3))) (.cons (.ret (.k .non)) .nil) .nil) (.cons (.asg 4 (.index (.v 3) (.k (.bl true)))) (.cons (.asg 5 (.lenv 3)) (.cons (.asg 6 (.comp (.one 7) (.it (.bin .Add (.sl (.v 3) (.yes (.v 4)) .no) (.sl (.v 3) .no (.yes (.v 4))))) .no (.no (.v 7)))) (.cons (.fr (.two 8 9) (.it (.bi .sorted (.cons (.comp (.two 8 9) (.it (.call "runs_in" (.cons (.v 6) .nil))) .no (.tup (.cons (.bin .Mod (.bin .Add (.v 4) (.v 8)) (.v 5)) (.cons (.v 9) .nil)))) .nil))) (.cons (.iff (.or (.isN (.v 2)) (.cmp .Gt (.v 9) (.ixv 2 (.k (.int 1))))) (.cons (.asg 2 (.tup (.cons (.v 8) (.cons (.v 9) .nil)))) .nil) .nil) .nil)) (.cons (.ret (.v 2)) .nil))))))))))
def b_next_window : Ss := (.cons (.ex "need_short" (.cons (.v 0) (.cons (.k (.str "table")) .nil))) (.cons (.ex "need_bar" (.cons (.v 1) (.cons (.k (.str "bar")) .nil))) (.cons (.ex "need_integer" (.cons (.v 2) (.cons (.k (.str "time")) (.cons (.bin .Sub (.k (.int 0)) (.k (.int 1000000000000))) (.cons (.k (.int 1000000000000)) .nil))))) (.cons (.ex "need_integer" (.cons (.v 3) (.cons (.k (.str "length")) (.cons (.k (.int 1)) (.cons (.k (.int 1000)) .nil))))) (.cons (.asg 4 (.k (.int 0))) (.cons (.fr (.one 5) (.r2 (.v 2) (.bin .Add (.bin .Add (.v 2) (.call "cycle_of" (.cons (.v 0) .nil))) (.v 3))) (.cons (.asg 4 (.ite (.cmp .GtE (.call "height_of" (.cons (.v 0) (.cons (.v 5) .nil))) (.v 1)) (.bin .Add (.v 4) (.k (.int 1))) (.k (.int 0)))) (.cons (.iff (.cmp .Eq (.v 4) (.v 3)) (.cons (.ret (.bin .Add (.bin .Sub (.v 5) (.v 3)) (.k (.int 1)))) .nil) .nil) .nil))) (.cons (.ret (.k .non)) .nil)))))))
def b_next_both : Ss := (.cons (.ex "need_table" (.cons (.v 0) (.cons (.k (.str "one")) .nil))) (.cons (.ex "need_table" (.cons (.v 1) (.cons (.k (.str "other")) .nil))) (.cons (.ex "need_bar" (.cons (.v 2) (.cons (.k (.str "bar")) .nil))) (.cons (.ex "need_integer" (.cons (.v 3) (.cons (.k (.str "time")) (.cons (.bin .Sub (.k (.int 0)) (.k (.int 1000000000000))) (.cons (.k (.int 1000000000000)) .nil))))) (.cons (.asg 4 (.call "cycle_of" (.cons (.bin .Add (.v 0) (.v 1)) .nil))) (.cons (.iff (.cmp .Gt (.v 4) (.k (.int 5000))) (.cons (.rais (.k (.str "other"))) .nil) .nil) (.cons (.fr (.one 5) (.r2 (.v 3) (.bin .Add (.v 3) (.v 4))) (.cons (.iff (.and (.cmp .GtE (.call "height_of" (.cons (.v 0) (.cons (.v 5) .nil))) (.v 2)) (.cmp .GtE (.call "height_of" (.cons (.v 1) (.cons (.v 5) .nil))) (.v 2))) (.cons (.ret (.v 5)) .nil) .nil) .nil)) (.cons (.ret (.k .non)) .nil))))))))
def b__law_dice : Ss := (.cons (.asg 2 (.ite (.cmp .Lt (.v 1) (.lenv 0)) (.ixv 0 (.v 1)) (.bin .Add (.bin .Mult (.k (.int 733)) (.v 1)) (.k (.int 29))))) (.cons (.asg 3 (.bin .Add (.k (.int 930011)) (.bin .Mult (.k (.int 7907)) (.v 1)))) (.cons (.fr (.one 4) (.it (.bin .Add (.sl (.v 0) .no (.yes (.k (.int 6)))) (.lst (.cons (.v 2) .nil)))) (.cons (.asg 3 (.bin .Mod (.bi .int (.cons (.bin .Add (.bin .Mult (.v 3) (.k (.int 48271))) (.bin .Mod (.bi .int (.cons (.v 4) .nil)) (.k (.int 2147480009)))) .nil)) (.k (.int 2147480009)))) .nil)) (.cons (.ret (.lst (.cons (.ite (.or (.cmp .Lt (.v 2) (.k (.int 0))) (.cmp .GtE (.v 2) (.bin .Pow (.k (.int 10)) (.k (.int 16))))) (.bi .abs (.cons (.v 2) .nil)) (.k (.int 0))) (.cons (.v 3) (.cons (.k (.int 0)) .nil))))) .nil))))
def b__law_roll : Ss := (.cons (.iff (.cmp .Gt (.ixv 0 (.k (.int 0))) (.k (.int 0))) (.cons (.asg 2 (.bin .Mod (.bi .int (.cons (.ixv 0 (.k (.int 0))) .nil)) (.v 1))) (.cons (.setv 0 (.k (.int 0)) (.bin .FloorDiv (.ixv 0 (.k (.int 0))) (.v 1))) (.cons (.ret (.v 2)) .nil))) .nil) (.cons (.setv 0 (.k (.int 2)) (.bin .Add (.ixv 0 (.k (.int 2))) (.k (.int 1)))) (.cons (.setv 0 (.k (.int 1)) (.bin .Mod (.bi .int (.cons (.bin .Add (.bin .Add (.bin .Mult (.ixv 0 (.k (.int 1))) (.k (.int 52501))) (.bin .Mult (.bin .Mult (.ixv 0 (.k (.int 2))) (.ixv 0 (.k (.int 2)))) (.k (.int 1009)))) (.k (.int 77))) .nil)) (.k (.int 2147480009)))) (.cons (.ret (.bin .Mod (.bi .int (.cons (.bin .FloorDiv (.ixv 0 (.k (.int 1))) (.k (.int 211))) .nil)) (.v 1))) .nil))))
def b__law_pick : Ss := (.cons (.ret (.ixv 1 (.call "_law_roll" (.cons (.v 0) (.cons (.lenv 1) .nil))))) .nil)
def b__law_gcd : Ss := (.cons (.par [0, 1] (.cons (.bi .abs (.cons (.v 0) .nil)) (.cons (.bi .abs (.cons (.v 1) .nil)) .nil))) (.cons (.fr (.one 2) (.r1 (.k (.int 400))) (.cons (.iff (.cmp .Eq (.v 1) (.k (.int 0))) (.cons .brk .nil) .nil) (.cons (.par [0, 1] (.cons (.v 1) (.cons (.bin .Mod (.v 0) (.v 1)) .nil))) .nil))) (.cons (.ret (.v 0)) .nil)))
def b__law_height : Ss := (.cons (.asg 2 (.k (.int 0))) (.cons (.fr (.one 3) (.it (.v 0)) (.cons (.asg 2 (.bin .Add (.v 2) (.ixv 3 (.bin .Mod (.v 1) (.lenv 3))))) .nil)) (.cons (.ret (.v 2)) .nil)))
def b__law_cycle : Ss := (.cons (.asg 1 (.k (.int 1))) (.cons (.fr (.one 2) (.it (.v 0)) (.cons (.asg 1 (.bin .FloorDiv (.bin .Mult (.v 1) (.lenv 2)) (.call "_law_gcd" (.cons (.v 1) (.cons (.lenv 2) .nil))))) .nil)) (.cons (.ret (.v 1)) .nil)))
def b__law_over : Ss := (.cons (.ret (.cmp .GtE (.call "_law_height" (.cons (.v 0) (.cons (.v 2) .nil))) (.v 1))) .nil)
def b__law_spans : Ss := (.cons (.par [3, 4] (.cons (.call "_law_cycle" (.cons (.v 0) .nil)) (.cons (.lst .nil) .nil))) (.cons (.fr (.one 5) (.r1 (.v 3)) (.cons (.iff (.and (.cmp .Eq (.call "_law_over" (.cons (.v 0) (.cons (.v 1) (.cons (.v 5) .nil)))) (.v 2)) (.cmp .NotEq (.call "_law_over" (.cons (.v 0) (.cons (.v 1) (.cons (.bin .Sub (.v 5) (.k (.int 1))) .nil)))) (.v 2))) (.cons (.asg 6 (.k (.int 1))) (.cons (.whl (.cmp .Eq (.call "_law_over" (.cons (.v 0) (.cons (.v 1) (.cons (.bin .Add (.v 5) (.v 6)) .nil)))) (.v 2)) (.cons (.asg 6 (.bin .Add (.v 6) (.k (.int 1)))) .nil)) (.cons (.app 4 (.tup (.cons (.v 5) (.cons (.v 6) .nil)))) .nil))) .nil) .nil)) (.cons (.iff (.and (.cmp .Eq (.lenv 4) (.k (.int 0))) (.cmp .Eq (.call "_law_over" (.cons (.v 0) (.cons (.v 1) (.cons (.k (.int 0)) .nil)))) (.v 2))) (.cons (.ret (.k .non)) .nil) .nil) (.cons (.ret (.v 4)) .nil))))
def b__law_longest : Ss := (.cons (.asg 1 (.k .non)) (.cons (.fr (.one 2) (.it (.orT (.v 0) (.lst .nil))) (.cons (.asg 1 (.ite (.or (.isN (.v 1)) (.cmp .Gt (.ixv 2 (.k (.int 1))) (.ixv 1 (.k (.int 1))))) (.v 2) (.v 1))) .nil)) (.cons (.ret (.v 1)) .nil)))
def b__law_next : Ss := (.cons (.fr (.one 4) (.r2 (.v 2) (.bin .Add (.v 2) (.call "_law_cycle" (.cons (.v 0) .nil)))) (.cons (.asg 5 (.k (.int 0))) (.cons (.whl (.and (.cmp .Lt (.v 5) (.v 3)) (.call "_law_over" (.cons (.v 0) (.cons (.v 1) (.cons (.bin .Add (.v 4) (.v 5)) .nil))))) (.cons (.asg 5 (.bin .Add (.v 5) (.k (.int 1)))) .nil)) (.cons (.iff (.cmp .Eq (.v 5) (.v 3)) (.cons (.ret (.v 4)) .nil) .nil) .nil)))) (.cons (.ret (.k .non)) .nil))
def b__law_both : Ss := (.cons (.fr (.one 4) (.r2 (.v 3) (.bin .Add (.v 3) (.call "_law_cycle" (.cons (.bin .Add (.v 0) (.v 1)) .nil)))) (.cons (.iff (.and (.call "_law_over" (.cons (.v 0) (.cons (.v 2) (.cons (.v 4) .nil)))) (.call "_law_over" (.cons (.v 1) (.cons (.v 2) (.cons (.v 4) .nil))))) (.cons (.ret (.v 4)) .nil) .nil) .nil)) (.cons (.ret (.k .non)) .nil))
def b__law_right : Ss := (.cons (.asg 1 (.bi .tuple (.cons (.comp (.one 2) (.r1 (.call "_law_roll" (.cons (.v 0) (.cons (.k (.int 4)) .nil)))) .no (.bi .tuple (.cons (.comp (.one 3) (.r1 (.bin .Add (.k (.int 1)) (.call "_law_roll" (.cons (.v 0) (.cons (.k (.int 7)) .nil))))) .no (.call "_law_roll" (.cons (.v 0) (.cons (.k (.int 7)) .nil)))) .nil))) .nil))) (.cons (.asg 4 (.bi .tuple (.cons (.comp (.one 2) (.r1 (.call "_law_roll" (.cons (.v 0) (.cons (.k (.int 2)) .nil)))) .no (.bi .tuple (.cons (.comp (.one 3) (.r1 (.bin .Add (.k (.int 1)) (.call "_law_roll" (.cons (.v 0) (.cons (.k (.int 5)) .nil))))) .no (.call "_law_roll" (.cons (.v 0) (.cons (.k (.int 7)) .nil)))) .nil))) .nil))) (.cons (.par [5, 6] (.cons (.call "_law_cycle" (.cons (.v 1) .nil)) (.cons (.call "_law_pick" (.cons (.v 0) (.cons (.lst (.cons (.call "_law_roll" (.cons (.v 0) (.cons (.k (.int 16)) .nil))) (.cons (.call "_law_height" (.cons (.v 1) (.cons (.call "_law_roll" (.cons (.v 0) (.cons (.k (.int 30)) .nil))) .nil))) .nil))) .nil))) .nil))) (.cons (.iff (.cmp .NotEq (.callk "many_over" (.cons (.v 1) .nil) (.cons (.v 6) .nil)) (.bi .len (.cons (.comp (.one 7) (.r1 (.v 5)) (.yes (.call "_law_over" (.cons (.v 1) (.cons (.v 6) (.cons (.v 7) .nil))))) (.k (.int 1))) .nil))) (.cons (.ret (.k (.bl false))) .nil) .nil) (.cons (.par [8, 9] (.cons (.call "_law_spans" (.cons (.v 1) (.cons (.v 6) (.cons (.k (.bl true)) .nil)))) (.cons (.call "_law_spans" (.cons (.v 1) (.cons (.v 6) (.cons (.k (.bl false)) .nil)))) .nil))) (.cons (.asg 10 (.callk "windows" (.cons (.v 1) .nil) (.cons (.v 6) .nil))) (.cons (.iff (.or (.cmp .NotEq (.v 10) (.ite (.isN (.v 8)) (.k .non) (.bi .tuple (.cons (.v 8) .nil)))) (.cmp .NotEq (.callk "longest_window" (.cons (.v 1) .nil) (.cons (.v 6) .nil)) (.call "_law_longest" (.cons (.v 8) .nil)))) (.cons (.ret (.k (.bl false))) .nil) .nil) (.cons (.iff (.cmp .NotEq (.callk "longest_wait" (.cons (.v 1) .nil) (.cons (.v 6) .nil)) (.call "_law_longest" (.cons (.v 9) .nil))) (.cons (.ret (.k (.bl false))) .nil) .nil) (.cons (.par [7, 11] (.cons (.call "_law_pick" (.cons (.v 0) (.cons (.lst (.cons (.k (.int 0)) (.cons (.bin .Sub (.call "_law_roll" (.cons (.v 0) (.cons (.k (.int 60)) .nil))) (.k (.int 30))) (.cons (.bin .Pow (.k (.int 10)) (.k (.int 11))) .nil)))) .nil))) (.cons (.bin .Add (.k (.int 1)) (.call "_law_pick" (.cons (.v 0) (.cons (.lst (.cons (.k (.int 0)) (.cons (.k (.int 1)) (.cons (.k (.int 2)) (.cons (.call "_law_roll" (.cons (.v 0) (.cons (.k (.int 20)) .nil))) .nil))))) .nil)))) .nil))) (.cons (.iff (.cmp .NotEq (.callk "next_over" (.cons (.v 1) (.cons (.v 6) .nil)) (.cons (.v 7) .nil)) (.call "_law_next" (.cons (.v 1) (.cons (.v 6) (.cons (.v 7) (.cons (.k (.int 1)) .nil)))))) (.cons (.ret (.k (.bl false))) .nil) .nil) (.cons (.iff (.cmp .NotEq (.callk "next_window" (.cons (.v 1) (.cons (.v 6) (.cons (.v 7) .nil))) (.cons (.v 11) .nil)) (.call "_law_next" (.cons (.v 1) (.cons (.v 6) (.cons (.v 7) (.cons (.v 11) .nil)))))) (.cons (.ret (.k (.bl false))) .nil) .nil) (.cons (.iff (.cmp .NotEq (.callk "next_both" (.cons (.v 1) (.cons (.v 4) (.cons (.v 6) .nil))) (.cons (.v 7) .nil)) (.call "_law_both" (.cons (.v 1) (.cons (.v 4) (.cons (.v 6) (.cons (.v 7) .nil)))))) (.cons (.ret (.k (.bl false))) .nil) .nil) (.cons (.asg 12 (.tup (.cons (.bin .Mult (.tup (.cons (.k (.int 0)) .nil)) (.k (.int 59))) (.cons (.bin .Mult (.tup (.cons (.k (.int 0)) .nil)) (.k (.int 60))) (.cons (.bin .Mult (.tup (.cons (.k (.int 0)) .nil)) (.k (.int 7))) .nil))))) (.cons (.asg 13 (.lst (.cons (.refused "many_over" (.cons (.v 12) (.cons (.k (.int 1)) .nil))) (.cons (.refused "windows" (.cons (.k .non) (.cons (.k (.int 1)) .nil))) (.cons (.refused "longest_window" (.cons (.v 1) (.cons (.k .non) .nil))) (.cons (.refused "longest_wait" (.cons (.v 1) (.cons (.k (.bl true)) .nil))) (.cons (.refused "next_over" (.cons (.v 1) (.cons (.v 6) (.cons (.bin .Add (.bin .Pow (.k (.int 10)) (.k (.int 12))) (.k (.int 1))) .nil)))) (.cons (.refused "next_window" (.cons (.v 1) (.cons (.v 6) (.cons (.v 7) (.cons (.k (.int 0)) .nil))))) (.cons (.refused "next_both" (.cons (.v 1) (.cons (.v 12) (.cons (.v 6) (.cons (.v 7) .nil))))) (.cons (.refused "next_both" (.cons (.v 12) (.cons (.tup (.cons (.k (.int 1)) .nil)) (.cons (.v 6) (.cons (.v 7) .nil))))) .nil)))))))))) (.cons (.ret (.cmp .Eq (.v 13) (.lst (.cons (.k (.str "table")) (.cons (.k (.str "table")) (.cons (.k (.str "bar")) (.cons (.k (.str "bar")) (.cons (.k (.str "time")) (.cons (.k (.str "length")) (.cons (.k (.str "other")) (.cons (.k (.str "other")) .nil))))))))))) .nil)))))))))))))))
def b_law : Ss := (.cons (.fr (.one 1) (.r1 (.bi .max (.cons (.k (.int 1)) (.cons (.bi .min (.cons (.k (.int 4)) (.cons (.lenv 0) .nil))) .nil)))) (.cons (.iff (.no (.callc "_law_right" "_law_dice" (.cons (.v 0) (.cons (.v 1) .nil)))) (.cons (.ret (.k (.bl false))) .nil) .nil) .nil)) (.cons (.ret (.k (.bl true))) .nil))
end L03
end
section
namespace L03
open PySem (Str)
open L2 (atI ixN CMul CDivW CMulW CPow)
open DL LC
variable {Sg : Tab}

def unI : D → Int
  | .int i => i
  | _ => 0
def unW : D → List Int
  | .tup xs => xs.map unI
  | _ => []
def unT : D → List (List Int)
  | .tup xs => xs.map unW
  | _ => []
theorem unW_wh (w : List Int) : unW (whD w) = w := by
  show (w.map D.int).map unI = w
  rw [List.map_map]
  exact List.map_id' w
theorem unT_tab (T : List (List Int)) : unT (tabD T) = T := by
  show (T.map whD).map unW = T
  rw [List.map_map]
  conv => rhs; rw [← List.map_id' T]
  exact List.map_congr_left fun w _ => unW_wh w
theorem inR_int {x : D} {lo hi : Int} (h : inR x lo hi = true) : x = .int (unI x) ∧ lo ≤ unI x ∧ unI x ≤ hi := by
  cases x with
  | int i =>
    unfold inR at h
    rw [Bool.and_eq_true, decide_eq_true_eq, decide_eq_true_eq] at h
    exact ⟨rfl, h⟩
  | _ => cases h
theorem isWh_wh {x : D} (h : isWh x = true) : x = whD (unW x) ∧ 0 < (unW x).length ∧ (unW x).length ≤ 60 := by
  cases x with
  | tup xs =>
    unfold isWh at h
    simp only [Bool.and_eq_true, decide_eq_true_eq, List.all_eq_true] at h
    obtain ⟨h1, h2, h3⟩ := h
    refine ⟨?_, by show 0 < (xs.map unI).length; rw [List.length_map]; omega, by show (xs.map unI).length ≤ 60; rw [List.length_map]; exact h2⟩
    show D.tup xs = .tup ((xs.map unI).map D.int)
    rw [List.map_map]
    congr 1
    conv => lhs; rw [← List.map_id' xs]
    exact List.map_congr_left fun d hd => (inR_int (h3 d hd)).1
  | _ => cases h
theorem isTb_tab {x : D} (h : isTb x = true) : x = tabD (unT x) ∧ (unT x).length ≤ 6 ∧ ∀ w ∈ unT x, 0 < w.length ∧ w.length ≤ 60 := by
  cases x with
  | tup xs =>
    unfold isTb at h
    simp only [Bool.and_eq_true, decide_eq_true_eq, List.all_eq_true] at h
    obtain ⟨h1, h2⟩ := h
    refine ⟨?_, by show (xs.map unW).length ≤ 6; rw [List.length_map]; exact h1, fun w hw => ?_⟩
    · show D.tup xs = .tup ((xs.map unW).map whD)
      rw [List.map_map]
      congr 1
      conv => lhs; rw [← List.map_id' xs]
      exact List.map_congr_left fun d hd => (isWh_wh (h2 d hd)).1
    · obtain ⟨d, hd, rfl⟩ := List.mem_map.mp hw
      exact (isWh_wh (h2 d hd)).2
  | _ => cases h
theorem isTb_ts {x : D} (h : isTb x = true) : TS (unT x) := by
  obtain ⟨_, h2, h3⟩ := isTb_tab h
  exact ⟨by omega, fun w hw => ⟨(h3 w hw).1, by have := (h3 w hw).2; omega⟩⟩

def ov (T : List (List Int)) (bar t : Int) : Bool := decide (bar ≤ hgt T t)
def shortB (x : D) : Bool := isTb x && decide (cyc (unT x) ≤ 5000)
def row (T : List (List Int)) (bar : Int) : List Bool := (List.range (cyc T)).map fun (t : Nat) => ov T bar t
def firstI (p : Int → Bool) (t : Int) : Nat → Option Int
  | 0 => none
  | n + 1 => if p t = true then some t else firstI p (t + 1) n
def optD : Option Int → D
  | none => .non
  | some i => .int i
def sp_need_short : Spec := fun ds c Q E => ∃ x n, ds = [x, .str n] ∧ x.plain = true ∧ n.length ≤ 1000 ∧ if shortB x = true then Q (.d .non) c else E n c
def sp_over_row : Spec := fun ds c Q E => ∃ T bar, ds = [tabD T, .int bar] ∧ TOk T ∧ cyc T ≤ 5000 ∧ Q (.own ((row T bar).map D.bl)) c
def sp_many_over : Spec := fun ds c Q E => ∃ x b, ds = [x, b] ∧ x.plain = true ∧ b.plain = true ∧ if shortB x = true then (if inR b (-10000000) 10000000 = true then Q (.d (.int ((row (unT x) (unI b)).filter id).length)) c else E "bar" c) else E "table" c
abbrev inBar (b : D) : Bool := inR b (-10000000) 10000000
abbrev inTime (b : D) : Bool := inR b (-1000000000000) 1000000000000
def sp_next_over : Spec := fun ds c Q E => ∃ x b t, ds = [x, b, t] ∧ x.plain = true ∧ b.plain = true ∧ t.plain = true ∧ if shortB x = true then (if inBar b = true then (if inTime t = true then Q (.d (optD (firstI (ov (unT x) (unI b)) (unI t) (cyc (unT x))))) c else E "time" c) else E "bar" c) else E "table" c
theorem k_need_short (h1 : Sg "need_table" = sp_need_table) (h2 : Sg "cycle_of" = sp_cycle_of) : Keeps Sg 2 b_need_short sp_need_short := by
  rintro ds c Q E ⟨x, n, rfl, hp, hn, hq⟩
  unfold b_need_short
  (try simp -dsimp only [kK_eq, optK_some, blK_eq, intK_eq, strK_eq, iteK_t, iteK_f, andK_t, sK_some, valS_d, valS_own, valS_tp, ↓wE_v, ↓wE_k, ↓wE_bin, ↓wE_neg, ↓wE_no, ↓wE_cmp, ↓wE_chn, ↓wE_isN, ↓wE_ntN, ↓wE_and, ↓wE_or, ↓wE_orT, ↓wE_ite, ↓wE_call, ↓wE_callk, ↓wE_refused, ↓wE_callc, ↓wE_bi, ↓wE_isi, ↓wE_lenv, ↓wE_ixv, ↓wE_ix, ↓wE_sl, ↓wE_rev, ↓wE_tup, ↓wE_tpl, ↓wE_lst, ↓wE_vtp, ↓wE_index, ↓wE_lrng, ↓wE_sset, ↓comp_eq, ↓allg_eq, lstK_eq, cutK_tup, cutK_lst, cutK_scr, revK_tup, revK_lst, vtpK_tp, ↓wEs_nil, ↓wEs_cons, ↓wVs_nil, ↓wVs_cons, ↓wO_no, ↓wO_yes, ↓wC_no, ↓wC_yes, ↓wI_it, ↓wI_r1, ↓wI_r2, r2K_eq, ↓wI_r3, ↓wI_zip, ↓wS_asg, ↓wS_par, ↓wS_unp, ↓wS_setv, ↓wS_swp, ↓wS_ex, ↓wS_ret, ↓wS_iff, ↓wS_brk, ↓wS_rais, ↓wS_newd, ↓wS_skip, ↓wS_app, ↓wS_ext, ↓wS_aug, ownK_eq, lstD_eq, augK_add, augK_sub, ↓wSs_nil, ↓wSs_cons, ↓whl_eq, ↓fr_eq, b_add, b_sub, b_mul, b_div, b_mod, b_pow, b_addT, b_addL, c_lt, c_le, c_gt, c_ge, c_eq, c_ne, f_abs, f_int, f_min, f_len, f_list, f_tuple, set_mk, sl_d, sl_own, sl_tp, dat_d, dat_own, dat_tp, it_tupW, it_lst, it_scr, items_tab, items_wh, is_own, is_tup, is_lst, is_scr, is_cell, is_tab, is_wh, ln_own, ln_tup, ln_lst, ln_scr, ln_dk, ln_tab, ln_wh, set_d, set_own, set_dk, set_tp, hide1, hide2, putT1, putT2, putT3, sl1, sl2, back1, back2, gone_unW, gone_dW, gone_ownW, setA0, setA1, List.map_cons, List.map_nil, List.length_cons, List.length_nil, List.cons_append, List.nil_append, List.getElem?_cons_zero, List.getElem?_cons_succ, List.replicate_succ, List.replicate_zero, List.set_cons_zero, List.set_cons_succ, exists_eq_left, exists_eq_left', Option.some.injEq, Sl.own.injEq, exists_eq', and_true, true_and, Nat.reduceAdd, Nat.reduceSub, Nat.zero_add])
  refine call_of h1 ⟨x, n, rfl, hp, hn, ?_⟩
  unfold shortB at hq
  cases e : isTb x with
  | false =>
    rw [e] at hq
    exact hq
  | true =>
    rw [if_pos rfl]
    rw [e, Bool.true_and] at hq
    (try simp -dsimp only [kK_eq, optK_some, blK_eq, intK_eq, strK_eq, iteK_t, iteK_f, andK_t, sK_some, valS_d, valS_own, valS_tp, ↓wE_v, ↓wE_k, ↓wE_bin, ↓wE_neg, ↓wE_no, ↓wE_cmp, ↓wE_chn, ↓wE_isN, ↓wE_ntN, ↓wE_and, ↓wE_or, ↓wE_orT, ↓wE_ite, ↓wE_call, ↓wE_callk, ↓wE_refused, ↓wE_callc, ↓wE_bi, ↓wE_isi, ↓wE_lenv, ↓wE_ixv, ↓wE_ix, ↓wE_sl, ↓wE_rev, ↓wE_tup, ↓wE_tpl, ↓wE_lst, ↓wE_vtp, ↓wE_index, ↓wE_lrng, ↓wE_sset, ↓comp_eq, ↓allg_eq, lstK_eq, cutK_tup, cutK_lst, cutK_scr, revK_tup, revK_lst, vtpK_tp, ↓wEs_nil, ↓wEs_cons, ↓wVs_nil, ↓wVs_cons, ↓wO_no, ↓wO_yes, ↓wC_no, ↓wC_yes, ↓wI_it, ↓wI_r1, ↓wI_r2, r2K_eq, ↓wI_r3, ↓wI_zip, ↓wS_asg, ↓wS_par, ↓wS_unp, ↓wS_setv, ↓wS_swp, ↓wS_ex, ↓wS_ret, ↓wS_iff, ↓wS_brk, ↓wS_rais, ↓wS_newd, ↓wS_skip, ↓wS_app, ↓wS_ext, ↓wS_aug, ownK_eq, lstD_eq, augK_add, augK_sub, ↓wSs_nil, ↓wSs_cons, ↓whl_eq, ↓fr_eq, b_add, b_sub, b_mul, b_div, b_mod, b_pow, b_addT, b_addL, c_lt, c_le, c_gt, c_ge, c_eq, c_ne, f_abs, f_int, f_min, f_len, f_list, f_tuple, set_mk, sl_d, sl_own, sl_tp, dat_d, dat_own, dat_tp, it_tupW, it_lst, it_scr, items_tab, items_wh, is_own, is_tup, is_lst, is_scr, is_cell, is_tab, is_wh, ln_own, ln_tup, ln_lst, ln_scr, ln_dk, ln_tab, ln_wh, set_d, set_own, set_dk, set_tp, hide1, hide2, putT1, putT2, putT3, sl1, sl2, back1, back2, gone_unW, gone_dW, gone_ownW, setA0, setA1, List.map_cons, List.map_nil, List.length_cons, List.length_nil, List.cons_append, List.nil_append, List.getElem?_cons_zero, List.getElem?_cons_succ, List.replicate_succ, List.replicate_zero, List.set_cons_zero, List.set_cons_succ, exists_eq_left, exists_eq_left', Option.some.injEq, Sl.own.injEq, exists_eq', and_true, true_and, Nat.reduceAdd, Nat.reduceSub, Nat.zero_add])
    refine call_of h2 ⟨unT x, by rw [← (isTb_tab e).1], (isTb_ts e).ok, ?_⟩
    (try simp -dsimp only [kK_eq, optK_some, blK_eq, intK_eq, strK_eq, iteK_t, iteK_f, andK_t, sK_some, valS_d, valS_own, valS_tp, ↓wE_v, ↓wE_k, ↓wE_bin, ↓wE_neg, ↓wE_no, ↓wE_cmp, ↓wE_chn, ↓wE_isN, ↓wE_ntN, ↓wE_and, ↓wE_or, ↓wE_orT, ↓wE_ite, ↓wE_call, ↓wE_callk, ↓wE_refused, ↓wE_callc, ↓wE_bi, ↓wE_isi, ↓wE_lenv, ↓wE_ixv, ↓wE_ix, ↓wE_sl, ↓wE_rev, ↓wE_tup, ↓wE_tpl, ↓wE_lst, ↓wE_vtp, ↓wE_index, ↓wE_lrng, ↓wE_sset, ↓comp_eq, ↓allg_eq, lstK_eq, cutK_tup, cutK_lst, cutK_scr, revK_tup, revK_lst, vtpK_tp, ↓wEs_nil, ↓wEs_cons, ↓wVs_nil, ↓wVs_cons, ↓wO_no, ↓wO_yes, ↓wC_no, ↓wC_yes, ↓wI_it, ↓wI_r1, ↓wI_r2, r2K_eq, ↓wI_r3, ↓wI_zip, ↓wS_asg, ↓wS_par, ↓wS_unp, ↓wS_setv, ↓wS_swp, ↓wS_ex, ↓wS_ret, ↓wS_iff, ↓wS_brk, ↓wS_rais, ↓wS_newd, ↓wS_skip, ↓wS_app, ↓wS_ext, ↓wS_aug, ownK_eq, lstD_eq, augK_add, augK_sub, ↓wSs_nil, ↓wSs_cons, ↓whl_eq, ↓fr_eq, b_add, b_sub, b_mul, b_div, b_mod, b_pow, b_addT, b_addL, c_lt, c_le, c_gt, c_ge, c_eq, c_ne, f_abs, f_int, f_min, f_len, f_list, f_tuple, set_mk, sl_d, sl_own, sl_tp, dat_d, dat_own, dat_tp, it_tupW, it_lst, it_scr, items_tab, items_wh, is_own, is_tup, is_lst, is_scr, is_cell, is_tab, is_wh, ln_own, ln_tup, ln_lst, ln_scr, ln_dk, ln_tab, ln_wh, set_d, set_own, set_dk, set_tp, hide1, hide2, putT1, putT2, putT3, sl1, sl2, back1, back2, gone_unW, gone_dW, gone_ownW, setA0, setA1, List.map_cons, List.map_nil, List.length_cons, List.length_nil, List.cons_append, List.nil_append, List.getElem?_cons_zero, List.getElem?_cons_succ, List.replicate_succ, List.replicate_zero, List.set_cons_zero, List.set_cons_succ, exists_eq_left, exists_eq_left', Option.some.injEq, Sl.own.injEq, exists_eq', and_true, true_and, Nat.reduceAdd, Nat.reduceSub, Nat.zero_add])
    refine iteK_of (fun h => ?_) (fun h => ?_)
    · (try simp -dsimp only [kK_eq, optK_some, blK_eq, intK_eq, strK_eq, iteK_t, iteK_f, andK_t, sK_some, valS_d, valS_own, valS_tp, ↓wE_v, ↓wE_k, ↓wE_bin, ↓wE_neg, ↓wE_no, ↓wE_cmp, ↓wE_chn, ↓wE_isN, ↓wE_ntN, ↓wE_and, ↓wE_or, ↓wE_orT, ↓wE_ite, ↓wE_call, ↓wE_callk, ↓wE_refused, ↓wE_callc, ↓wE_bi, ↓wE_isi, ↓wE_lenv, ↓wE_ixv, ↓wE_ix, ↓wE_sl, ↓wE_rev, ↓wE_tup, ↓wE_tpl, ↓wE_lst, ↓wE_vtp, ↓wE_index, ↓wE_lrng, ↓wE_sset, ↓comp_eq, ↓allg_eq, lstK_eq, cutK_tup, cutK_lst, cutK_scr, revK_tup, revK_lst, vtpK_tp, ↓wEs_nil, ↓wEs_cons, ↓wVs_nil, ↓wVs_cons, ↓wO_no, ↓wO_yes, ↓wC_no, ↓wC_yes, ↓wI_it, ↓wI_r1, ↓wI_r2, r2K_eq, ↓wI_r3, ↓wI_zip, ↓wS_asg, ↓wS_par, ↓wS_unp, ↓wS_setv, ↓wS_swp, ↓wS_ex, ↓wS_ret, ↓wS_iff, ↓wS_brk, ↓wS_rais, ↓wS_newd, ↓wS_skip, ↓wS_app, ↓wS_ext, ↓wS_aug, ownK_eq, lstD_eq, augK_add, augK_sub, ↓wSs_nil, ↓wSs_cons, ↓whl_eq, ↓fr_eq, b_add, b_sub, b_mul, b_div, b_mod, b_pow, b_addT, b_addL, c_lt, c_le, c_gt, c_ge, c_eq, c_ne, f_abs, f_int, f_min, f_len, f_list, f_tuple, set_mk, sl_d, sl_own, sl_tp, dat_d, dat_own, dat_tp, it_tupW, it_lst, it_scr, items_tab, items_wh, is_own, is_tup, is_lst, is_scr, is_cell, is_tab, is_wh, ln_own, ln_tup, ln_lst, ln_scr, ln_dk, ln_tab, ln_wh, set_d, set_own, set_dk, set_tp, hide1, hide2, putT1, putT2, putT3, sl1, sl2, back1, back2, gone_unW, gone_dW, gone_ownW, setA0, setA1, List.map_cons, List.map_nil, List.length_cons, List.length_nil, List.cons_append, List.nil_append, List.getElem?_cons_zero, List.getElem?_cons_succ, List.replicate_succ, List.replicate_zero, List.set_cons_zero, List.set_cons_succ, exists_eq_left, exists_eq_left', Option.some.injEq, Sl.own.injEq, exists_eq', and_true, true_and, Nat.reduceAdd, Nat.reduceSub, Nat.zero_add])
      refine ⟨hn, ?_⟩
      rw [if_neg (by rw [decide_eq_true_eq] at h ⊢; omega)] at hq
      exact hq
    · (try simp -dsimp only [kK_eq, optK_some, blK_eq, intK_eq, strK_eq, iteK_t, iteK_f, andK_t, sK_some, valS_d, valS_own, valS_tp, ↓wE_v, ↓wE_k, ↓wE_bin, ↓wE_neg, ↓wE_no, ↓wE_cmp, ↓wE_chn, ↓wE_isN, ↓wE_ntN, ↓wE_and, ↓wE_or, ↓wE_orT, ↓wE_ite, ↓wE_call, ↓wE_callk, ↓wE_refused, ↓wE_callc, ↓wE_bi, ↓wE_isi, ↓wE_lenv, ↓wE_ixv, ↓wE_ix, ↓wE_sl, ↓wE_rev, ↓wE_tup, ↓wE_tpl, ↓wE_lst, ↓wE_vtp, ↓wE_index, ↓wE_lrng, ↓wE_sset, ↓comp_eq, ↓allg_eq, lstK_eq, cutK_tup, cutK_lst, cutK_scr, revK_tup, revK_lst, vtpK_tp, ↓wEs_nil, ↓wEs_cons, ↓wVs_nil, ↓wVs_cons, ↓wO_no, ↓wO_yes, ↓wC_no, ↓wC_yes, ↓wI_it, ↓wI_r1, ↓wI_r2, r2K_eq, ↓wI_r3, ↓wI_zip, ↓wS_asg, ↓wS_par, ↓wS_unp, ↓wS_setv, ↓wS_swp, ↓wS_ex, ↓wS_ret, ↓wS_iff, ↓wS_brk, ↓wS_rais, ↓wS_newd, ↓wS_skip, ↓wS_app, ↓wS_ext, ↓wS_aug, ownK_eq, lstD_eq, augK_add, augK_sub, ↓wSs_nil, ↓wSs_cons, ↓whl_eq, ↓fr_eq, b_add, b_sub, b_mul, b_div, b_mod, b_pow, b_addT, b_addL, c_lt, c_le, c_gt, c_ge, c_eq, c_ne, f_abs, f_int, f_min, f_len, f_list, f_tuple, set_mk, sl_d, sl_own, sl_tp, dat_d, dat_own, dat_tp, it_tupW, it_lst, it_scr, items_tab, items_wh, is_own, is_tup, is_lst, is_scr, is_cell, is_tab, is_wh, ln_own, ln_tup, ln_lst, ln_scr, ln_dk, ln_tab, ln_wh, set_d, set_own, set_dk, set_tp, hide1, hide2, putT1, putT2, putT3, sl1, sl2, back1, back2, gone_unW, gone_dW, gone_ownW, setA0, setA1, List.map_cons, List.map_nil, List.length_cons, List.length_nil, List.cons_append, List.nil_append, List.getElem?_cons_zero, List.getElem?_cons_succ, List.replicate_succ, List.replicate_zero, List.set_cons_zero, List.set_cons_succ, exists_eq_left, exists_eq_left', Option.some.injEq, Sl.own.injEq, exists_eq', and_true, true_and, Nat.reduceAdd, Nat.reduceSub, Nat.zero_add])
      rw [if_pos (by rw [decide_eq_false_iff_not] at h; rw [decide_eq_true_eq]; omega)] at hq
      exact hq
theorem rng_eq (n : Nat) : rngD 0 1 n = (List.range n).map fun (i : Nat) => D.int i := by
  unfold rngD
  refine List.map_congr_left fun i _ => ?_
  simp
theorem k_over_row (h1 : Sg "cycle_of" = sp_cycle_of) (h2 : Sg "height_of" = sp_height_of) : Keeps Sg 3 b_over_row sp_over_row := by
  rintro ds c Q E ⟨T, bar, rfl, hT, hc, hq⟩
  unfold b_over_row
  (try simp -dsimp only [kK_eq, optK_some, blK_eq, intK_eq, strK_eq, iteK_t, iteK_f, andK_t, sK_some, valS_d, valS_own, valS_tp, ↓wE_v, ↓wE_k, ↓wE_bin, ↓wE_neg, ↓wE_no, ↓wE_cmp, ↓wE_chn, ↓wE_isN, ↓wE_ntN, ↓wE_and, ↓wE_or, ↓wE_orT, ↓wE_ite, ↓wE_call, ↓wE_callk, ↓wE_refused, ↓wE_callc, ↓wE_bi, ↓wE_isi, ↓wE_lenv, ↓wE_ixv, ↓wE_ix, ↓wE_sl, ↓wE_rev, ↓wE_tup, ↓wE_tpl, ↓wE_lst, ↓wE_vtp, ↓wE_index, ↓wE_lrng, ↓wE_sset, ↓comp_eq, ↓allg_eq, lstK_eq, cutK_tup, cutK_lst, cutK_scr, revK_tup, revK_lst, vtpK_tp, ↓wEs_nil, ↓wEs_cons, ↓wVs_nil, ↓wVs_cons, ↓wO_no, ↓wO_yes, ↓wC_no, ↓wC_yes, ↓wI_it, ↓wI_r1, ↓wI_r2, r2K_eq, ↓wI_r3, ↓wI_zip, ↓wS_asg, ↓wS_par, ↓wS_unp, ↓wS_setv, ↓wS_swp, ↓wS_ex, ↓wS_ret, ↓wS_iff, ↓wS_brk, ↓wS_rais, ↓wS_newd, ↓wS_skip, ↓wS_app, ↓wS_ext, ↓wS_aug, ownK_eq, lstD_eq, augK_add, augK_sub, ↓wSs_nil, ↓wSs_cons, ↓whl_eq, ↓fr_eq, b_add, b_sub, b_mul, b_div, b_mod, b_pow, b_addT, b_addL, c_lt, c_le, c_gt, c_ge, c_eq, c_ne, f_abs, f_int, f_min, f_len, f_list, f_tuple, set_mk, sl_d, sl_own, sl_tp, dat_d, dat_own, dat_tp, it_tupW, it_lst, it_scr, items_tab, items_wh, is_own, is_tup, is_lst, is_scr, is_cell, is_tab, is_wh, ln_own, ln_tup, ln_lst, ln_scr, ln_dk, ln_tab, ln_wh, set_d, set_own, set_dk, set_tp, hide1, hide2, putT1, putT2, putT3, sl1, sl2, back1, back2, gone_unW, gone_dW, gone_ownW, setA0, setA1, List.map_cons, List.map_nil, List.length_cons, List.length_nil, List.cons_append, List.nil_append, List.getElem?_cons_zero, List.getElem?_cons_succ, List.replicate_succ, List.replicate_zero, List.set_cons_zero, List.set_cons_succ, exists_eq_left, exists_eq_left', Option.some.injEq, Sl.own.injEq, exists_eq', and_true, true_and, Nat.reduceAdd, Nat.reduceSub, Nat.zero_add])
  refine call_of h1 ⟨T, rfl, hT, ?_⟩
  (try simp -dsimp only [kK_eq, optK_some, blK_eq, intK_eq, strK_eq, iteK_t, iteK_f, andK_t, sK_some, valS_d, valS_own, valS_tp, ↓wE_v, ↓wE_k, ↓wE_bin, ↓wE_neg, ↓wE_no, ↓wE_cmp, ↓wE_chn, ↓wE_isN, ↓wE_ntN, ↓wE_and, ↓wE_or, ↓wE_orT, ↓wE_ite, ↓wE_call, ↓wE_callk, ↓wE_refused, ↓wE_callc, ↓wE_bi, ↓wE_isi, ↓wE_lenv, ↓wE_ixv, ↓wE_ix, ↓wE_sl, ↓wE_rev, ↓wE_tup, ↓wE_tpl, ↓wE_lst, ↓wE_vtp, ↓wE_index, ↓wE_lrng, ↓wE_sset, ↓comp_eq, ↓allg_eq, lstK_eq, cutK_tup, cutK_lst, cutK_scr, revK_tup, revK_lst, vtpK_tp, ↓wEs_nil, ↓wEs_cons, ↓wVs_nil, ↓wVs_cons, ↓wO_no, ↓wO_yes, ↓wC_no, ↓wC_yes, ↓wI_it, ↓wI_r1, ↓wI_r2, r2K_eq, ↓wI_r3, ↓wI_zip, ↓wS_asg, ↓wS_par, ↓wS_unp, ↓wS_setv, ↓wS_swp, ↓wS_ex, ↓wS_ret, ↓wS_iff, ↓wS_brk, ↓wS_rais, ↓wS_newd, ↓wS_skip, ↓wS_app, ↓wS_ext, ↓wS_aug, ownK_eq, lstD_eq, augK_add, augK_sub, ↓wSs_nil, ↓wSs_cons, ↓whl_eq, ↓fr_eq, b_add, b_sub, b_mul, b_div, b_mod, b_pow, b_addT, b_addL, c_lt, c_le, c_gt, c_ge, c_eq, c_ne, f_abs, f_int, f_min, f_len, f_list, f_tuple, set_mk, sl_d, sl_own, sl_tp, dat_d, dat_own, dat_tp, it_tupW, it_lst, it_scr, items_tab, items_wh, is_own, is_tup, is_lst, is_scr, is_cell, is_tab, is_wh, ln_own, ln_tup, ln_lst, ln_scr, ln_dk, ln_tab, ln_wh, set_d, set_own, set_dk, set_tp, hide1, hide2, putT1, putT2, putT3, sl1, sl2, back1, back2, gone_unW, gone_dW, gone_ownW, setA0, setA1, List.map_cons, List.map_nil, List.length_cons, List.length_nil, List.cons_append, List.nil_append, List.getElem?_cons_zero, List.getElem?_cons_succ, List.replicate_succ, List.replicate_zero, List.set_cons_zero, List.set_cons_succ, exists_eq_left, exists_eq_left', Option.some.injEq, Sl.own.injEq, exists_eq', and_true, true_and, Nat.reduceAdd, Nat.reduceSub, Nat.zero_add])
  refine ⟨by unfold rngOk; omega, ?_⟩
  rw [Int.toNat_natCast]
  refine comp_ind (fun acc xs st => ∃ (m k : Nat) (s : Sl), m + k = cyc T ∧ xs = rngD m 1 k ∧ acc = (List.range m).map (fun (t : Nat) => D.bl (ov T bar t)) ∧ st = ⟨[.d (tabD T), .d (.int bar), s], c⟩) (fun x xs acc st hI => ?_) (fun acc st hI => ?_) ⟨0, cyc T, _, by omega, rfl, rfl, rfl⟩
  · obtain ⟨m, k, s, hm, hx, ha, rfl⟩ := hI
    cases k with
    | zero => cases hx
    | succ k =>
      rw [rngD_succ] at hx
      cases hx
      have hlen : acc.length < 100000 := by
        rw [ha, List.length_map, List.length_range]
        omega
      refine ⟨_, rfl, fun nx n1 n2 => ?_⟩
      (try simp -dsimp only [kK_eq, optK_some, blK_eq, intK_eq, strK_eq, iteK_t, iteK_f, andK_t, sK_some, valS_d, valS_own, valS_tp, ↓wE_v, ↓wE_k, ↓wE_bin, ↓wE_neg, ↓wE_no, ↓wE_cmp, ↓wE_chn, ↓wE_isN, ↓wE_ntN, ↓wE_and, ↓wE_or, ↓wE_orT, ↓wE_ite, ↓wE_call, ↓wE_callk, ↓wE_refused, ↓wE_callc, ↓wE_bi, ↓wE_isi, ↓wE_lenv, ↓wE_ixv, ↓wE_ix, ↓wE_sl, ↓wE_rev, ↓wE_tup, ↓wE_tpl, ↓wE_lst, ↓wE_vtp, ↓wE_index, ↓wE_lrng, ↓wE_sset, ↓comp_eq, ↓allg_eq, lstK_eq, cutK_tup, cutK_lst, cutK_scr, revK_tup, revK_lst, vtpK_tp, ↓wEs_nil, ↓wEs_cons, ↓wVs_nil, ↓wVs_cons, ↓wO_no, ↓wO_yes, ↓wC_no, ↓wC_yes, ↓wI_it, ↓wI_r1, ↓wI_r2, r2K_eq, ↓wI_r3, ↓wI_zip, ↓wS_asg, ↓wS_par, ↓wS_unp, ↓wS_setv, ↓wS_swp, ↓wS_ex, ↓wS_ret, ↓wS_iff, ↓wS_brk, ↓wS_rais, ↓wS_newd, ↓wS_skip, ↓wS_app, ↓wS_ext, ↓wS_aug, ownK_eq, lstD_eq, augK_add, augK_sub, ↓wSs_nil, ↓wSs_cons, ↓whl_eq, ↓fr_eq, b_add, b_sub, b_mul, b_div, b_mod, b_pow, b_addT, b_addL, c_lt, c_le, c_gt, c_ge, c_eq, c_ne, f_abs, f_int, f_min, f_len, f_list, f_tuple, set_mk, sl_d, sl_own, sl_tp, dat_d, dat_own, dat_tp, it_tupW, it_lst, it_scr, items_tab, items_wh, is_own, is_tup, is_lst, is_scr, is_cell, is_tab, is_wh, ln_own, ln_tup, ln_lst, ln_scr, ln_dk, ln_tab, ln_wh, set_d, set_own, set_dk, set_tp, hide1, hide2, putT1, putT2, putT3, sl1, sl2, back1, back2, gone_unW, gone_dW, gone_ownW, setA0, setA1, List.map_cons, List.map_nil, List.length_cons, List.length_nil, List.cons_append, List.nil_append, List.getElem?_cons_zero, List.getElem?_cons_succ, List.replicate_succ, List.replicate_zero, List.set_cons_zero, List.set_cons_succ, exists_eq_left, exists_eq_left', Option.some.injEq, Sl.own.injEq, exists_eq', and_true, true_and, Nat.reduceAdd, Nat.reduceSub, Nat.zero_add, if_true])
      refine call_of h2 ⟨T, m, rfl, hT, ?_⟩
      (try simp -dsimp only [kK_eq, optK_some, blK_eq, intK_eq, strK_eq, iteK_t, iteK_f, andK_t, sK_some, valS_d, valS_own, valS_tp, ↓wE_v, ↓wE_k, ↓wE_bin, ↓wE_neg, ↓wE_no, ↓wE_cmp, ↓wE_chn, ↓wE_isN, ↓wE_ntN, ↓wE_and, ↓wE_or, ↓wE_orT, ↓wE_ite, ↓wE_call, ↓wE_callk, ↓wE_refused, ↓wE_callc, ↓wE_bi, ↓wE_isi, ↓wE_lenv, ↓wE_ixv, ↓wE_ix, ↓wE_sl, ↓wE_rev, ↓wE_tup, ↓wE_tpl, ↓wE_lst, ↓wE_vtp, ↓wE_index, ↓wE_lrng, ↓wE_sset, ↓comp_eq, ↓allg_eq, lstK_eq, cutK_tup, cutK_lst, cutK_scr, revK_tup, revK_lst, vtpK_tp, ↓wEs_nil, ↓wEs_cons, ↓wVs_nil, ↓wVs_cons, ↓wO_no, ↓wO_yes, ↓wC_no, ↓wC_yes, ↓wI_it, ↓wI_r1, ↓wI_r2, r2K_eq, ↓wI_r3, ↓wI_zip, ↓wS_asg, ↓wS_par, ↓wS_unp, ↓wS_setv, ↓wS_swp, ↓wS_ex, ↓wS_ret, ↓wS_iff, ↓wS_brk, ↓wS_rais, ↓wS_newd, ↓wS_skip, ↓wS_app, ↓wS_ext, ↓wS_aug, ownK_eq, lstD_eq, augK_add, augK_sub, ↓wSs_nil, ↓wSs_cons, ↓whl_eq, ↓fr_eq, b_add, b_sub, b_mul, b_div, b_mod, b_pow, b_addT, b_addL, c_lt, c_le, c_gt, c_ge, c_eq, c_ne, f_abs, f_int, f_min, f_len, f_list, f_tuple, set_mk, sl_d, sl_own, sl_tp, dat_d, dat_own, dat_tp, it_tupW, it_lst, it_scr, items_tab, items_wh, is_own, is_tup, is_lst, is_scr, is_cell, is_tab, is_wh, ln_own, ln_tup, ln_lst, ln_scr, ln_dk, ln_tab, ln_wh, set_d, set_own, set_dk, set_tp, hide1, hide2, putT1, putT2, putT3, sl1, sl2, back1, back2, gone_unW, gone_dW, gone_ownW, setA0, setA1, List.map_cons, List.map_nil, List.length_cons, List.length_nil, List.cons_append, List.nil_append, List.getElem?_cons_zero, List.getElem?_cons_succ, List.replicate_succ, List.replicate_zero, List.set_cons_zero, List.set_cons_succ, exists_eq_left, exists_eq_left', Option.some.injEq, Sl.own.injEq, exists_eq', and_true, true_and, Nat.reduceAdd, Nat.reduceSub, Nat.zero_add])
      refine ⟨hlen, n2 _ _ hlen ⟨m + 1, k, _, by omega, by simp, ?_, rfl⟩⟩
      rw [ha, List.range_succ, List.map_append]
      rfl
  · obtain ⟨m, k, s, hm, hx, ha, rfl⟩ := hI
    cases k with
    | succ k =>
      rw [rngD_succ] at hx
      cases hx
    | zero =>
      (try simp -dsimp only [kK_eq, optK_some, blK_eq, intK_eq, strK_eq, iteK_t, iteK_f, andK_t, sK_some, valS_d, valS_own, valS_tp, ↓wE_v, ↓wE_k, ↓wE_bin, ↓wE_neg, ↓wE_no, ↓wE_cmp, ↓wE_chn, ↓wE_isN, ↓wE_ntN, ↓wE_and, ↓wE_or, ↓wE_orT, ↓wE_ite, ↓wE_call, ↓wE_callk, ↓wE_refused, ↓wE_callc, ↓wE_bi, ↓wE_isi, ↓wE_lenv, ↓wE_ixv, ↓wE_ix, ↓wE_sl, ↓wE_rev, ↓wE_tup, ↓wE_tpl, ↓wE_lst, ↓wE_vtp, ↓wE_index, ↓wE_lrng, ↓wE_sset, ↓comp_eq, ↓allg_eq, lstK_eq, cutK_tup, cutK_lst, cutK_scr, revK_tup, revK_lst, vtpK_tp, ↓wEs_nil, ↓wEs_cons, ↓wVs_nil, ↓wVs_cons, ↓wO_no, ↓wO_yes, ↓wC_no, ↓wC_yes, ↓wI_it, ↓wI_r1, ↓wI_r2, r2K_eq, ↓wI_r3, ↓wI_zip, ↓wS_asg, ↓wS_par, ↓wS_unp, ↓wS_setv, ↓wS_swp, ↓wS_ex, ↓wS_ret, ↓wS_iff, ↓wS_brk, ↓wS_rais, ↓wS_newd, ↓wS_skip, ↓wS_app, ↓wS_ext, ↓wS_aug, ownK_eq, lstD_eq, augK_add, augK_sub, ↓wSs_nil, ↓wSs_cons, ↓whl_eq, ↓fr_eq, b_add, b_sub, b_mul, b_div, b_mod, b_pow, b_addT, b_addL, c_lt, c_le, c_gt, c_ge, c_eq, c_ne, f_abs, f_int, f_min, f_len, f_list, f_tuple, set_mk, sl_d, sl_own, sl_tp, dat_d, dat_own, dat_tp, it_tupW, it_lst, it_scr, items_tab, items_wh, is_own, is_tup, is_lst, is_scr, is_cell, is_tab, is_wh, ln_own, ln_tup, ln_lst, ln_scr, ln_dk, ln_tab, ln_wh, set_d, set_own, set_dk, set_tp, hide1, hide2, putT1, putT2, putT3, sl1, sl2, back1, back2, gone_unW, gone_dW, gone_ownW, setA0, setA1, List.map_cons, List.map_nil, List.length_cons, List.length_nil, List.cons_append, List.nil_append, List.getElem?_cons_zero, List.getElem?_cons_succ, List.replicate_succ, List.replicate_zero, List.set_cons_zero, List.set_cons_succ, exists_eq_left, exists_eq_left', Option.some.injEq, Sl.own.injEq, exists_eq', and_true, true_and, Nat.reduceAdd, Nat.reduceSub, Nat.zero_add])
      have e : m = cyc T := by omega
      subst ha
      unfold row at hq
      rw [List.map_map] at hq
      rw [e]
      exact hq
theorem k_next_over (h1 : Sg "need_short" = sp_need_short) (h2 : Sg "need_bar" = sp_need_bar) (h3 : Sg "need_integer" = sp_need_integer) (h4 : Sg "cycle_of" = sp_cycle_of) (h5 : Sg "height_of" = sp_height_of) : Keeps Sg 4 b_next_over sp_next_over := by
  rintro ds c Q E ⟨x, b, t, rfl, p1, p2, p3, hq⟩
  unfold b_next_over
  (try simp -dsimp only [kK_eq, optK_some, blK_eq, intK_eq, strK_eq, iteK_t, iteK_f, andK_t, sK_some, valS_d, valS_own, valS_tp, ↓wE_v, ↓wE_k, ↓wE_bin, ↓wE_neg, ↓wE_no, ↓wE_cmp, ↓wE_chn, ↓wE_isN, ↓wE_ntN, ↓wE_and, ↓wE_or, ↓wE_orT, ↓wE_ite, ↓wE_call, ↓wE_callk, ↓wE_refused, ↓wE_callc, ↓wE_bi, ↓wE_isi, ↓wE_lenv, ↓wE_ixv, ↓wE_ix, ↓wE_sl, ↓wE_rev, ↓wE_tup, ↓wE_tpl, ↓wE_lst, ↓wE_vtp, ↓wE_index, ↓wE_lrng, ↓wE_sset, ↓comp_eq, ↓allg_eq, lstK_eq, cutK_tup, cutK_lst, cutK_scr, revK_tup, revK_lst, vtpK_tp, ↓wEs_nil, ↓wEs_cons, ↓wVs_nil, ↓wVs_cons, ↓wO_no, ↓wO_yes, ↓wC_no, ↓wC_yes, ↓wI_it, ↓wI_r1, ↓wI_r2, r2K_eq, ↓wI_r3, ↓wI_zip, ↓wS_asg, ↓wS_par, ↓wS_unp, ↓wS_setv, ↓wS_swp, ↓wS_ex, ↓wS_ret, ↓wS_iff, ↓wS_brk, ↓wS_rais, ↓wS_newd, ↓wS_skip, ↓wS_app, ↓wS_ext, ↓wS_aug, ownK_eq, lstD_eq, augK_add, augK_sub, ↓wSs_nil, ↓wSs_cons, ↓whl_eq, ↓fr_eq, b_add, b_sub, b_mul, b_div, b_mod, b_pow, b_addT, b_addL, c_lt, c_le, c_gt, c_ge, c_eq, c_ne, f_abs, f_int, f_min, f_len, f_list, f_tuple, set_mk, sl_d, sl_own, sl_tp, dat_d, dat_own, dat_tp, it_tupW, it_lst, it_scr, items_tab, items_wh, is_own, is_tup, is_lst, is_scr, is_cell, is_tab, is_wh, ln_own, ln_tup, ln_lst, ln_scr, ln_dk, ln_tab, ln_wh, set_d, set_own, set_dk, set_tp, hide1, hide2, putT1, putT2, putT3, sl1, sl2, back1, back2, gone_unW, gone_dW, gone_ownW, setA0, setA1, List.map_cons, List.map_nil, List.length_cons, List.length_nil, List.cons_append, List.nil_append, List.getElem?_cons_zero, List.getElem?_cons_succ, List.replicate_succ, List.replicate_zero, List.set_cons_zero, List.set_cons_succ, exists_eq_left, exists_eq_left', Option.some.injEq, Sl.own.injEq, exists_eq', and_true, true_and, Nat.reduceAdd, Nat.reduceSub, Nat.zero_add])
  refine call_of h1 ⟨x, _, rfl, p1, by decide +kernel, ?_⟩
  cases e1 : shortB x with
  | false => rw [e1] at hq; exact hq
  | true =>
    rw [e1, if_pos rfl] at hq
    rw [if_pos rfl]
    (try simp -dsimp only [kK_eq, optK_some, blK_eq, intK_eq, strK_eq, iteK_t, iteK_f, andK_t, sK_some, valS_d, valS_own, valS_tp, ↓wE_v, ↓wE_k, ↓wE_bin, ↓wE_neg, ↓wE_no, ↓wE_cmp, ↓wE_chn, ↓wE_isN, ↓wE_ntN, ↓wE_and, ↓wE_or, ↓wE_orT, ↓wE_ite, ↓wE_call, ↓wE_callk, ↓wE_refused, ↓wE_callc, ↓wE_bi, ↓wE_isi, ↓wE_lenv, ↓wE_ixv, ↓wE_ix, ↓wE_sl, ↓wE_rev, ↓wE_tup, ↓wE_tpl, ↓wE_lst, ↓wE_vtp, ↓wE_index, ↓wE_lrng, ↓wE_sset, ↓comp_eq, ↓allg_eq, lstK_eq, cutK_tup, cutK_lst, cutK_scr, revK_tup, revK_lst, vtpK_tp, ↓wEs_nil, ↓wEs_cons, ↓wVs_nil, ↓wVs_cons, ↓wO_no, ↓wO_yes, ↓wC_no, ↓wC_yes, ↓wI_it, ↓wI_r1, ↓wI_r2, r2K_eq, ↓wI_r3, ↓wI_zip, ↓wS_asg, ↓wS_par, ↓wS_unp, ↓wS_setv, ↓wS_swp, ↓wS_ex, ↓wS_ret, ↓wS_iff, ↓wS_brk, ↓wS_rais, ↓wS_newd, ↓wS_skip, ↓wS_app, ↓wS_ext, ↓wS_aug, ownK_eq, lstD_eq, augK_add, augK_sub, ↓wSs_nil, ↓wSs_cons, ↓whl_eq, ↓fr_eq, b_add, b_sub, b_mul, b_div, b_mod, b_pow, b_addT, b_addL, c_lt, c_le, c_gt, c_ge, c_eq, c_ne, f_abs, f_int, f_min, f_len, f_list, f_tuple, set_mk, sl_d, sl_own, sl_tp, dat_d, dat_own, dat_tp, it_tupW, it_lst, it_scr, items_tab, items_wh, is_own, is_tup, is_lst, is_scr, is_cell, is_tab, is_wh, ln_own, ln_tup, ln_lst, ln_scr, ln_dk, ln_tab, ln_wh, set_d, set_own, set_dk, set_tp, hide1, hide2, putT1, putT2, putT3, sl1, sl2, back1, back2, gone_unW, gone_dW, gone_ownW, setA0, setA1, List.map_cons, List.map_nil, List.length_cons, List.length_nil, List.cons_append, List.nil_append, List.getElem?_cons_zero, List.getElem?_cons_succ, List.replicate_succ, List.replicate_zero, List.set_cons_zero, List.set_cons_succ, exists_eq_left, exists_eq_left', Option.some.injEq, Sl.own.injEq, exists_eq', and_true, true_and, Nat.reduceAdd, Nat.reduceSub, Nat.zero_add])
    refine call_of h2 ⟨b, _, rfl, p2, by decide +kernel, ?_⟩
    cases e2 : inR b (-10000000) 10000000 with
    | false => rw [show inBar b = false from e2] at hq; exact hq
    | true =>
      rw [show inBar b = true from e2, if_pos rfl] at hq
      rw [if_pos rfl]
      (try simp -dsimp only [kK_eq, optK_some, blK_eq, intK_eq, strK_eq, iteK_t, iteK_f, andK_t, sK_some, valS_d, valS_own, valS_tp, ↓wE_v, ↓wE_k, ↓wE_bin, ↓wE_neg, ↓wE_no, ↓wE_cmp, ↓wE_chn, ↓wE_isN, ↓wE_ntN, ↓wE_and, ↓wE_or, ↓wE_orT, ↓wE_ite, ↓wE_call, ↓wE_callk, ↓wE_refused, ↓wE_callc, ↓wE_bi, ↓wE_isi, ↓wE_lenv, ↓wE_ixv, ↓wE_ix, ↓wE_sl, ↓wE_rev, ↓wE_tup, ↓wE_tpl, ↓wE_lst, ↓wE_vtp, ↓wE_index, ↓wE_lrng, ↓wE_sset, ↓comp_eq, ↓allg_eq, lstK_eq, cutK_tup, cutK_lst, cutK_scr, revK_tup, revK_lst, vtpK_tp, ↓wEs_nil, ↓wEs_cons, ↓wVs_nil, ↓wVs_cons, ↓wO_no, ↓wO_yes, ↓wC_no, ↓wC_yes, ↓wI_it, ↓wI_r1, ↓wI_r2, r2K_eq, ↓wI_r3, ↓wI_zip, ↓wS_asg, ↓wS_par, ↓wS_unp, ↓wS_setv, ↓wS_swp, ↓wS_ex, ↓wS_ret, ↓wS_iff, ↓wS_brk, ↓wS_rais, ↓wS_newd, ↓wS_skip, ↓wS_app, ↓wS_ext, ↓wS_aug, ownK_eq, lstD_eq, augK_add, augK_sub, ↓wSs_nil, ↓wSs_cons, ↓whl_eq, ↓fr_eq, b_add, b_sub, b_mul, b_div, b_mod, b_pow, b_addT, b_addL, c_lt, c_le, c_gt, c_ge, c_eq, c_ne, f_abs, f_int, f_min, f_len, f_list, f_tuple, set_mk, sl_d, sl_own, sl_tp, dat_d, dat_own, dat_tp, it_tupW, it_lst, it_scr, items_tab, items_wh, is_own, is_tup, is_lst, is_scr, is_cell, is_tab, is_wh, ln_own, ln_tup, ln_lst, ln_scr, ln_dk, ln_tab, ln_wh, set_d, set_own, set_dk, set_tp, hide1, hide2, putT1, putT2, putT3, sl1, sl2, back1, back2, gone_unW, gone_dW, gone_ownW, setA0, setA1, List.map_cons, List.map_nil, List.length_cons, List.length_nil, List.cons_append, List.nil_append, List.getElem?_cons_zero, List.getElem?_cons_succ, List.replicate_succ, List.replicate_zero, List.set_cons_zero, List.set_cons_succ, exists_eq_left, exists_eq_left', Option.some.injEq, Sl.own.injEq, exists_eq', and_true, true_and, Nat.reduceAdd, Nat.reduceSub, Nat.zero_add])
      refine call_of h3 ⟨t, _, -1000000000000, 1000000000000, rfl, p3, by decide +kernel, ?_⟩
      cases e3 : inR t (-1000000000000) 1000000000000 with
      | false => rw [show inTime t = false from e3] at hq; exact hq
      | true =>
        rw [show inTime t = true from e3, if_pos rfl] at hq
        rw [if_pos rfl]
        unfold shortB at e1
        rw [Bool.and_eq_true, decide_eq_true_eq] at e1
        obtain ⟨e0, ec⟩ := e1
        obtain ⟨et, _⟩ := isTb_tab e0
        have hT := (isTb_ts e0).ok
        obtain ⟨eb, _⟩ := inR_int e2
        obtain ⟨ett, t1, t2⟩ := inR_int e3
        generalize unT x = T at *
        generalize unI b = bar at *
        generalize unI t = t0 at *
        subst et eb ett
        (try simp -dsimp only [kK_eq, optK_some, blK_eq, intK_eq, strK_eq, iteK_t, iteK_f, andK_t, sK_some, valS_d, valS_own, valS_tp, ↓wE_v, ↓wE_k, ↓wE_bin, ↓wE_neg, ↓wE_no, ↓wE_cmp, ↓wE_chn, ↓wE_isN, ↓wE_ntN, ↓wE_and, ↓wE_or, ↓wE_orT, ↓wE_ite, ↓wE_call, ↓wE_callk, ↓wE_refused, ↓wE_callc, ↓wE_bi, ↓wE_isi, ↓wE_lenv, ↓wE_ixv, ↓wE_ix, ↓wE_sl, ↓wE_rev, ↓wE_tup, ↓wE_tpl, ↓wE_lst, ↓wE_vtp, ↓wE_index, ↓wE_lrng, ↓wE_sset, ↓comp_eq, ↓allg_eq, lstK_eq, cutK_tup, cutK_lst, cutK_scr, revK_tup, revK_lst, vtpK_tp, ↓wEs_nil, ↓wEs_cons, ↓wVs_nil, ↓wVs_cons, ↓wO_no, ↓wO_yes, ↓wC_no, ↓wC_yes, ↓wI_it, ↓wI_r1, ↓wI_r2, r2K_eq, ↓wI_r3, ↓wI_zip, ↓wS_asg, ↓wS_par, ↓wS_unp, ↓wS_setv, ↓wS_swp, ↓wS_ex, ↓wS_ret, ↓wS_iff, ↓wS_brk, ↓wS_rais, ↓wS_newd, ↓wS_skip, ↓wS_app, ↓wS_ext, ↓wS_aug, ownK_eq, lstD_eq, augK_add, augK_sub, ↓wSs_nil, ↓wSs_cons, ↓whl_eq, ↓fr_eq, b_add, b_sub, b_mul, b_div, b_mod, b_pow, b_addT, b_addL, c_lt, c_le, c_gt, c_ge, c_eq, c_ne, f_abs, f_int, f_min, f_len, f_list, f_tuple, set_mk, sl_d, sl_own, sl_tp, dat_d, dat_own, dat_tp, it_tupW, it_lst, it_scr, items_tab, items_wh, is_own, is_tup, is_lst, is_scr, is_cell, is_tab, is_wh, ln_own, ln_tup, ln_lst, ln_scr, ln_dk, ln_tab, ln_wh, set_d, set_own, set_dk, set_tp, hide1, hide2, putT1, putT2, putT3, sl1, sl2, back1, back2, gone_unW, gone_dW, gone_ownW, setA0, setA1, List.map_cons, List.map_nil, List.length_cons, List.length_nil, List.cons_append, List.nil_append, List.getElem?_cons_zero, List.getElem?_cons_succ, List.replicate_succ, List.replicate_zero, List.set_cons_zero, List.set_cons_succ, exists_eq_left, exists_eq_left', Option.some.injEq, Sl.own.injEq, exists_eq', and_true, true_and, Nat.reduceAdd, Nat.reduceSub, Nat.zero_add])
        refine call_of h4 ⟨T, rfl, hT, ?_⟩
        (try simp -dsimp only [kK_eq, optK_some, blK_eq, intK_eq, strK_eq, iteK_t, iteK_f, andK_t, sK_some, valS_d, valS_own, valS_tp, ↓wE_v, ↓wE_k, ↓wE_bin, ↓wE_neg, ↓wE_no, ↓wE_cmp, ↓wE_chn, ↓wE_isN, ↓wE_ntN, ↓wE_and, ↓wE_or, ↓wE_orT, ↓wE_ite, ↓wE_call, ↓wE_callk, ↓wE_refused, ↓wE_callc, ↓wE_bi, ↓wE_isi, ↓wE_lenv, ↓wE_ixv, ↓wE_ix, ↓wE_sl, ↓wE_rev, ↓wE_tup, ↓wE_tpl, ↓wE_lst, ↓wE_vtp, ↓wE_index, ↓wE_lrng, ↓wE_sset, ↓comp_eq, ↓allg_eq, lstK_eq, cutK_tup, cutK_lst, cutK_scr, revK_tup, revK_lst, vtpK_tp, ↓wEs_nil, ↓wEs_cons, ↓wVs_nil, ↓wVs_cons, ↓wO_no, ↓wO_yes, ↓wC_no, ↓wC_yes, ↓wI_it, ↓wI_r1, ↓wI_r2, r2K_eq, ↓wI_r3, ↓wI_zip, ↓wS_asg, ↓wS_par, ↓wS_unp, ↓wS_setv, ↓wS_swp, ↓wS_ex, ↓wS_ret, ↓wS_iff, ↓wS_brk, ↓wS_rais, ↓wS_newd, ↓wS_skip, ↓wS_app, ↓wS_ext, ↓wS_aug, ownK_eq, lstD_eq, augK_add, augK_sub, ↓wSs_nil, ↓wSs_cons, ↓whl_eq, ↓fr_eq, b_add, b_sub, b_mul, b_div, b_mod, b_pow, b_addT, b_addL, c_lt, c_le, c_gt, c_ge, c_eq, c_ne, f_abs, f_int, f_min, f_len, f_list, f_tuple, set_mk, sl_d, sl_own, sl_tp, dat_d, dat_own, dat_tp, it_tupW, it_lst, it_scr, items_tab, items_wh, is_own, is_tup, is_lst, is_scr, is_cell, is_tab, is_wh, ln_own, ln_tup, ln_lst, ln_scr, ln_dk, ln_tab, ln_wh, set_d, set_own, set_dk, set_tp, hide1, hide2, putT1, putT2, putT3, sl1, sl2, back1, back2, gone_unW, gone_dW, gone_ownW, setA0, setA1, List.map_cons, List.map_nil, List.length_cons, List.length_nil, List.cons_append, List.nil_append, List.getElem?_cons_zero, List.getElem?_cons_succ, List.replicate_succ, List.replicate_zero, List.set_cons_zero, List.set_cons_succ, exists_eq_left, exists_eq_left', Option.some.injEq, Sl.own.injEq, exists_eq', and_true, true_and, Nat.reduceAdd, Nat.reduceSub, Nat.zero_add])
        refine ⟨by unfold rngOk; omega, ?_⟩
        have en : (t0 + (cyc T : Int) - t0).toNat = cyc T := by omega
        rw [en]
        refine for_ind (fun xs st => ∃ (lo : Int) (k : Nat) (s : Sl), xs = rngD lo 1 k ∧ firstI (ov T bar) lo k = firstI (ov T bar) t0 (cyc T) ∧ st = ⟨[.d (tabD T), .d (.int bar), .d (.int t0), s], c⟩) (fun x xs st hI => ?_) (fun st hI => ?_) ⟨t0, cyc T, _, rfl, rfl, rfl⟩
        · obtain ⟨lo, k, s, hx, hf, rfl⟩ := hI
          cases k with
          | zero => cases hx
          | succ k =>
            rw [rngD_succ] at hx
            cases hx
            refine ⟨_, rfl, fun nx n1 => ?_⟩
            (try simp -dsimp only [kK_eq, optK_some, blK_eq, intK_eq, strK_eq, iteK_t, iteK_f, andK_t, sK_some, valS_d, valS_own, valS_tp, ↓wE_v, ↓wE_k, ↓wE_bin, ↓wE_neg, ↓wE_no, ↓wE_cmp, ↓wE_chn, ↓wE_isN, ↓wE_ntN, ↓wE_and, ↓wE_or, ↓wE_orT, ↓wE_ite, ↓wE_call, ↓wE_callk, ↓wE_refused, ↓wE_callc, ↓wE_bi, ↓wE_isi, ↓wE_lenv, ↓wE_ixv, ↓wE_ix, ↓wE_sl, ↓wE_rev, ↓wE_tup, ↓wE_tpl, ↓wE_lst, ↓wE_vtp, ↓wE_index, ↓wE_lrng, ↓wE_sset, ↓comp_eq, ↓allg_eq, lstK_eq, cutK_tup, cutK_lst, cutK_scr, revK_tup, revK_lst, vtpK_tp, ↓wEs_nil, ↓wEs_cons, ↓wVs_nil, ↓wVs_cons, ↓wO_no, ↓wO_yes, ↓wC_no, ↓wC_yes, ↓wI_it, ↓wI_r1, ↓wI_r2, r2K_eq, ↓wI_r3, ↓wI_zip, ↓wS_asg, ↓wS_par, ↓wS_unp, ↓wS_setv, ↓wS_swp, ↓wS_ex, ↓wS_ret, ↓wS_iff, ↓wS_brk, ↓wS_rais, ↓wS_newd, ↓wS_skip, ↓wS_app, ↓wS_ext, ↓wS_aug, ownK_eq, lstD_eq, augK_add, augK_sub, ↓wSs_nil, ↓wSs_cons, ↓whl_eq, ↓fr_eq, b_add, b_sub, b_mul, b_div, b_mod, b_pow, b_addT, b_addL, c_lt, c_le, c_gt, c_ge, c_eq, c_ne, f_abs, f_int, f_min, f_len, f_list, f_tuple, set_mk, sl_d, sl_own, sl_tp, dat_d, dat_own, dat_tp, it_tupW, it_lst, it_scr, items_tab, items_wh, is_own, is_tup, is_lst, is_scr, is_cell, is_tab, is_wh, ln_own, ln_tup, ln_lst, ln_scr, ln_dk, ln_tab, ln_wh, set_d, set_own, set_dk, set_tp, hide1, hide2, putT1, putT2, putT3, sl1, sl2, back1, back2, gone_unW, gone_dW, gone_ownW, setA0, setA1, List.map_cons, List.map_nil, List.length_cons, List.length_nil, List.cons_append, List.nil_append, List.getElem?_cons_zero, List.getElem?_cons_succ, List.replicate_succ, List.replicate_zero, List.set_cons_zero, List.set_cons_succ, exists_eq_left, exists_eq_left', Option.some.injEq, Sl.own.injEq, exists_eq', and_true, true_and, Nat.reduceAdd, Nat.reduceSub, Nat.zero_add])
            refine call_of h5 ⟨T, lo, rfl, hT, ?_⟩
            (try simp -dsimp only [kK_eq, optK_some, blK_eq, intK_eq, strK_eq, iteK_t, iteK_f, andK_t, sK_some, valS_d, valS_own, valS_tp, ↓wE_v, ↓wE_k, ↓wE_bin, ↓wE_neg, ↓wE_no, ↓wE_cmp, ↓wE_chn, ↓wE_isN, ↓wE_ntN, ↓wE_and, ↓wE_or, ↓wE_orT, ↓wE_ite, ↓wE_call, ↓wE_callk, ↓wE_refused, ↓wE_callc, ↓wE_bi, ↓wE_isi, ↓wE_lenv, ↓wE_ixv, ↓wE_ix, ↓wE_sl, ↓wE_rev, ↓wE_tup, ↓wE_tpl, ↓wE_lst, ↓wE_vtp, ↓wE_index, ↓wE_lrng, ↓wE_sset, ↓comp_eq, ↓allg_eq, lstK_eq, cutK_tup, cutK_lst, cutK_scr, revK_tup, revK_lst, vtpK_tp, ↓wEs_nil, ↓wEs_cons, ↓wVs_nil, ↓wVs_cons, ↓wO_no, ↓wO_yes, ↓wC_no, ↓wC_yes, ↓wI_it, ↓wI_r1, ↓wI_r2, r2K_eq, ↓wI_r3, ↓wI_zip, ↓wS_asg, ↓wS_par, ↓wS_unp, ↓wS_setv, ↓wS_swp, ↓wS_ex, ↓wS_ret, ↓wS_iff, ↓wS_brk, ↓wS_rais, ↓wS_newd, ↓wS_skip, ↓wS_app, ↓wS_ext, ↓wS_aug, ownK_eq, lstD_eq, augK_add, augK_sub, ↓wSs_nil, ↓wSs_cons, ↓whl_eq, ↓fr_eq, b_add, b_sub, b_mul, b_div, b_mod, b_pow, b_addT, b_addL, c_lt, c_le, c_gt, c_ge, c_eq, c_ne, f_abs, f_int, f_min, f_len, f_list, f_tuple, set_mk, sl_d, sl_own, sl_tp, dat_d, dat_own, dat_tp, it_tupW, it_lst, it_scr, items_tab, items_wh, is_own, is_tup, is_lst, is_scr, is_cell, is_tab, is_wh, ln_own, ln_tup, ln_lst, ln_scr, ln_dk, ln_tab, ln_wh, set_d, set_own, set_dk, set_tp, hide1, hide2, putT1, putT2, putT3, sl1, sl2, back1, back2, gone_unW, gone_dW, gone_ownW, setA0, setA1, List.map_cons, List.map_nil, List.length_cons, List.length_nil, List.cons_append, List.nil_append, List.getElem?_cons_zero, List.getElem?_cons_succ, List.replicate_succ, List.replicate_zero, List.set_cons_zero, List.set_cons_succ, exists_eq_left, exists_eq_left', Option.some.injEq, Sl.own.injEq, exists_eq', and_true, true_and, Nat.reduceAdd, Nat.reduceSub, Nat.zero_add])
            refine iteK_of (fun h => ?_) (fun h => ?_)
            · (try simp -dsimp only [kK_eq, optK_some, blK_eq, intK_eq, strK_eq, iteK_t, iteK_f, andK_t, sK_some, valS_d, valS_own, valS_tp, ↓wE_v, ↓wE_k, ↓wE_bin, ↓wE_neg, ↓wE_no, ↓wE_cmp, ↓wE_chn, ↓wE_isN, ↓wE_ntN, ↓wE_and, ↓wE_or, ↓wE_orT, ↓wE_ite, ↓wE_call, ↓wE_callk, ↓wE_refused, ↓wE_callc, ↓wE_bi, ↓wE_isi, ↓wE_lenv, ↓wE_ixv, ↓wE_ix, ↓wE_sl, ↓wE_rev, ↓wE_tup, ↓wE_tpl, ↓wE_lst, ↓wE_vtp, ↓wE_index, ↓wE_lrng, ↓wE_sset, ↓comp_eq, ↓allg_eq, lstK_eq, cutK_tup, cutK_lst, cutK_scr, revK_tup, revK_lst, vtpK_tp, ↓wEs_nil, ↓wEs_cons, ↓wVs_nil, ↓wVs_cons, ↓wO_no, ↓wO_yes, ↓wC_no, ↓wC_yes, ↓wI_it, ↓wI_r1, ↓wI_r2, r2K_eq, ↓wI_r3, ↓wI_zip, ↓wS_asg, ↓wS_par, ↓wS_unp, ↓wS_setv, ↓wS_swp, ↓wS_ex, ↓wS_ret, ↓wS_iff, ↓wS_brk, ↓wS_rais, ↓wS_newd, ↓wS_skip, ↓wS_app, ↓wS_ext, ↓wS_aug, ownK_eq, lstD_eq, augK_add, augK_sub, ↓wSs_nil, ↓wSs_cons, ↓whl_eq, ↓fr_eq, b_add, b_sub, b_mul, b_div, b_mod, b_pow, b_addT, b_addL, c_lt, c_le, c_gt, c_ge, c_eq, c_ne, f_abs, f_int, f_min, f_len, f_list, f_tuple, set_mk, sl_d, sl_own, sl_tp, dat_d, dat_own, dat_tp, it_tupW, it_lst, it_scr, items_tab, items_wh, is_own, is_tup, is_lst, is_scr, is_cell, is_tab, is_wh, ln_own, ln_tup, ln_lst, ln_scr, ln_dk, ln_tab, ln_wh, set_d, set_own, set_dk, set_tp, hide1, hide2, putT1, putT2, putT3, sl1, sl2, back1, back2, gone_unW, gone_dW, gone_ownW, setA0, setA1, List.map_cons, List.map_nil, List.length_cons, List.length_nil, List.cons_append, List.nil_append, List.getElem?_cons_zero, List.getElem?_cons_succ, List.replicate_succ, List.replicate_zero, List.set_cons_zero, List.set_cons_succ, exists_eq_left, exists_eq_left', Option.some.injEq, Sl.own.injEq, exists_eq', and_true, true_and, Nat.reduceAdd, Nat.reduceSub, Nat.zero_add])
              have : firstI (ov T bar) lo (k + 1) = some lo := if_pos h
              rw [← hf, this] at hq
              exact hq
            · (try simp -dsimp only [kK_eq, optK_some, blK_eq, intK_eq, strK_eq, iteK_t, iteK_f, andK_t, sK_some, valS_d, valS_own, valS_tp, ↓wE_v, ↓wE_k, ↓wE_bin, ↓wE_neg, ↓wE_no, ↓wE_cmp, ↓wE_chn, ↓wE_isN, ↓wE_ntN, ↓wE_and, ↓wE_or, ↓wE_orT, ↓wE_ite, ↓wE_call, ↓wE_callk, ↓wE_refused, ↓wE_callc, ↓wE_bi, ↓wE_isi, ↓wE_lenv, ↓wE_ixv, ↓wE_ix, ↓wE_sl, ↓wE_rev, ↓wE_tup, ↓wE_tpl, ↓wE_lst, ↓wE_vtp, ↓wE_index, ↓wE_lrng, ↓wE_sset, ↓comp_eq, ↓allg_eq, lstK_eq, cutK_tup, cutK_lst, cutK_scr, revK_tup, revK_lst, vtpK_tp, ↓wEs_nil, ↓wEs_cons, ↓wVs_nil, ↓wVs_cons, ↓wO_no, ↓wO_yes, ↓wC_no, ↓wC_yes, ↓wI_it, ↓wI_r1, ↓wI_r2, r2K_eq, ↓wI_r3, ↓wI_zip, ↓wS_asg, ↓wS_par, ↓wS_unp, ↓wS_setv, ↓wS_swp, ↓wS_ex, ↓wS_ret, ↓wS_iff, ↓wS_brk, ↓wS_rais, ↓wS_newd, ↓wS_skip, ↓wS_app, ↓wS_ext, ↓wS_aug, ownK_eq, lstD_eq, augK_add, augK_sub, ↓wSs_nil, ↓wSs_cons, ↓whl_eq, ↓fr_eq, b_add, b_sub, b_mul, b_div, b_mod, b_pow, b_addT, b_addL, c_lt, c_le, c_gt, c_ge, c_eq, c_ne, f_abs, f_int, f_min, f_len, f_list, f_tuple, set_mk, sl_d, sl_own, sl_tp, dat_d, dat_own, dat_tp, it_tupW, it_lst, it_scr, items_tab, items_wh, is_own, is_tup, is_lst, is_scr, is_cell, is_tab, is_wh, ln_own, ln_tup, ln_lst, ln_scr, ln_dk, ln_tab, ln_wh, set_d, set_own, set_dk, set_tp, hide1, hide2, putT1, putT2, putT3, sl1, sl2, back1, back2, gone_unW, gone_dW, gone_ownW, setA0, setA1, List.map_cons, List.map_nil, List.length_cons, List.length_nil, List.cons_append, List.nil_append, List.getElem?_cons_zero, List.getElem?_cons_succ, List.replicate_succ, List.replicate_zero, List.set_cons_zero, List.set_cons_succ, exists_eq_left, exists_eq_left', Option.some.injEq, Sl.own.injEq, exists_eq', and_true, true_and, Nat.reduceAdd, Nat.reduceSub, Nat.zero_add])
              refine n1 _ ⟨lo + 1, k, _, rfl, ?_, rfl⟩
              rw [← hf]
              exact (if_neg (by unfold ov; rw [h]; decide)).symm
        · obtain ⟨lo, k, s, hx, hf, rfl⟩ := hI
          cases k with
          | succ k =>
            rw [rngD_succ] at hx
            cases hx
          | zero =>
            (try simp -dsimp only [kK_eq, optK_some, blK_eq, intK_eq, strK_eq, iteK_t, iteK_f, andK_t, sK_some, valS_d, valS_own, valS_tp, ↓wE_v, ↓wE_k, ↓wE_bin, ↓wE_neg, ↓wE_no, ↓wE_cmp, ↓wE_chn, ↓wE_isN, ↓wE_ntN, ↓wE_and, ↓wE_or, ↓wE_orT, ↓wE_ite, ↓wE_call, ↓wE_callk, ↓wE_refused, ↓wE_callc, ↓wE_bi, ↓wE_isi, ↓wE_lenv, ↓wE_ixv, ↓wE_ix, ↓wE_sl, ↓wE_rev, ↓wE_tup, ↓wE_tpl, ↓wE_lst, ↓wE_vtp, ↓wE_index, ↓wE_lrng, ↓wE_sset, ↓comp_eq, ↓allg_eq, lstK_eq, cutK_tup, cutK_lst, cutK_scr, revK_tup, revK_lst, vtpK_tp, ↓wEs_nil, ↓wEs_cons, ↓wVs_nil, ↓wVs_cons, ↓wO_no, ↓wO_yes, ↓wC_no, ↓wC_yes, ↓wI_it, ↓wI_r1, ↓wI_r2, r2K_eq, ↓wI_r3, ↓wI_zip, ↓wS_asg, ↓wS_par, ↓wS_unp, ↓wS_setv, ↓wS_swp, ↓wS_ex, ↓wS_ret, ↓wS_iff, ↓wS_brk, ↓wS_rais, ↓wS_newd, ↓wS_skip, ↓wS_app, ↓wS_ext, ↓wS_aug, ownK_eq, lstD_eq, augK_add, augK_sub, ↓wSs_nil, ↓wSs_cons, ↓whl_eq, ↓fr_eq, b_add, b_sub, b_mul, b_div, b_mod, b_pow, b_addT, b_addL, c_lt, c_le, c_gt, c_ge, c_eq, c_ne, f_abs, f_int, f_min, f_len, f_list, f_tuple, set_mk, sl_d, sl_own, sl_tp, dat_d, dat_own, dat_tp, it_tupW, it_lst, it_scr, items_tab, items_wh, is_own, is_tup, is_lst, is_scr, is_cell, is_tab, is_wh, ln_own, ln_tup, ln_lst, ln_scr, ln_dk, ln_tab, ln_wh, set_d, set_own, set_dk, set_tp, hide1, hide2, putT1, putT2, putT3, sl1, sl2, back1, back2, gone_unW, gone_dW, gone_ownW, setA0, setA1, List.map_cons, List.map_nil, List.length_cons, List.length_nil, List.cons_append, List.nil_append, List.getElem?_cons_zero, List.getElem?_cons_succ, List.replicate_succ, List.replicate_zero, List.set_cons_zero, List.set_cons_succ, exists_eq_left, exists_eq_left', Option.some.injEq, Sl.own.injEq, exists_eq', and_true, true_and, Nat.reduceAdd, Nat.reduceSub, Nat.zero_add])
            rw [← hf] at hq
            exact hq
end L03
end
section
namespace L01
open PySem (Str)
open L2 (atI ixN CMul CDivW CMulW CPow)
open DL LC
open L03 (unT isTb_tab isTb_ts)
variable {Sg : Tab}
def sp_unlike_time : Spec := fun ds c Q E => ∃ x y, ds = [x, y] ∧ x.plain = true ∧ y.plain = true ∧ if isTb x = true then (if isTb y = true then (SzOk (unT x) ∧ SzOk (unT y) ∧ Q (.d (optN (firstU (unl (unT x) (unT y)) 0 (cyc (unT x ++ unT y))))) c) else E "other" c) else E "one" c
theorem tz_of {x : D} (h : isTb x = true) (hz : SzOk (unT x)) : TZ (unT x) := ⟨(isTb_tab h).2.1, hz⟩
theorem k_unlike_time (h1 : Sg "need_table" = sp_need_table) (h2 : Sg "unlike_of" = sp_unlike_of) : Keeps Sg 2 b_unlike_time sp_unlike_time := by
  rintro ds c Q E ⟨x, y, rfl, p1, p2, hq⟩
  unfold b_unlike_time
  (try simp -dsimp only [kK_eq, optK_some, blK_eq, intK_eq, strK_eq, iteK_t, iteK_f, andK_t, sK_some, valS_d, valS_own, valS_tp, ↓wE_v, ↓wE_k, ↓wE_bin, ↓wE_neg, ↓wE_no, ↓wE_cmp, ↓wE_chn, ↓wE_isN, ↓wE_ntN, ↓wE_and, ↓wE_or, ↓wE_orT, ↓wE_ite, ↓wE_call, ↓wE_callk, ↓wE_refused, ↓wE_callc, ↓wE_bi, ↓wE_isi, ↓wE_lenv, ↓wE_ixv, ↓wE_ix, ↓wE_sl, ↓wE_rev, ↓wE_tup, ↓wE_tpl, ↓wE_lst, ↓wE_vtp, ↓wE_index, ↓wE_lrng, ↓wE_sset, ↓comp_eq, ↓allg_eq, lstK_eq, cutK_tup, cutK_lst, cutK_scr, revK_tup, revK_lst, vtpK_tp, ↓wEs_nil, ↓wEs_cons, ↓wVs_nil, ↓wVs_cons, ↓wO_no, ↓wO_yes, ↓wC_no, ↓wC_yes, ↓wI_it, ↓wI_r1, ↓wI_r2, r2K_eq, ↓wI_r3, ↓wI_zip, ↓wS_asg, ↓wS_par, ↓wS_unp, ↓wS_setv, ↓wS_swp, ↓wS_ex, ↓wS_ret, ↓wS_iff, ↓wS_brk, ↓wS_rais, ↓wS_newd, ↓wS_skip, ↓wS_app, ↓wS_ext, ↓wS_aug, ownK_eq, lstD_eq, augK_add, augK_sub, ↓wSs_nil, ↓wSs_cons, ↓whl_eq, ↓fr_eq, b_add, b_sub, b_mul, b_div, b_mod, b_pow, b_addT, b_addL, c_lt, c_le, c_gt, c_ge, c_eq, c_ne, f_abs, f_int, f_min, f_len, f_list, f_tuple, set_mk, sl_d, sl_own, sl_tp, dat_d, dat_own, dat_tp, it_tupW, it_lst, it_scr, items_tab, items_wh, is_own, is_tup, is_lst, is_scr, is_cell, is_tab, is_wh, ln_own, ln_tup, ln_lst, ln_scr, ln_dk, ln_tab, ln_wh, set_d, set_own, set_dk, set_tp, hide1, hide2, putT1, putT2, putT3, sl1, sl2, back1, back2, gone_unW, gone_dW, gone_ownW, setA0, setA1, List.map_cons, List.map_nil, List.length_cons, List.length_nil, List.cons_append, List.nil_append, List.getElem?_cons_zero, List.getElem?_cons_succ, List.replicate_succ, List.replicate_zero, List.set_cons_zero, List.set_cons_succ, exists_eq_left, exists_eq_left', Option.some.injEq, Sl.own.injEq, exists_eq', and_true, true_and, Nat.reduceAdd, Nat.reduceSub, Nat.zero_add])
  refine call_of h1 ⟨x, _, rfl, p1, by decide +kernel, ?_⟩
  cases e1 : isTb x with
  | false => rw [e1] at hq; exact hq
  | true =>
    rw [e1, if_pos rfl] at hq
    rw [if_pos rfl]
    (try simp -dsimp only [kK_eq, optK_some, blK_eq, intK_eq, strK_eq, iteK_t, iteK_f, andK_t, sK_some, valS_d, valS_own, valS_tp, ↓wE_v, ↓wE_k, ↓wE_bin, ↓wE_neg, ↓wE_no, ↓wE_cmp, ↓wE_chn, ↓wE_isN, ↓wE_ntN, ↓wE_and, ↓wE_or, ↓wE_orT, ↓wE_ite, ↓wE_call, ↓wE_callk, ↓wE_refused, ↓wE_callc, ↓wE_bi, ↓wE_isi, ↓wE_lenv, ↓wE_ixv, ↓wE_ix, ↓wE_sl, ↓wE_rev, ↓wE_tup, ↓wE_tpl, ↓wE_lst, ↓wE_vtp, ↓wE_index, ↓wE_lrng, ↓wE_sset, ↓comp_eq, ↓allg_eq, lstK_eq, cutK_tup, cutK_lst, cutK_scr, revK_tup, revK_lst, vtpK_tp, ↓wEs_nil, ↓wEs_cons, ↓wVs_nil, ↓wVs_cons, ↓wO_no, ↓wO_yes, ↓wC_no, ↓wC_yes, ↓wI_it, ↓wI_r1, ↓wI_r2, r2K_eq, ↓wI_r3, ↓wI_zip, ↓wS_asg, ↓wS_par, ↓wS_unp, ↓wS_setv, ↓wS_swp, ↓wS_ex, ↓wS_ret, ↓wS_iff, ↓wS_brk, ↓wS_rais, ↓wS_newd, ↓wS_skip, ↓wS_app, ↓wS_ext, ↓wS_aug, ownK_eq, lstD_eq, augK_add, augK_sub, ↓wSs_nil, ↓wSs_cons, ↓whl_eq, ↓fr_eq, b_add, b_sub, b_mul, b_div, b_mod, b_pow, b_addT, b_addL, c_lt, c_le, c_gt, c_ge, c_eq, c_ne, f_abs, f_int, f_min, f_len, f_list, f_tuple, set_mk, sl_d, sl_own, sl_tp, dat_d, dat_own, dat_tp, it_tupW, it_lst, it_scr, items_tab, items_wh, is_own, is_tup, is_lst, is_scr, is_cell, is_tab, is_wh, ln_own, ln_tup, ln_lst, ln_scr, ln_dk, ln_tab, ln_wh, set_d, set_own, set_dk, set_tp, hide1, hide2, putT1, putT2, putT3, sl1, sl2, back1, back2, gone_unW, gone_dW, gone_ownW, setA0, setA1, List.map_cons, List.map_nil, List.length_cons, List.length_nil, List.cons_append, List.nil_append, List.getElem?_cons_zero, List.getElem?_cons_succ, List.replicate_succ, List.replicate_zero, List.set_cons_zero, List.set_cons_succ, exists_eq_left, exists_eq_left', Option.some.injEq, Sl.own.injEq, exists_eq', and_true, true_and, Nat.reduceAdd, Nat.reduceSub, Nat.zero_add])
    refine call_of h1 ⟨y, _, rfl, p2, by decide +kernel, ?_⟩
    cases e2 : isTb y with
    | false => rw [e2] at hq; exact hq
    | true =>
      rw [e2, if_pos rfl] at hq
      rw [if_pos rfl]
      (try simp -dsimp only [kK_eq, optK_some, blK_eq, intK_eq, strK_eq, iteK_t, iteK_f, andK_t, sK_some, valS_d, valS_own, valS_tp, ↓wE_v, ↓wE_k, ↓wE_bin, ↓wE_neg, ↓wE_no, ↓wE_cmp, ↓wE_chn, ↓wE_isN, ↓wE_ntN, ↓wE_and, ↓wE_or, ↓wE_orT, ↓wE_ite, ↓wE_call, ↓wE_callk, ↓wE_refused, ↓wE_callc, ↓wE_bi, ↓wE_isi, ↓wE_lenv, ↓wE_ixv, ↓wE_ix, ↓wE_sl, ↓wE_rev, ↓wE_tup, ↓wE_tpl, ↓wE_lst, ↓wE_vtp, ↓wE_index, ↓wE_lrng, ↓wE_sset, ↓comp_eq, ↓allg_eq, lstK_eq, cutK_tup, cutK_lst, cutK_scr, revK_tup, revK_lst, vtpK_tp, ↓wEs_nil, ↓wEs_cons, ↓wVs_nil, ↓wVs_cons, ↓wO_no, ↓wO_yes, ↓wC_no, ↓wC_yes, ↓wI_it, ↓wI_r1, ↓wI_r2, r2K_eq, ↓wI_r3, ↓wI_zip, ↓wS_asg, ↓wS_par, ↓wS_unp, ↓wS_setv, ↓wS_swp, ↓wS_ex, ↓wS_ret, ↓wS_iff, ↓wS_brk, ↓wS_rais, ↓wS_newd, ↓wS_skip, ↓wS_app, ↓wS_ext, ↓wS_aug, ownK_eq, lstD_eq, augK_add, augK_sub, ↓wSs_nil, ↓wSs_cons, ↓whl_eq, ↓fr_eq, b_add, b_sub, b_mul, b_div, b_mod, b_pow, b_addT, b_addL, c_lt, c_le, c_gt, c_ge, c_eq, c_ne, f_abs, f_int, f_min, f_len, f_list, f_tuple, set_mk, sl_d, sl_own, sl_tp, dat_d, dat_own, dat_tp, it_tupW, it_lst, it_scr, items_tab, items_wh, is_own, is_tup, is_lst, is_scr, is_cell, is_tab, is_wh, ln_own, ln_tup, ln_lst, ln_scr, ln_dk, ln_tab, ln_wh, set_d, set_own, set_dk, set_tp, hide1, hide2, putT1, putT2, putT3, sl1, sl2, back1, back2, gone_unW, gone_dW, gone_ownW, setA0, setA1, List.map_cons, List.map_nil, List.length_cons, List.length_nil, List.cons_append, List.nil_append, List.getElem?_cons_zero, List.getElem?_cons_succ, List.replicate_succ, List.replicate_zero, List.set_cons_zero, List.set_cons_succ, exists_eq_left, exists_eq_left', Option.some.injEq, Sl.own.injEq, exists_eq', and_true, true_and, Nat.reduceAdd, Nat.reduceSub, Nat.zero_add])
      obtain ⟨z1, z2, hq⟩ := hq
      refine call_of h2 ⟨unT x, unT y, ?_, tz_of e1 z1, tz_of e2 z2, hq⟩
      rw [← (isTb_tab e1).1, ← (isTb_tab e2).1]
def sp_same : Spec := fun ds c Q E => ∃ x y, ds = [x, y] ∧ x.plain = true ∧ y.plain = true ∧ if isTb x = true then (if isTb y = true then (SzOk (unT x) ∧ SzOk (unT y) ∧ Q (.d (.bl (firstU (unl (unT x) (unT y)) 0 (cyc (unT x ++ unT y))).isNone)) c) else E "other" c) else E "one" c
theorem optN_non (o : Option Nat) : (optN o).isNon = o.isNone := by cases o <;> rfl
theorem k_same (h1 : Sg "need_table" = sp_need_table) (h2 : Sg "unlike_of" = sp_unlike_of) : Keeps Sg 2 b_same_for_ever sp_same := by
  rintro ds c Q E ⟨x, y, rfl, p1, p2, hq⟩
  unfold b_same_for_ever
  (try simp -dsimp only [kK_eq, optK_some, blK_eq, intK_eq, strK_eq, iteK_t, iteK_f, andK_t, sK_some, valS_d, valS_own, valS_tp, ↓wE_v, ↓wE_k, ↓wE_bin, ↓wE_neg, ↓wE_no, ↓wE_cmp, ↓wE_chn, ↓wE_isN, ↓wE_ntN, ↓wE_and, ↓wE_or, ↓wE_orT, ↓wE_ite, ↓wE_call, ↓wE_callk, ↓wE_refused, ↓wE_callc, ↓wE_bi, ↓wE_isi, ↓wE_lenv, ↓wE_ixv, ↓wE_ix, ↓wE_sl, ↓wE_rev, ↓wE_tup, ↓wE_tpl, ↓wE_lst, ↓wE_vtp, ↓wE_index, ↓wE_lrng, ↓wE_sset, ↓comp_eq, ↓allg_eq, lstK_eq, cutK_tup, cutK_lst, cutK_scr, revK_tup, revK_lst, vtpK_tp, ↓wEs_nil, ↓wEs_cons, ↓wVs_nil, ↓wVs_cons, ↓wO_no, ↓wO_yes, ↓wC_no, ↓wC_yes, ↓wI_it, ↓wI_r1, ↓wI_r2, r2K_eq, ↓wI_r3, ↓wI_zip, ↓wS_asg, ↓wS_par, ↓wS_unp, ↓wS_setv, ↓wS_swp, ↓wS_ex, ↓wS_ret, ↓wS_iff, ↓wS_brk, ↓wS_rais, ↓wS_newd, ↓wS_skip, ↓wS_app, ↓wS_ext, ↓wS_aug, ownK_eq, lstD_eq, augK_add, augK_sub, ↓wSs_nil, ↓wSs_cons, ↓whl_eq, ↓fr_eq, b_add, b_sub, b_mul, b_div, b_mod, b_pow, b_addT, b_addL, c_lt, c_le, c_gt, c_ge, c_eq, c_ne, f_abs, f_int, f_min, f_len, f_list, f_tuple, set_mk, sl_d, sl_own, sl_tp, dat_d, dat_own, dat_tp, it_tupW, it_lst, it_scr, items_tab, items_wh, is_own, is_tup, is_lst, is_scr, is_cell, is_tab, is_wh, ln_own, ln_tup, ln_lst, ln_scr, ln_dk, ln_tab, ln_wh, set_d, set_own, set_dk, set_tp, hide1, hide2, putT1, putT2, putT3, sl1, sl2, back1, back2, gone_unW, gone_dW, gone_ownW, setA0, setA1, List.map_cons, List.map_nil, List.length_cons, List.length_nil, List.cons_append, List.nil_append, List.getElem?_cons_zero, List.getElem?_cons_succ, List.replicate_succ, List.replicate_zero, List.set_cons_zero, List.set_cons_succ, exists_eq_left, exists_eq_left', Option.some.injEq, Sl.own.injEq, exists_eq', and_true, true_and, Nat.reduceAdd, Nat.reduceSub, Nat.zero_add])
  refine call_of h1 ⟨x, _, rfl, p1, by decide +kernel, ?_⟩
  cases e1 : isTb x with
  | false => rw [e1] at hq; exact hq
  | true =>
    rw [e1, if_pos rfl] at hq
    rw [if_pos rfl]
    (try simp -dsimp only [kK_eq, optK_some, blK_eq, intK_eq, strK_eq, iteK_t, iteK_f, andK_t, sK_some, valS_d, valS_own, valS_tp, ↓wE_v, ↓wE_k, ↓wE_bin, ↓wE_neg, ↓wE_no, ↓wE_cmp, ↓wE_chn, ↓wE_isN, ↓wE_ntN, ↓wE_and, ↓wE_or, ↓wE_orT, ↓wE_ite, ↓wE_call, ↓wE_callk, ↓wE_refused, ↓wE_callc, ↓wE_bi, ↓wE_isi, ↓wE_lenv, ↓wE_ixv, ↓wE_ix, ↓wE_sl, ↓wE_rev, ↓wE_tup, ↓wE_tpl, ↓wE_lst, ↓wE_vtp, ↓wE_index, ↓wE_lrng, ↓wE_sset, ↓comp_eq, ↓allg_eq, lstK_eq, cutK_tup, cutK_lst, cutK_scr, revK_tup, revK_lst, vtpK_tp, ↓wEs_nil, ↓wEs_cons, ↓wVs_nil, ↓wVs_cons, ↓wO_no, ↓wO_yes, ↓wC_no, ↓wC_yes, ↓wI_it, ↓wI_r1, ↓wI_r2, r2K_eq, ↓wI_r3, ↓wI_zip, ↓wS_asg, ↓wS_par, ↓wS_unp, ↓wS_setv, ↓wS_swp, ↓wS_ex, ↓wS_ret, ↓wS_iff, ↓wS_brk, ↓wS_rais, ↓wS_newd, ↓wS_skip, ↓wS_app, ↓wS_ext, ↓wS_aug, ownK_eq, lstD_eq, augK_add, augK_sub, ↓wSs_nil, ↓wSs_cons, ↓whl_eq, ↓fr_eq, b_add, b_sub, b_mul, b_div, b_mod, b_pow, b_addT, b_addL, c_lt, c_le, c_gt, c_ge, c_eq, c_ne, f_abs, f_int, f_min, f_len, f_list, f_tuple, set_mk, sl_d, sl_own, sl_tp, dat_d, dat_own, dat_tp, it_tupW, it_lst, it_scr, items_tab, items_wh, is_own, is_tup, is_lst, is_scr, is_cell, is_tab, is_wh, ln_own, ln_tup, ln_lst, ln_scr, ln_dk, ln_tab, ln_wh, set_d, set_own, set_dk, set_tp, hide1, hide2, putT1, putT2, putT3, sl1, sl2, back1, back2, gone_unW, gone_dW, gone_ownW, setA0, setA1, List.map_cons, List.map_nil, List.length_cons, List.length_nil, List.cons_append, List.nil_append, List.getElem?_cons_zero, List.getElem?_cons_succ, List.replicate_succ, List.replicate_zero, List.set_cons_zero, List.set_cons_succ, exists_eq_left, exists_eq_left', Option.some.injEq, Sl.own.injEq, exists_eq', and_true, true_and, Nat.reduceAdd, Nat.reduceSub, Nat.zero_add])
    refine call_of h1 ⟨y, _, rfl, p2, by decide +kernel, ?_⟩
    cases e2 : isTb y with
    | false => rw [e2] at hq; exact hq
    | true =>
      rw [e2, if_pos rfl] at hq
      rw [if_pos rfl]
      (try simp -dsimp only [kK_eq, optK_some, blK_eq, intK_eq, strK_eq, iteK_t, iteK_f, andK_t, sK_some, valS_d, valS_own, valS_tp, ↓wE_v, ↓wE_k, ↓wE_bin, ↓wE_neg, ↓wE_no, ↓wE_cmp, ↓wE_chn, ↓wE_isN, ↓wE_ntN, ↓wE_and, ↓wE_or, ↓wE_orT, ↓wE_ite, ↓wE_call, ↓wE_callk, ↓wE_refused, ↓wE_callc, ↓wE_bi, ↓wE_isi, ↓wE_lenv, ↓wE_ixv, ↓wE_ix, ↓wE_sl, ↓wE_rev, ↓wE_tup, ↓wE_tpl, ↓wE_lst, ↓wE_vtp, ↓wE_index, ↓wE_lrng, ↓wE_sset, ↓comp_eq, ↓allg_eq, lstK_eq, cutK_tup, cutK_lst, cutK_scr, revK_tup, revK_lst, vtpK_tp, ↓wEs_nil, ↓wEs_cons, ↓wVs_nil, ↓wVs_cons, ↓wO_no, ↓wO_yes, ↓wC_no, ↓wC_yes, ↓wI_it, ↓wI_r1, ↓wI_r2, r2K_eq, ↓wI_r3, ↓wI_zip, ↓wS_asg, ↓wS_par, ↓wS_unp, ↓wS_setv, ↓wS_swp, ↓wS_ex, ↓wS_ret, ↓wS_iff, ↓wS_brk, ↓wS_rais, ↓wS_newd, ↓wS_skip, ↓wS_app, ↓wS_ext, ↓wS_aug, ownK_eq, lstD_eq, augK_add, augK_sub, ↓wSs_nil, ↓wSs_cons, ↓whl_eq, ↓fr_eq, b_add, b_sub, b_mul, b_div, b_mod, b_pow, b_addT, b_addL, c_lt, c_le, c_gt, c_ge, c_eq, c_ne, f_abs, f_int, f_min, f_len, f_list, f_tuple, set_mk, sl_d, sl_own, sl_tp, dat_d, dat_own, dat_tp, it_tupW, it_lst, it_scr, items_tab, items_wh, is_own, is_tup, is_lst, is_scr, is_cell, is_tab, is_wh, ln_own, ln_tup, ln_lst, ln_scr, ln_dk, ln_tab, ln_wh, set_d, set_own, set_dk, set_tp, hide1, hide2, putT1, putT2, putT3, sl1, sl2, back1, back2, gone_unW, gone_dW, gone_ownW, setA0, setA1, List.map_cons, List.map_nil, List.length_cons, List.length_nil, List.cons_append, List.nil_append, List.getElem?_cons_zero, List.getElem?_cons_succ, List.replicate_succ, List.replicate_zero, List.set_cons_zero, List.set_cons_succ, exists_eq_left, exists_eq_left', Option.some.injEq, Sl.own.injEq, exists_eq', and_true, true_and, Nat.reduceAdd, Nat.reduceSub, Nat.zero_add])
      obtain ⟨z1, z2, hq⟩ := hq
      refine call_of h2 ⟨unT x, unT y, ?_, tz_of e1 z1, tz_of e2 z2, ?_⟩
      · rw [← (isTb_tab e1).1, ← (isTb_tab e2).1]
      · (try simp -dsimp only [kK_eq, optK_some, blK_eq, intK_eq, strK_eq, iteK_t, iteK_f, andK_t, sK_some, valS_d, valS_own, valS_tp, ↓wE_v, ↓wE_k, ↓wE_bin, ↓wE_neg, ↓wE_no, ↓wE_cmp, ↓wE_chn, ↓wE_isN, ↓wE_ntN, ↓wE_and, ↓wE_or, ↓wE_orT, ↓wE_ite, ↓wE_call, ↓wE_callk, ↓wE_refused, ↓wE_callc, ↓wE_bi, ↓wE_isi, ↓wE_lenv, ↓wE_ixv, ↓wE_ix, ↓wE_sl, ↓wE_rev, ↓wE_tup, ↓wE_tpl, ↓wE_lst, ↓wE_vtp, ↓wE_index, ↓wE_lrng, ↓wE_sset, ↓comp_eq, ↓allg_eq, lstK_eq, cutK_tup, cutK_lst, cutK_scr, revK_tup, revK_lst, vtpK_tp, ↓wEs_nil, ↓wEs_cons, ↓wVs_nil, ↓wVs_cons, ↓wO_no, ↓wO_yes, ↓wC_no, ↓wC_yes, ↓wI_it, ↓wI_r1, ↓wI_r2, r2K_eq, ↓wI_r3, ↓wI_zip, ↓wS_asg, ↓wS_par, ↓wS_unp, ↓wS_setv, ↓wS_swp, ↓wS_ex, ↓wS_ret, ↓wS_iff, ↓wS_brk, ↓wS_rais, ↓wS_newd, ↓wS_skip, ↓wS_app, ↓wS_ext, ↓wS_aug, ownK_eq, lstD_eq, augK_add, augK_sub, ↓wSs_nil, ↓wSs_cons, ↓whl_eq, ↓fr_eq, b_add, b_sub, b_mul, b_div, b_mod, b_pow, b_addT, b_addL, c_lt, c_le, c_gt, c_ge, c_eq, c_ne, f_abs, f_int, f_min, f_len, f_list, f_tuple, set_mk, sl_d, sl_own, sl_tp, dat_d, dat_own, dat_tp, it_tupW, it_lst, it_scr, items_tab, items_wh, is_own, is_tup, is_lst, is_scr, is_cell, is_tab, is_wh, ln_own, ln_tup, ln_lst, ln_scr, ln_dk, ln_tab, ln_wh, set_d, set_own, set_dk, set_tp, hide1, hide2, putT1, putT2, putT3, sl1, sl2, back1, back2, gone_unW, gone_dW, gone_ownW, setA0, setA1, List.map_cons, List.map_nil, List.length_cons, List.length_nil, List.cons_append, List.nil_append, List.getElem?_cons_zero, List.getElem?_cons_succ, List.replicate_succ, List.replicate_zero, List.set_cons_zero, List.set_cons_succ, exists_eq_left, exists_eq_left', Option.some.injEq, Sl.own.injEq, exists_eq', and_true, true_and, Nat.reduceAdd, Nat.reduceSub, Nat.zero_add, optN_non])
        exact hq
def sp_returns : Spec := fun ds c Q E => ∃ (T : List (List Int)) (m : Nat), ds = [tabD T, .int m] ∧ TZ T ∧ ∀ b : Bool, (b = true ↔ Per T m) → Q (.d (.bl b)) c
theorem firstU_nil {A B : List (List Int)} (hA : SzOk A) (hB : SzOk B) : (firstU (unl A B) 0 (cyc (A ++ B))).isNone = true ↔ ∀ t : Nat, hgt A t = hgt B t := by
  have hc : 0 < cyc (A ++ B) := cyc_pos fun w hw => sz_pos _ (hA.app hB w hw)
  rw [Option.isNone_iff_eq_none, firstU_none]
  constructor
  · intro h t
    exact unl_f.mp (unl_cyc hc (fun s hs => h s (Nat.zero_le _) (by omega)) t)
  · exact fun h s _ _ => unl_f.mpr (h s)
theorem turn_sz {T : List (List Int)} {m : Nat} (h : SzOk T) : SzOk (T.map (turn m)) := fun w hw => by
  obtain ⟨v, hv, rfl⟩ := List.mem_map.mp hw
  rw [turn_len]
  exact h v hv
theorem k_returns (h1 : Sg "turned_by" = sp_turned_by) (h2 : Sg "unlike_of" = sp_unlike_of) : Keeps Sg 3 b_returns_after sp_returns := by
  rintro ds c Q E ⟨T, m, rfl, hT, hq⟩
  unfold b_returns_after
  have hl := hT.1
  (try simp -dsimp only [kK_eq, optK_some, blK_eq, intK_eq, strK_eq, iteK_t, iteK_f, andK_t, sK_some, valS_d, valS_own, valS_tp, ↓wE_v, ↓wE_k, ↓wE_bin, ↓wE_neg, ↓wE_no, ↓wE_cmp, ↓wE_chn, ↓wE_isN, ↓wE_ntN, ↓wE_and, ↓wE_or, ↓wE_orT, ↓wE_ite, ↓wE_call, ↓wE_callk, ↓wE_refused, ↓wE_callc, ↓wE_bi, ↓wE_isi, ↓wE_lenv, ↓wE_ixv, ↓wE_ix, ↓wE_sl, ↓wE_rev, ↓wE_tup, ↓wE_tpl, ↓wE_lst, ↓wE_vtp, ↓wE_index, ↓wE_lrng, ↓wE_sset, ↓comp_eq, ↓allg_eq, lstK_eq, cutK_tup, cutK_lst, cutK_scr, revK_tup, revK_lst, vtpK_tp, ↓wEs_nil, ↓wEs_cons, ↓wVs_nil, ↓wVs_cons, ↓wO_no, ↓wO_yes, ↓wC_no, ↓wC_yes, ↓wI_it, ↓wI_r1, ↓wI_r2, r2K_eq, ↓wI_r3, ↓wI_zip, ↓wS_asg, ↓wS_par, ↓wS_unp, ↓wS_setv, ↓wS_swp, ↓wS_ex, ↓wS_ret, ↓wS_iff, ↓wS_brk, ↓wS_rais, ↓wS_newd, ↓wS_skip, ↓wS_app, ↓wS_ext, ↓wS_aug, ownK_eq, lstD_eq, augK_add, augK_sub, ↓wSs_nil, ↓wSs_cons, ↓whl_eq, ↓fr_eq, b_add, b_sub, b_mul, b_div, b_mod, b_pow, b_addT, b_addL, c_lt, c_le, c_gt, c_ge, c_eq, c_ne, f_abs, f_int, f_min, f_len, f_list, f_tuple, set_mk, sl_d, sl_own, sl_tp, dat_d, dat_own, dat_tp, it_tupW, it_lst, it_scr, items_tab, items_wh, is_own, is_tup, is_lst, is_scr, is_cell, is_tab, is_wh, ln_own, ln_tup, ln_lst, ln_scr, ln_dk, ln_tab, ln_wh, set_d, set_own, set_dk, set_tp, hide1, hide2, putT1, putT2, putT3, sl1, sl2, back1, back2, gone_unW, gone_dW, gone_ownW, setA0, setA1, List.map_cons, List.map_nil, List.length_cons, List.length_nil, List.cons_append, List.nil_append, List.getElem?_cons_zero, List.getElem?_cons_succ, List.replicate_succ, List.replicate_zero, List.set_cons_zero, List.set_cons_succ, exists_eq_left, exists_eq_left', Option.some.injEq, Sl.own.injEq, exists_eq', and_true, true_and, Nat.reduceAdd, Nat.reduceSub, Nat.zero_add])
  refine comp_ind (fun acc xs st => ∃ (U V : List (List Int)) (s : Sl), T = U ++ V ∧ xs = V.map whD ∧ acc = (U.map (turn m)).map whD ∧ st = ⟨[.d (tabD T), .d (.int m), s], c⟩) (fun x xs acc st hI => ?_) (fun acc st hI => ?_) ⟨[], T, .un, rfl, rfl, rfl, rfl⟩
  · obtain ⟨U, V, s, hU, hx, hacc, rfl⟩ := hI
    cases V with
    | nil => cases hx
    | cons w V =>
      cases hx
      have hlen : acc.length < 100000 := by
        have := congrArg List.length hU
        rw [List.length_append, List.length_cons] at this
        rw [hacc, List.length_map, List.length_map]
        omega
      have hw := hT.ok.2 w (by rw [hU]; simp)
      refine ⟨_, rfl, fun nx n1 n2 => ?_⟩
      rw [wC_no, if_pos rfl]
      (try simp -dsimp only [kK_eq, optK_some, blK_eq, intK_eq, strK_eq, iteK_t, iteK_f, andK_t, sK_some, valS_d, valS_own, valS_tp, ↓wE_v, ↓wE_k, ↓wE_bin, ↓wE_neg, ↓wE_no, ↓wE_cmp, ↓wE_chn, ↓wE_isN, ↓wE_ntN, ↓wE_and, ↓wE_or, ↓wE_orT, ↓wE_ite, ↓wE_call, ↓wE_callk, ↓wE_refused, ↓wE_callc, ↓wE_bi, ↓wE_isi, ↓wE_lenv, ↓wE_ixv, ↓wE_ix, ↓wE_sl, ↓wE_rev, ↓wE_tup, ↓wE_tpl, ↓wE_lst, ↓wE_vtp, ↓wE_index, ↓wE_lrng, ↓wE_sset, ↓comp_eq, ↓allg_eq, lstK_eq, cutK_tup, cutK_lst, cutK_scr, revK_tup, revK_lst, vtpK_tp, ↓wEs_nil, ↓wEs_cons, ↓wVs_nil, ↓wVs_cons, ↓wO_no, ↓wO_yes, ↓wC_no, ↓wC_yes, ↓wI_it, ↓wI_r1, ↓wI_r2, r2K_eq, ↓wI_r3, ↓wI_zip, ↓wS_asg, ↓wS_par, ↓wS_unp, ↓wS_setv, ↓wS_swp, ↓wS_ex, ↓wS_ret, ↓wS_iff, ↓wS_brk, ↓wS_rais, ↓wS_newd, ↓wS_skip, ↓wS_app, ↓wS_ext, ↓wS_aug, ownK_eq, lstD_eq, augK_add, augK_sub, ↓wSs_nil, ↓wSs_cons, ↓whl_eq, ↓fr_eq, b_add, b_sub, b_mul, b_div, b_mod, b_pow, b_addT, b_addL, c_lt, c_le, c_gt, c_ge, c_eq, c_ne, f_abs, f_int, f_min, f_len, f_list, f_tuple, set_mk, sl_d, sl_own, sl_tp, dat_d, dat_own, dat_tp, it_tupW, it_lst, it_scr, items_tab, items_wh, is_own, is_tup, is_lst, is_scr, is_cell, is_tab, is_wh, ln_own, ln_tup, ln_lst, ln_scr, ln_dk, ln_tab, ln_wh, set_d, set_own, set_dk, set_tp, hide1, hide2, putT1, putT2, putT3, sl1, sl2, back1, back2, gone_unW, gone_dW, gone_ownW, setA0, setA1, List.map_cons, List.map_nil, List.length_cons, List.length_nil, List.cons_append, List.nil_append, List.getElem?_cons_zero, List.getElem?_cons_succ, List.replicate_succ, List.replicate_zero, List.set_cons_zero, List.set_cons_succ, exists_eq_left, exists_eq_left', Option.some.injEq, Sl.own.injEq, exists_eq', and_true, true_and, Nat.reduceAdd, Nat.reduceSub, Nat.zero_add])
      refine call_of h1 ⟨w, m, rfl, hw.1, hw.2, ?_⟩
      refine ⟨hlen, n2 _ _ hlen ⟨U ++ [w], V, _, by rw [hU]; simp, rfl, ?_, rfl⟩⟩
      rw [hacc]
      simp [Vl.dat]
  · obtain ⟨U, V, s, hU, hx, hacc, rfl⟩ := hI
    cases V with
    | cons w V => cases hx
    | nil =>
      rw [List.append_nil] at hU
      subst hU
      rw [hacc]
      (try simp -dsimp only [kK_eq, optK_some, blK_eq, intK_eq, strK_eq, iteK_t, iteK_f, andK_t, sK_some, valS_d, valS_own, valS_tp, ↓wE_v, ↓wE_k, ↓wE_bin, ↓wE_neg, ↓wE_no, ↓wE_cmp, ↓wE_chn, ↓wE_isN, ↓wE_ntN, ↓wE_and, ↓wE_or, ↓wE_orT, ↓wE_ite, ↓wE_call, ↓wE_callk, ↓wE_refused, ↓wE_callc, ↓wE_bi, ↓wE_isi, ↓wE_lenv, ↓wE_ixv, ↓wE_ix, ↓wE_sl, ↓wE_rev, ↓wE_tup, ↓wE_tpl, ↓wE_lst, ↓wE_vtp, ↓wE_index, ↓wE_lrng, ↓wE_sset, ↓comp_eq, ↓allg_eq, lstK_eq, cutK_tup, cutK_lst, cutK_scr, revK_tup, revK_lst, vtpK_tp, ↓wEs_nil, ↓wEs_cons, ↓wVs_nil, ↓wVs_cons, ↓wO_no, ↓wO_yes, ↓wC_no, ↓wC_yes, ↓wI_it, ↓wI_r1, ↓wI_r2, r2K_eq, ↓wI_r3, ↓wI_zip, ↓wS_asg, ↓wS_par, ↓wS_unp, ↓wS_setv, ↓wS_swp, ↓wS_ex, ↓wS_ret, ↓wS_iff, ↓wS_brk, ↓wS_rais, ↓wS_newd, ↓wS_skip, ↓wS_app, ↓wS_ext, ↓wS_aug, ownK_eq, lstD_eq, augK_add, augK_sub, ↓wSs_nil, ↓wSs_cons, ↓whl_eq, ↓fr_eq, b_add, b_sub, b_mul, b_div, b_mod, b_pow, b_addT, b_addL, c_lt, c_le, c_gt, c_ge, c_eq, c_ne, f_abs, f_int, f_min, f_len, f_list, f_tuple, set_mk, sl_d, sl_own, sl_tp, dat_d, dat_own, dat_tp, it_tupW, it_lst, it_scr, items_tab, items_wh, is_own, is_tup, is_lst, is_scr, is_cell, is_tab, is_wh, ln_own, ln_tup, ln_lst, ln_scr, ln_dk, ln_tab, ln_wh, set_d, set_own, set_dk, set_tp, hide1, hide2, putT1, putT2, putT3, sl1, sl2, back1, back2, gone_unW, gone_dW, gone_ownW, setA0, setA1, List.map_cons, List.map_nil, List.length_cons, List.length_nil, List.cons_append, List.nil_append, List.getElem?_cons_zero, List.getElem?_cons_succ, List.replicate_succ, List.replicate_zero, List.set_cons_zero, List.set_cons_succ, exists_eq_left, exists_eq_left', Option.some.injEq, Sl.own.injEq, exists_eq', and_true, true_and, Nat.reduceAdd, Nat.reduceSub, Nat.zero_add])
      refine call_of h2 ⟨T, T.map (turn m), rfl, hT, ⟨by rw [List.length_map]; exact hl, turn_sz hT.2⟩, ?_⟩
      (try simp -dsimp only [kK_eq, optK_some, blK_eq, intK_eq, strK_eq, iteK_t, iteK_f, andK_t, sK_some, valS_d, valS_own, valS_tp, ↓wE_v, ↓wE_k, ↓wE_bin, ↓wE_neg, ↓wE_no, ↓wE_cmp, ↓wE_chn, ↓wE_isN, ↓wE_ntN, ↓wE_and, ↓wE_or, ↓wE_orT, ↓wE_ite, ↓wE_call, ↓wE_callk, ↓wE_refused, ↓wE_callc, ↓wE_bi, ↓wE_isi, ↓wE_lenv, ↓wE_ixv, ↓wE_ix, ↓wE_sl, ↓wE_rev, ↓wE_tup, ↓wE_tpl, ↓wE_lst, ↓wE_vtp, ↓wE_index, ↓wE_lrng, ↓wE_sset, ↓comp_eq, ↓allg_eq, lstK_eq, cutK_tup, cutK_lst, cutK_scr, revK_tup, revK_lst, vtpK_tp, ↓wEs_nil, ↓wEs_cons, ↓wVs_nil, ↓wVs_cons, ↓wO_no, ↓wO_yes, ↓wC_no, ↓wC_yes, ↓wI_it, ↓wI_r1, ↓wI_r2, r2K_eq, ↓wI_r3, ↓wI_zip, ↓wS_asg, ↓wS_par, ↓wS_unp, ↓wS_setv, ↓wS_swp, ↓wS_ex, ↓wS_ret, ↓wS_iff, ↓wS_brk, ↓wS_rais, ↓wS_newd, ↓wS_skip, ↓wS_app, ↓wS_ext, ↓wS_aug, ownK_eq, lstD_eq, augK_add, augK_sub, ↓wSs_nil, ↓wSs_cons, ↓whl_eq, ↓fr_eq, b_add, b_sub, b_mul, b_div, b_mod, b_pow, b_addT, b_addL, c_lt, c_le, c_gt, c_ge, c_eq, c_ne, f_abs, f_int, f_min, f_len, f_list, f_tuple, set_mk, sl_d, sl_own, sl_tp, dat_d, dat_own, dat_tp, it_tupW, it_lst, it_scr, items_tab, items_wh, is_own, is_tup, is_lst, is_scr, is_cell, is_tab, is_wh, ln_own, ln_tup, ln_lst, ln_scr, ln_dk, ln_tab, ln_wh, set_d, set_own, set_dk, set_tp, hide1, hide2, putT1, putT2, putT3, sl1, sl2, back1, back2, gone_unW, gone_dW, gone_ownW, setA0, setA1, List.map_cons, List.map_nil, List.length_cons, List.length_nil, List.cons_append, List.nil_append, List.getElem?_cons_zero, List.getElem?_cons_succ, List.replicate_succ, List.replicate_zero, List.set_cons_zero, List.set_cons_succ, exists_eq_left, exists_eq_left', Option.some.injEq, Sl.own.injEq, exists_eq', and_true, true_and, Nat.reduceAdd, Nat.reduceSub, Nat.zero_add, optN_non])
      refine hq _ ?_
      rw [firstU_nil hT.2 (turn_sz hT.2)]
      have hp : ∀ w ∈ T, 0 < w.length := fun w hw => (hT.ok.2 w hw).1
      constructor
      · intro h t
        rw [← hgt_turn hp]
        exact (h t).symm
      · intro h t
        rw [hgt_turn hp]
        exact (h t).symm
def sp_least : Spec := fun ds c Q E => ∃ x, ds = [x] ∧ x.plain = true ∧ if isTb x = true then (SzOk (unT x) ∧ ∀ m : Nat, Least (unT x) m → Q (.d (.int m)) c) else E "table" c
theorem k_least (h1 : Sg "need_table" = sp_need_table) (h2 : Sg "cycle_of" = sp_cycle_of) (h3 : Sg "returns_after" = sp_returns) : Keeps Sg 3 b_least_period sp_least := by
  rintro ds c Q E ⟨x, rfl, p1, hq⟩
  unfold b_least_period
  (try simp -dsimp only [kK_eq, optK_some, blK_eq, intK_eq, strK_eq, iteK_t, iteK_f, andK_t, sK_some, valS_d, valS_own, valS_tp, ↓wE_v, ↓wE_k, ↓wE_bin, ↓wE_neg, ↓wE_no, ↓wE_cmp, ↓wE_chn, ↓wE_isN, ↓wE_ntN, ↓wE_and, ↓wE_or, ↓wE_orT, ↓wE_ite, ↓wE_call, ↓wE_callk, ↓wE_refused, ↓wE_callc, ↓wE_bi, ↓wE_isi, ↓wE_lenv, ↓wE_ixv, ↓wE_ix, ↓wE_sl, ↓wE_rev, ↓wE_tup, ↓wE_tpl, ↓wE_lst, ↓wE_vtp, ↓wE_index, ↓wE_lrng, ↓wE_sset, ↓comp_eq, ↓allg_eq, lstK_eq, cutK_tup, cutK_lst, cutK_scr, revK_tup, revK_lst, vtpK_tp, ↓wEs_nil, ↓wEs_cons, ↓wVs_nil, ↓wVs_cons, ↓wO_no, ↓wO_yes, ↓wC_no, ↓wC_yes, ↓wI_it, ↓wI_r1, ↓wI_r2, r2K_eq, ↓wI_r3, ↓wI_zip, ↓wS_asg, ↓wS_par, ↓wS_unp, ↓wS_setv, ↓wS_swp, ↓wS_ex, ↓wS_ret, ↓wS_iff, ↓wS_brk, ↓wS_rais, ↓wS_newd, ↓wS_skip, ↓wS_app, ↓wS_ext, ↓wS_aug, ownK_eq, lstD_eq, augK_add, augK_sub, ↓wSs_nil, ↓wSs_cons, ↓whl_eq, ↓fr_eq, b_add, b_sub, b_mul, b_div, b_mod, b_pow, b_addT, b_addL, c_lt, c_le, c_gt, c_ge, c_eq, c_ne, f_abs, f_int, f_min, f_len, f_list, f_tuple, set_mk, sl_d, sl_own, sl_tp, dat_d, dat_own, dat_tp, it_tupW, it_lst, it_scr, items_tab, items_wh, is_own, is_tup, is_lst, is_scr, is_cell, is_tab, is_wh, ln_own, ln_tup, ln_lst, ln_scr, ln_dk, ln_tab, ln_wh, set_d, set_own, set_dk, set_tp, hide1, hide2, putT1, putT2, putT3, sl1, sl2, back1, back2, gone_unW, gone_dW, gone_ownW, setA0, setA1, List.map_cons, List.map_nil, List.length_cons, List.length_nil, List.cons_append, List.nil_append, List.getElem?_cons_zero, List.getElem?_cons_succ, List.replicate_succ, List.replicate_zero, List.set_cons_zero, List.set_cons_succ, exists_eq_left, exists_eq_left', Option.some.injEq, Sl.own.injEq, exists_eq', and_true, true_and, Nat.reduceAdd, Nat.reduceSub, Nat.zero_add])
  refine call_of h1 ⟨x, _, rfl, p1, by decide +kernel, ?_⟩
  cases e1 : isTb x with
  | false => rw [e1] at hq; exact hq
  | true =>
    rw [e1, if_pos rfl] at hq
    rw [if_pos rfl]
    obtain ⟨hz, hq⟩ := hq
    have hT := tz_of e1 hz
    have h8 : ∀ w ∈ unT x, 0 < w.length ∧ w.length ≤ 60 := (isTb_tab e1).2.2
    have et := (isTb_tab e1).1
    have hlc : cyc (unT x) ≤ 2 ^ 120 := (isTb_ts e1).cyc_lt
    generalize unT x = T at *
    subst et
    (try simp -dsimp only [kK_eq, optK_some, blK_eq, intK_eq, strK_eq, iteK_t, iteK_f, andK_t, sK_some, valS_d, valS_own, valS_tp, ↓wE_v, ↓wE_k, ↓wE_bin, ↓wE_neg, ↓wE_no, ↓wE_cmp, ↓wE_chn, ↓wE_isN, ↓wE_ntN, ↓wE_and, ↓wE_or, ↓wE_orT, ↓wE_ite, ↓wE_call, ↓wE_callk, ↓wE_refused, ↓wE_callc, ↓wE_bi, ↓wE_isi, ↓wE_lenv, ↓wE_ixv, ↓wE_ix, ↓wE_sl, ↓wE_rev, ↓wE_tup, ↓wE_tpl, ↓wE_lst, ↓wE_vtp, ↓wE_index, ↓wE_lrng, ↓wE_sset, ↓comp_eq, ↓allg_eq, lstK_eq, cutK_tup, cutK_lst, cutK_scr, revK_tup, revK_lst, vtpK_tp, ↓wEs_nil, ↓wEs_cons, ↓wVs_nil, ↓wVs_cons, ↓wO_no, ↓wO_yes, ↓wC_no, ↓wC_yes, ↓wI_it, ↓wI_r1, ↓wI_r2, r2K_eq, ↓wI_r3, ↓wI_zip, ↓wS_asg, ↓wS_par, ↓wS_unp, ↓wS_setv, ↓wS_swp, ↓wS_ex, ↓wS_ret, ↓wS_iff, ↓wS_brk, ↓wS_rais, ↓wS_newd, ↓wS_skip, ↓wS_app, ↓wS_ext, ↓wS_aug, ownK_eq, lstD_eq, augK_add, augK_sub, ↓wSs_nil, ↓wSs_cons, ↓whl_eq, ↓fr_eq, b_add, b_sub, b_mul, b_div, b_mod, b_pow, b_addT, b_addL, c_lt, c_le, c_gt, c_ge, c_eq, c_ne, f_abs, f_int, f_min, f_len, f_list, f_tuple, set_mk, sl_d, sl_own, sl_tp, dat_d, dat_own, dat_tp, it_tupW, it_lst, it_scr, items_tab, items_wh, is_own, is_tup, is_lst, is_scr, is_cell, is_tab, is_wh, ln_own, ln_tup, ln_lst, ln_scr, ln_dk, ln_tab, ln_wh, set_d, set_own, set_dk, set_tp, hide1, hide2, putT1, putT2, putT3, sl1, sl2, back1, back2, gone_unW, gone_dW, gone_ownW, setA0, setA1, List.map_cons, List.map_nil, List.length_cons, List.length_nil, List.cons_append, List.nil_append, List.getElem?_cons_zero, List.getElem?_cons_succ, List.replicate_succ, List.replicate_zero, List.set_cons_zero, List.set_cons_succ, exists_eq_left, exists_eq_left', Option.some.injEq, Sl.own.injEq, exists_eq', and_true, true_and, Nat.reduceAdd, Nat.reduceSub, Nat.zero_add])
    refine call_of h2 ⟨T, rfl, hT.ok, ?_⟩
    (try simp -dsimp only [kK_eq, optK_some, blK_eq, intK_eq, strK_eq, iteK_t, iteK_f, andK_t, sK_some, valS_d, valS_own, valS_tp, ↓wE_v, ↓wE_k, ↓wE_bin, ↓wE_neg, ↓wE_no, ↓wE_cmp, ↓wE_chn, ↓wE_isN, ↓wE_ntN, ↓wE_and, ↓wE_or, ↓wE_orT, ↓wE_ite, ↓wE_call, ↓wE_callk, ↓wE_refused, ↓wE_callc, ↓wE_bi, ↓wE_isi, ↓wE_lenv, ↓wE_ixv, ↓wE_ix, ↓wE_sl, ↓wE_rev, ↓wE_tup, ↓wE_tpl, ↓wE_lst, ↓wE_vtp, ↓wE_index, ↓wE_lrng, ↓wE_sset, ↓comp_eq, ↓allg_eq, lstK_eq, cutK_tup, cutK_lst, cutK_scr, revK_tup, revK_lst, vtpK_tp, ↓wEs_nil, ↓wEs_cons, ↓wVs_nil, ↓wVs_cons, ↓wO_no, ↓wO_yes, ↓wC_no, ↓wC_yes, ↓wI_it, ↓wI_r1, ↓wI_r2, r2K_eq, ↓wI_r3, ↓wI_zip, ↓wS_asg, ↓wS_par, ↓wS_unp, ↓wS_setv, ↓wS_swp, ↓wS_ex, ↓wS_ret, ↓wS_iff, ↓wS_brk, ↓wS_rais, ↓wS_newd, ↓wS_skip, ↓wS_app, ↓wS_ext, ↓wS_aug, ownK_eq, lstD_eq, augK_add, augK_sub, ↓wSs_nil, ↓wSs_cons, ↓whl_eq, ↓fr_eq, b_add, b_sub, b_mul, b_div, b_mod, b_pow, b_addT, b_addL, c_lt, c_le, c_gt, c_ge, c_eq, c_ne, f_abs, f_int, f_min, f_len, f_list, f_tuple, set_mk, sl_d, sl_own, sl_tp, dat_d, dat_own, dat_tp, it_tupW, it_lst, it_scr, items_tab, items_wh, is_own, is_tup, is_lst, is_scr, is_cell, is_tab, is_wh, ln_own, ln_tup, ln_lst, ln_scr, ln_dk, ln_tab, ln_wh, set_d, set_own, set_dk, set_tp, hide1, hide2, putT1, putT2, putT3, sl1, sl2, back1, back2, gone_unW, gone_dW, gone_ownW, setA0, setA1, List.map_cons, List.map_nil, List.length_cons, List.length_nil, List.cons_append, List.nil_append, List.getElem?_cons_zero, List.getElem?_cons_succ, List.replicate_succ, List.replicate_zero, List.set_cons_zero, List.set_cons_succ, exists_eq_left, exists_eq_left', Option.some.injEq, Sl.own.injEq, exists_eq', and_true, true_and, Nat.reduceAdd, Nat.reduceSub, Nat.zero_add])
    refine whl_ind (fun m st => ∃ f p : Nat, 0 < f ∧ f ∣ cyc T ∧ Per T f ∧ 2 ≤ p ∧ p + m = 61 ∧ (∀ q, 2 ≤ q → q < p → q ∣ f → ¬ Per T (f / q)) ∧ st = ⟨[.d (tabD T), .d (.int f), .d (.int p)], c⟩) (fun m st hW => ?_) (m := 59) ⟨cyc T, 2, cyc_pos fun w hw => (h8 w hw).1, Nat.dvd_refl _, per_cyc T, by omega, by omega, fun q h2 h3 => by omega, rfl⟩
    obtain ⟨f, p, hf, hd, hP, hp2, hpm, hq2, rfl⟩ := hW
    (try simp -dsimp only [kK_eq, optK_some, blK_eq, intK_eq, strK_eq, iteK_t, iteK_f, andK_t, sK_some, valS_d, valS_own, valS_tp, ↓wE_v, ↓wE_k, ↓wE_bin, ↓wE_neg, ↓wE_no, ↓wE_cmp, ↓wE_chn, ↓wE_isN, ↓wE_ntN, ↓wE_and, ↓wE_or, ↓wE_orT, ↓wE_ite, ↓wE_call, ↓wE_callk, ↓wE_refused, ↓wE_callc, ↓wE_bi, ↓wE_isi, ↓wE_lenv, ↓wE_ixv, ↓wE_ix, ↓wE_sl, ↓wE_rev, ↓wE_tup, ↓wE_tpl, ↓wE_lst, ↓wE_vtp, ↓wE_index, ↓wE_lrng, ↓wE_sset, ↓comp_eq, ↓allg_eq, lstK_eq, cutK_tup, cutK_lst, cutK_scr, revK_tup, revK_lst, vtpK_tp, ↓wEs_nil, ↓wEs_cons, ↓wVs_nil, ↓wVs_cons, ↓wO_no, ↓wO_yes, ↓wC_no, ↓wC_yes, ↓wI_it, ↓wI_r1, ↓wI_r2, r2K_eq, ↓wI_r3, ↓wI_zip, ↓wS_asg, ↓wS_par, ↓wS_unp, ↓wS_setv, ↓wS_swp, ↓wS_ex, ↓wS_ret, ↓wS_iff, ↓wS_brk, ↓wS_rais, ↓wS_newd, ↓wS_skip, ↓wS_app, ↓wS_ext, ↓wS_aug, ownK_eq, lstD_eq, augK_add, augK_sub, ↓wSs_nil, ↓wSs_cons, ↓whl_eq, ↓fr_eq, b_add, b_sub, b_mul, b_div, b_mod, b_pow, b_addT, b_addL, c_lt, c_le, c_gt, c_ge, c_eq, c_ne, f_abs, f_int, f_min, f_len, f_list, f_tuple, set_mk, sl_d, sl_own, sl_tp, dat_d, dat_own, dat_tp, it_tupW, it_lst, it_scr, items_tab, items_wh, is_own, is_tup, is_lst, is_scr, is_cell, is_tab, is_wh, ln_own, ln_tup, ln_lst, ln_scr, ln_dk, ln_tab, ln_wh, set_d, set_own, set_dk, set_tp, hide1, hide2, putT1, putT2, putT3, sl1, sl2, back1, back2, gone_unW, gone_dW, gone_ownW, setA0, setA1, List.map_cons, List.map_nil, List.length_cons, List.length_nil, List.cons_append, List.nil_append, List.getElem?_cons_zero, List.getElem?_cons_succ, List.replicate_succ, List.replicate_zero, List.set_cons_zero, List.set_cons_succ, exists_eq_left, exists_eq_left', Option.some.injEq, Sl.own.injEq, exists_eq', and_true, true_and, Nat.reduceAdd, Nat.reduceSub, Nat.zero_add])
    by_cases hm : m = 0
    · subst hm
      have hp61 : p = 61 := by omega
      subst hp61
      refine ⟨_, rfl, ?_⟩
      rw [if_neg (by decide)]
      (try simp -dsimp only [kK_eq, optK_some, blK_eq, intK_eq, strK_eq, iteK_t, iteK_f, andK_t, sK_some, valS_d, valS_own, valS_tp, ↓wE_v, ↓wE_k, ↓wE_bin, ↓wE_neg, ↓wE_no, ↓wE_cmp, ↓wE_chn, ↓wE_isN, ↓wE_ntN, ↓wE_and, ↓wE_or, ↓wE_orT, ↓wE_ite, ↓wE_call, ↓wE_callk, ↓wE_refused, ↓wE_callc, ↓wE_bi, ↓wE_isi, ↓wE_lenv, ↓wE_ixv, ↓wE_ix, ↓wE_sl, ↓wE_rev, ↓wE_tup, ↓wE_tpl, ↓wE_lst, ↓wE_vtp, ↓wE_index, ↓wE_lrng, ↓wE_sset, ↓comp_eq, ↓allg_eq, lstK_eq, cutK_tup, cutK_lst, cutK_scr, revK_tup, revK_lst, vtpK_tp, ↓wEs_nil, ↓wEs_cons, ↓wVs_nil, ↓wVs_cons, ↓wO_no, ↓wO_yes, ↓wC_no, ↓wC_yes, ↓wI_it, ↓wI_r1, ↓wI_r2, r2K_eq, ↓wI_r3, ↓wI_zip, ↓wS_asg, ↓wS_par, ↓wS_unp, ↓wS_setv, ↓wS_swp, ↓wS_ex, ↓wS_ret, ↓wS_iff, ↓wS_brk, ↓wS_rais, ↓wS_newd, ↓wS_skip, ↓wS_app, ↓wS_ext, ↓wS_aug, ownK_eq, lstD_eq, augK_add, augK_sub, ↓wSs_nil, ↓wSs_cons, ↓whl_eq, ↓fr_eq, b_add, b_sub, b_mul, b_div, b_mod, b_pow, b_addT, b_addL, c_lt, c_le, c_gt, c_ge, c_eq, c_ne, f_abs, f_int, f_min, f_len, f_list, f_tuple, set_mk, sl_d, sl_own, sl_tp, dat_d, dat_own, dat_tp, it_tupW, it_lst, it_scr, items_tab, items_wh, is_own, is_tup, is_lst, is_scr, is_cell, is_tab, is_wh, ln_own, ln_tup, ln_lst, ln_scr, ln_dk, ln_tab, ln_wh, set_d, set_own, set_dk, set_tp, hide1, hide2, putT1, putT2, putT3, sl1, sl2, back1, back2, gone_unW, gone_dW, gone_ownW, setA0, setA1, List.map_cons, List.map_nil, List.length_cons, List.length_nil, List.cons_append, List.nil_append, List.getElem?_cons_zero, List.getElem?_cons_succ, List.replicate_succ, List.replicate_zero, List.set_cons_zero, List.set_cons_succ, exists_eq_left, exists_eq_left', Option.some.injEq, Sl.own.injEq, exists_eq', and_true, true_and, Nat.reduceAdd, Nat.reduceSub, Nat.zero_add])
      exact hq f (least_of h8 hf hd hP fun q q1 q2 => hq2 q q1 (by omega))
    · refine ⟨_, rfl, ?_⟩
      rw [if_pos (decide_eq_true (by omega))]
      (try simp -dsimp only [kK_eq, optK_some, blK_eq, intK_eq, strK_eq, iteK_t, iteK_f, andK_t, sK_some, valS_d, valS_own, valS_tp, ↓wE_v, ↓wE_k, ↓wE_bin, ↓wE_neg, ↓wE_no, ↓wE_cmp, ↓wE_chn, ↓wE_isN, ↓wE_ntN, ↓wE_and, ↓wE_or, ↓wE_orT, ↓wE_ite, ↓wE_call, ↓wE_callk, ↓wE_refused, ↓wE_callc, ↓wE_bi, ↓wE_isi, ↓wE_lenv, ↓wE_ixv, ↓wE_ix, ↓wE_sl, ↓wE_rev, ↓wE_tup, ↓wE_tpl, ↓wE_lst, ↓wE_vtp, ↓wE_index, ↓wE_lrng, ↓wE_sset, ↓comp_eq, ↓allg_eq, lstK_eq, cutK_tup, cutK_lst, cutK_scr, revK_tup, revK_lst, vtpK_tp, ↓wEs_nil, ↓wEs_cons, ↓wVs_nil, ↓wVs_cons, ↓wO_no, ↓wO_yes, ↓wC_no, ↓wC_yes, ↓wI_it, ↓wI_r1, ↓wI_r2, r2K_eq, ↓wI_r3, ↓wI_zip, ↓wS_asg, ↓wS_par, ↓wS_unp, ↓wS_setv, ↓wS_swp, ↓wS_ex, ↓wS_ret, ↓wS_iff, ↓wS_brk, ↓wS_rais, ↓wS_newd, ↓wS_skip, ↓wS_app, ↓wS_ext, ↓wS_aug, ownK_eq, lstD_eq, augK_add, augK_sub, ↓wSs_nil, ↓wSs_cons, ↓whl_eq, ↓fr_eq, b_add, b_sub, b_mul, b_div, b_mod, b_pow, b_addT, b_addL, c_lt, c_le, c_gt, c_ge, c_eq, c_ne, f_abs, f_int, f_min, f_len, f_list, f_tuple, set_mk, sl_d, sl_own, sl_tp, dat_d, dat_own, dat_tp, it_tupW, it_lst, it_scr, items_tab, items_wh, is_own, is_tup, is_lst, is_scr, is_cell, is_tab, is_wh, ln_own, ln_tup, ln_lst, ln_scr, ln_dk, ln_tab, ln_wh, set_d, set_own, set_dk, set_tp, hide1, hide2, putT1, putT2, putT3, sl1, sl2, back1, back2, gone_unW, gone_dW, gone_ownW, setA0, setA1, List.map_cons, List.map_nil, List.length_cons, List.length_nil, List.cons_append, List.nil_append, List.getElem?_cons_zero, List.getElem?_cons_succ, List.replicate_succ, List.replicate_zero, List.set_cons_zero, List.set_cons_succ, exists_eq_left, exists_eq_left', Option.some.injEq, Sl.own.injEq, exists_eq', and_true, true_and, Nat.reduceAdd, Nat.reduceSub, Nat.zero_add])
      refine whl_ind (fun k st => ∃ g : Nat, 0 < g ∧ g ∣ cyc T ∧ Per T g ∧ (∀ q, 2 ≤ q → q < p → q ∣ g → ¬ Per T (g / q)) ∧ k = g ∧ st = ⟨[.d (tabD T), .d (.int g), .d (.int p)], c⟩) (fun k st hW => ?_) (m := f) ⟨f, hf, hd, hP, hq2, rfl, rfl⟩
      obtain ⟨g, hg, hgd, hgP, hgq, rfl, rfl⟩ := hW
      have fin : ¬ (p ∣ k ∧ Per T (k / p)) → (fun st2 : DS => ∃ m', m' < m ∧ ∃ f p : Nat, 0 < f ∧ f ∣ cyc T ∧ Per T f ∧ 2 ≤ p ∧ p + m' = 61 ∧ (∀ q, 2 ≤ q → q < p → q ∣ f → ¬ Per T (f / q)) ∧ st2 = DS.mk [.d (tabD T), .d (.int f), .d (.int p)] c) (DS.mk [.d (tabD T), .d (.int k), .d (.int ((p : Int) + 1))] c) := fun hno => by
        refine ⟨m - 1, by omega, k, p + 1, hg, hgd, hgP, by omega, by omega, fun q q1 q2 q3 q4 => ?_, by push_cast; rfl⟩
        by_cases z : q = p
        · subst z
          exact hno ⟨q3, q4⟩
        · exact hgq q q1 (by omega) q3 q4
      have hlog : CDivW (k : Int) (p : Int) := cdiv_ok (n := p) (by omega) (Nat.le_refl _) (by omega)
      (try simp -dsimp only [kK_eq, optK_some, blK_eq, intK_eq, strK_eq, iteK_t, iteK_f, andK_t, sK_some, valS_d, valS_own, valS_tp, ↓wE_v, ↓wE_k, ↓wE_bin, ↓wE_neg, ↓wE_no, ↓wE_cmp, ↓wE_chn, ↓wE_isN, ↓wE_ntN, ↓wE_and, ↓wE_or, ↓wE_orT, ↓wE_ite, ↓wE_call, ↓wE_callk, ↓wE_refused, ↓wE_callc, ↓wE_bi, ↓wE_isi, ↓wE_lenv, ↓wE_ixv, ↓wE_ix, ↓wE_sl, ↓wE_rev, ↓wE_tup, ↓wE_tpl, ↓wE_lst, ↓wE_vtp, ↓wE_index, ↓wE_lrng, ↓wE_sset, ↓comp_eq, ↓allg_eq, lstK_eq, cutK_tup, cutK_lst, cutK_scr, revK_tup, revK_lst, vtpK_tp, ↓wEs_nil, ↓wEs_cons, ↓wVs_nil, ↓wVs_cons, ↓wO_no, ↓wO_yes, ↓wC_no, ↓wC_yes, ↓wI_it, ↓wI_r1, ↓wI_r2, r2K_eq, ↓wI_r3, ↓wI_zip, ↓wS_asg, ↓wS_par, ↓wS_unp, ↓wS_setv, ↓wS_swp, ↓wS_ex, ↓wS_ret, ↓wS_iff, ↓wS_brk, ↓wS_rais, ↓wS_newd, ↓wS_skip, ↓wS_app, ↓wS_ext, ↓wS_aug, ownK_eq, lstD_eq, augK_add, augK_sub, ↓wSs_nil, ↓wSs_cons, ↓whl_eq, ↓fr_eq, b_add, b_sub, b_mul, b_div, b_mod, b_pow, b_addT, b_addL, c_lt, c_le, c_gt, c_ge, c_eq, c_ne, f_abs, f_int, f_min, f_len, f_list, f_tuple, set_mk, sl_d, sl_own, sl_tp, dat_d, dat_own, dat_tp, it_tupW, it_lst, it_scr, items_tab, items_wh, is_own, is_tup, is_lst, is_scr, is_cell, is_tab, is_wh, ln_own, ln_tup, ln_lst, ln_scr, ln_dk, ln_tab, ln_wh, set_d, set_own, set_dk, set_tp, hide1, hide2, putT1, putT2, putT3, sl1, sl2, back1, back2, gone_unW, gone_dW, gone_ownW, setA0, setA1, List.map_cons, List.map_nil, List.length_cons, List.length_nil, List.cons_append, List.nil_append, List.getElem?_cons_zero, List.getElem?_cons_succ, List.replicate_succ, List.replicate_zero, List.set_cons_zero, List.set_cons_succ, exists_eq_left, exists_eq_left', Option.some.injEq, Sl.own.injEq, exists_eq', and_true, true_and, Nat.reduceAdd, Nat.reduceSub, Nat.zero_add])
      refine ⟨by omega, ?_⟩
      refine iteK_of (fun h => ?_) (fun h => ?_)
      · (try simp -dsimp only [kK_eq, optK_some, blK_eq, intK_eq, strK_eq, iteK_t, iteK_f, andK_t, sK_some, valS_d, valS_own, valS_tp, ↓wE_v, ↓wE_k, ↓wE_bin, ↓wE_neg, ↓wE_no, ↓wE_cmp, ↓wE_chn, ↓wE_isN, ↓wE_ntN, ↓wE_and, ↓wE_or, ↓wE_orT, ↓wE_ite, ↓wE_call, ↓wE_callk, ↓wE_refused, ↓wE_callc, ↓wE_bi, ↓wE_isi, ↓wE_lenv, ↓wE_ixv, ↓wE_ix, ↓wE_sl, ↓wE_rev, ↓wE_tup, ↓wE_tpl, ↓wE_lst, ↓wE_vtp, ↓wE_index, ↓wE_lrng, ↓wE_sset, ↓comp_eq, ↓allg_eq, lstK_eq, cutK_tup, cutK_lst, cutK_scr, revK_tup, revK_lst, vtpK_tp, ↓wEs_nil, ↓wEs_cons, ↓wVs_nil, ↓wVs_cons, ↓wO_no, ↓wO_yes, ↓wC_no, ↓wC_yes, ↓wI_it, ↓wI_r1, ↓wI_r2, r2K_eq, ↓wI_r3, ↓wI_zip, ↓wS_asg, ↓wS_par, ↓wS_unp, ↓wS_setv, ↓wS_swp, ↓wS_ex, ↓wS_ret, ↓wS_iff, ↓wS_brk, ↓wS_rais, ↓wS_newd, ↓wS_skip, ↓wS_app, ↓wS_ext, ↓wS_aug, ownK_eq, lstD_eq, augK_add, augK_sub, ↓wSs_nil, ↓wSs_cons, ↓whl_eq, ↓fr_eq, b_add, b_sub, b_mul, b_div, b_mod, b_pow, b_addT, b_addL, c_lt, c_le, c_gt, c_ge, c_eq, c_ne, f_abs, f_int, f_min, f_len, f_list, f_tuple, set_mk, sl_d, sl_own, sl_tp, dat_d, dat_own, dat_tp, it_tupW, it_lst, it_scr, items_tab, items_wh, is_own, is_tup, is_lst, is_scr, is_cell, is_tab, is_wh, ln_own, ln_tup, ln_lst, ln_scr, ln_dk, ln_tab, ln_wh, set_d, set_own, set_dk, set_tp, hide1, hide2, putT1, putT2, putT3, sl1, sl2, back1, back2, gone_unW, gone_dW, gone_ownW, setA0, setA1, List.map_cons, List.map_nil, List.length_cons, List.length_nil, List.cons_append, List.nil_append, List.getElem?_cons_zero, List.getElem?_cons_succ, List.replicate_succ, List.replicate_zero, List.set_cons_zero, List.set_cons_succ, exists_eq_left, exists_eq_left', Option.some.injEq, Sl.own.injEq, exists_eq', and_true, true_and, Nat.reduceAdd, Nat.reduceSub, Nat.zero_add])
        refine ⟨hlog, ?_⟩
        have hdv : p ∣ k := by
          have := of_decide_eq_true h
          exact Int.natCast_dvd_natCast.mp (Int.dvd_of_emod_eq_zero this)
        refine call_of h3 ⟨T, k / p, by rw [Int.natCast_ediv], hT, fun b hb => ?_⟩
        (try simp -dsimp only [kK_eq, optK_some, blK_eq, intK_eq, strK_eq, iteK_t, iteK_f, andK_t, sK_some, valS_d, valS_own, valS_tp, ↓wE_v, ↓wE_k, ↓wE_bin, ↓wE_neg, ↓wE_no, ↓wE_cmp, ↓wE_chn, ↓wE_isN, ↓wE_ntN, ↓wE_and, ↓wE_or, ↓wE_orT, ↓wE_ite, ↓wE_call, ↓wE_callk, ↓wE_refused, ↓wE_callc, ↓wE_bi, ↓wE_isi, ↓wE_lenv, ↓wE_ixv, ↓wE_ix, ↓wE_sl, ↓wE_rev, ↓wE_tup, ↓wE_tpl, ↓wE_lst, ↓wE_vtp, ↓wE_index, ↓wE_lrng, ↓wE_sset, ↓comp_eq, ↓allg_eq, lstK_eq, cutK_tup, cutK_lst, cutK_scr, revK_tup, revK_lst, vtpK_tp, ↓wEs_nil, ↓wEs_cons, ↓wVs_nil, ↓wVs_cons, ↓wO_no, ↓wO_yes, ↓wC_no, ↓wC_yes, ↓wI_it, ↓wI_r1, ↓wI_r2, r2K_eq, ↓wI_r3, ↓wI_zip, ↓wS_asg, ↓wS_par, ↓wS_unp, ↓wS_setv, ↓wS_swp, ↓wS_ex, ↓wS_ret, ↓wS_iff, ↓wS_brk, ↓wS_rais, ↓wS_newd, ↓wS_skip, ↓wS_app, ↓wS_ext, ↓wS_aug, ownK_eq, lstD_eq, augK_add, augK_sub, ↓wSs_nil, ↓wSs_cons, ↓whl_eq, ↓fr_eq, b_add, b_sub, b_mul, b_div, b_mod, b_pow, b_addT, b_addL, c_lt, c_le, c_gt, c_ge, c_eq, c_ne, f_abs, f_int, f_min, f_len, f_list, f_tuple, set_mk, sl_d, sl_own, sl_tp, dat_d, dat_own, dat_tp, it_tupW, it_lst, it_scr, items_tab, items_wh, is_own, is_tup, is_lst, is_scr, is_cell, is_tab, is_wh, ln_own, ln_tup, ln_lst, ln_scr, ln_dk, ln_tab, ln_wh, set_d, set_own, set_dk, set_tp, hide1, hide2, putT1, putT2, putT3, sl1, sl2, back1, back2, gone_unW, gone_dW, gone_ownW, setA0, setA1, List.map_cons, List.map_nil, List.length_cons, List.length_nil, List.cons_append, List.nil_append, List.getElem?_cons_zero, List.getElem?_cons_succ, List.replicate_succ, List.replicate_zero, List.set_cons_zero, List.set_cons_succ, exists_eq_left, exists_eq_left', Option.some.injEq, Sl.own.injEq, exists_eq', and_true, true_and, Nat.reduceAdd, Nat.reduceSub, Nat.zero_add])
        refine ⟨_, rfl, ?_⟩
        cases b with
        | true =>
          rw [if_pos rfl]
          (try simp -dsimp only [kK_eq, optK_some, blK_eq, intK_eq, strK_eq, iteK_t, iteK_f, andK_t, sK_some, valS_d, valS_own, valS_tp, ↓wE_v, ↓wE_k, ↓wE_bin, ↓wE_neg, ↓wE_no, ↓wE_cmp, ↓wE_chn, ↓wE_isN, ↓wE_ntN, ↓wE_and, ↓wE_or, ↓wE_orT, ↓wE_ite, ↓wE_call, ↓wE_callk, ↓wE_refused, ↓wE_callc, ↓wE_bi, ↓wE_isi, ↓wE_lenv, ↓wE_ixv, ↓wE_ix, ↓wE_sl, ↓wE_rev, ↓wE_tup, ↓wE_tpl, ↓wE_lst, ↓wE_vtp, ↓wE_index, ↓wE_lrng, ↓wE_sset, ↓comp_eq, ↓allg_eq, lstK_eq, cutK_tup, cutK_lst, cutK_scr, revK_tup, revK_lst, vtpK_tp, ↓wEs_nil, ↓wEs_cons, ↓wVs_nil, ↓wVs_cons, ↓wO_no, ↓wO_yes, ↓wC_no, ↓wC_yes, ↓wI_it, ↓wI_r1, ↓wI_r2, r2K_eq, ↓wI_r3, ↓wI_zip, ↓wS_asg, ↓wS_par, ↓wS_unp, ↓wS_setv, ↓wS_swp, ↓wS_ex, ↓wS_ret, ↓wS_iff, ↓wS_brk, ↓wS_rais, ↓wS_newd, ↓wS_skip, ↓wS_app, ↓wS_ext, ↓wS_aug, ownK_eq, lstD_eq, augK_add, augK_sub, ↓wSs_nil, ↓wSs_cons, ↓whl_eq, ↓fr_eq, b_add, b_sub, b_mul, b_div, b_mod, b_pow, b_addT, b_addL, c_lt, c_le, c_gt, c_ge, c_eq, c_ne, f_abs, f_int, f_min, f_len, f_list, f_tuple, set_mk, sl_d, sl_own, sl_tp, dat_d, dat_own, dat_tp, it_tupW, it_lst, it_scr, items_tab, items_wh, is_own, is_tup, is_lst, is_scr, is_cell, is_tab, is_wh, ln_own, ln_tup, ln_lst, ln_scr, ln_dk, ln_tab, ln_wh, set_d, set_own, set_dk, set_tp, hide1, hide2, putT1, putT2, putT3, sl1, sl2, back1, back2, gone_unW, gone_dW, gone_ownW, setA0, setA1, List.map_cons, List.map_nil, List.length_cons, List.length_nil, List.cons_append, List.nil_append, List.getElem?_cons_zero, List.getElem?_cons_succ, List.replicate_succ, List.replicate_zero, List.set_cons_zero, List.set_cons_succ, exists_eq_left, exists_eq_left', Option.some.injEq, Sl.own.injEq, exists_eq', and_true, true_and, Nat.reduceAdd, Nat.reduceSub, Nat.zero_add])
          refine ⟨hlog, ?_⟩
          have hPk := hb.mp rfl
          obtain ⟨e, rfl⟩ := hdv
          have e1 : p * e / p = e := Nat.mul_div_cancel_left _ (by omega)
          have he : 0 < e := Nat.pos_of_mul_pos_left hg
          rw [e1] at hPk
          refine ⟨e, ?_, e, he, Nat.dvd_trans (Nat.dvd_mul_left _ _) hgd, hPk, fun q q1 q2 q3 q4 => ?_, rfl, ?_⟩
          · have : 1 * e < p * e := Nat.mul_lt_mul_of_pos_right (by omega) he
            omega
          · refine hgq q q1 q2 (Nat.dvd_trans q3 (Nat.dvd_mul_left _ _)) ?_
            obtain ⟨e', rfl⟩ := q3
            have e2 : q * e' / q = e' := Nat.mul_div_cancel_left _ (by omega)
            have e3 : p * (q * e') / q = e' * p := by
              rw [Nat.mul_left_comm, Nat.mul_div_cancel_left _ (by omega), Nat.mul_comm]
            rw [e2] at q4
            rw [e3]
            exact q4.mul p
          · rw [← Int.natCast_ediv, e1]
        | false =>
          rw [if_neg (by decide)]
          (try simp -dsimp only [kK_eq, optK_some, blK_eq, intK_eq, strK_eq, iteK_t, iteK_f, andK_t, sK_some, valS_d, valS_own, valS_tp, ↓wE_v, ↓wE_k, ↓wE_bin, ↓wE_neg, ↓wE_no, ↓wE_cmp, ↓wE_chn, ↓wE_isN, ↓wE_ntN, ↓wE_and, ↓wE_or, ↓wE_orT, ↓wE_ite, ↓wE_call, ↓wE_callk, ↓wE_refused, ↓wE_callc, ↓wE_bi, ↓wE_isi, ↓wE_lenv, ↓wE_ixv, ↓wE_ix, ↓wE_sl, ↓wE_rev, ↓wE_tup, ↓wE_tpl, ↓wE_lst, ↓wE_vtp, ↓wE_index, ↓wE_lrng, ↓wE_sset, ↓comp_eq, ↓allg_eq, lstK_eq, cutK_tup, cutK_lst, cutK_scr, revK_tup, revK_lst, vtpK_tp, ↓wEs_nil, ↓wEs_cons, ↓wVs_nil, ↓wVs_cons, ↓wO_no, ↓wO_yes, ↓wC_no, ↓wC_yes, ↓wI_it, ↓wI_r1, ↓wI_r2, r2K_eq, ↓wI_r3, ↓wI_zip, ↓wS_asg, ↓wS_par, ↓wS_unp, ↓wS_setv, ↓wS_swp, ↓wS_ex, ↓wS_ret, ↓wS_iff, ↓wS_brk, ↓wS_rais, ↓wS_newd, ↓wS_skip, ↓wS_app, ↓wS_ext, ↓wS_aug, ownK_eq, lstD_eq, augK_add, augK_sub, ↓wSs_nil, ↓wSs_cons, ↓whl_eq, ↓fr_eq, b_add, b_sub, b_mul, b_div, b_mod, b_pow, b_addT, b_addL, c_lt, c_le, c_gt, c_ge, c_eq, c_ne, f_abs, f_int, f_min, f_len, f_list, f_tuple, set_mk, sl_d, sl_own, sl_tp, dat_d, dat_own, dat_tp, it_tupW, it_lst, it_scr, items_tab, items_wh, is_own, is_tup, is_lst, is_scr, is_cell, is_tab, is_wh, ln_own, ln_tup, ln_lst, ln_scr, ln_dk, ln_tab, ln_wh, set_d, set_own, set_dk, set_tp, hide1, hide2, putT1, putT2, putT3, sl1, sl2, back1, back2, gone_unW, gone_dW, gone_ownW, setA0, setA1, List.map_cons, List.map_nil, List.length_cons, List.length_nil, List.cons_append, List.nil_append, List.getElem?_cons_zero, List.getElem?_cons_succ, List.replicate_succ, List.replicate_zero, List.set_cons_zero, List.set_cons_succ, exists_eq_left, exists_eq_left', Option.some.injEq, Sl.own.injEq, exists_eq', and_true, true_and, Nat.reduceAdd, Nat.reduceSub, Nat.zero_add])
          exact fin fun z => by have := hb.mpr z.2; cases this
      · (try simp -dsimp only [kK_eq, optK_some, blK_eq, intK_eq, strK_eq, iteK_t, iteK_f, andK_t, sK_some, valS_d, valS_own, valS_tp, ↓wE_v, ↓wE_k, ↓wE_bin, ↓wE_neg, ↓wE_no, ↓wE_cmp, ↓wE_chn, ↓wE_isN, ↓wE_ntN, ↓wE_and, ↓wE_or, ↓wE_orT, ↓wE_ite, ↓wE_call, ↓wE_callk, ↓wE_refused, ↓wE_callc, ↓wE_bi, ↓wE_isi, ↓wE_lenv, ↓wE_ixv, ↓wE_ix, ↓wE_sl, ↓wE_rev, ↓wE_tup, ↓wE_tpl, ↓wE_lst, ↓wE_vtp, ↓wE_index, ↓wE_lrng, ↓wE_sset, ↓comp_eq, ↓allg_eq, lstK_eq, cutK_tup, cutK_lst, cutK_scr, revK_tup, revK_lst, vtpK_tp, ↓wEs_nil, ↓wEs_cons, ↓wVs_nil, ↓wVs_cons, ↓wO_no, ↓wO_yes, ↓wC_no, ↓wC_yes, ↓wI_it, ↓wI_r1, ↓wI_r2, r2K_eq, ↓wI_r3, ↓wI_zip, ↓wS_asg, ↓wS_par, ↓wS_unp, ↓wS_setv, ↓wS_swp, ↓wS_ex, ↓wS_ret, ↓wS_iff, ↓wS_brk, ↓wS_rais, ↓wS_newd, ↓wS_skip, ↓wS_app, ↓wS_ext, ↓wS_aug, ownK_eq, lstD_eq, augK_add, augK_sub, ↓wSs_nil, ↓wSs_cons, ↓whl_eq, ↓fr_eq, b_add, b_sub, b_mul, b_div, b_mod, b_pow, b_addT, b_addL, c_lt, c_le, c_gt, c_ge, c_eq, c_ne, f_abs, f_int, f_min, f_len, f_list, f_tuple, set_mk, sl_d, sl_own, sl_tp, dat_d, dat_own, dat_tp, it_tupW, it_lst, it_scr, items_tab, items_wh, is_own, is_tup, is_lst, is_scr, is_cell, is_tab, is_wh, ln_own, ln_tup, ln_lst, ln_scr, ln_dk, ln_tab, ln_wh, set_d, set_own, set_dk, set_tp, hide1, hide2, putT1, putT2, putT3, sl1, sl2, back1, back2, gone_unW, gone_dW, gone_ownW, setA0, setA1, List.map_cons, List.map_nil, List.length_cons, List.length_nil, List.cons_append, List.nil_append, List.getElem?_cons_zero, List.getElem?_cons_succ, List.replicate_succ, List.replicate_zero, List.set_cons_zero, List.set_cons_succ, exists_eq_left, exists_eq_left', Option.some.injEq, Sl.own.injEq, exists_eq', and_true, true_and, Nat.reduceAdd, Nat.reduceSub, Nat.zero_add])
        refine ⟨_, rfl, ?_⟩
        rw [if_neg (by decide)]
        (try simp -dsimp only [kK_eq, optK_some, blK_eq, intK_eq, strK_eq, iteK_t, iteK_f, andK_t, sK_some, valS_d, valS_own, valS_tp, ↓wE_v, ↓wE_k, ↓wE_bin, ↓wE_neg, ↓wE_no, ↓wE_cmp, ↓wE_chn, ↓wE_isN, ↓wE_ntN, ↓wE_and, ↓wE_or, ↓wE_orT, ↓wE_ite, ↓wE_call, ↓wE_callk, ↓wE_refused, ↓wE_callc, ↓wE_bi, ↓wE_isi, ↓wE_lenv, ↓wE_ixv, ↓wE_ix, ↓wE_sl, ↓wE_rev, ↓wE_tup, ↓wE_tpl, ↓wE_lst, ↓wE_vtp, ↓wE_index, ↓wE_lrng, ↓wE_sset, ↓comp_eq, ↓allg_eq, lstK_eq, cutK_tup, cutK_lst, cutK_scr, revK_tup, revK_lst, vtpK_tp, ↓wEs_nil, ↓wEs_cons, ↓wVs_nil, ↓wVs_cons, ↓wO_no, ↓wO_yes, ↓wC_no, ↓wC_yes, ↓wI_it, ↓wI_r1, ↓wI_r2, r2K_eq, ↓wI_r3, ↓wI_zip, ↓wS_asg, ↓wS_par, ↓wS_unp, ↓wS_setv, ↓wS_swp, ↓wS_ex, ↓wS_ret, ↓wS_iff, ↓wS_brk, ↓wS_rais, ↓wS_newd, ↓wS_skip, ↓wS_app, ↓wS_ext, ↓wS_aug, ownK_eq, lstD_eq, augK_add, augK_sub, ↓wSs_nil, ↓wSs_cons, ↓whl_eq, ↓fr_eq, b_add, b_sub, b_mul, b_div, b_mod, b_pow, b_addT, b_addL, c_lt, c_le, c_gt, c_ge, c_eq, c_ne, f_abs, f_int, f_min, f_len, f_list, f_tuple, set_mk, sl_d, sl_own, sl_tp, dat_d, dat_own, dat_tp, it_tupW, it_lst, it_scr, items_tab, items_wh, is_own, is_tup, is_lst, is_scr, is_cell, is_tab, is_wh, ln_own, ln_tup, ln_lst, ln_scr, ln_dk, ln_tab, ln_wh, set_d, set_own, set_dk, set_tp, hide1, hide2, putT1, putT2, putT3, sl1, sl2, back1, back2, gone_unW, gone_dW, gone_ownW, setA0, setA1, List.map_cons, List.map_nil, List.length_cons, List.length_nil, List.cons_append, List.nil_append, List.getElem?_cons_zero, List.getElem?_cons_succ, List.replicate_succ, List.replicate_zero, List.set_cons_zero, List.set_cons_succ, exists_eq_left, exists_eq_left', Option.some.injEq, Sl.own.injEq, exists_eq', and_true, true_and, Nat.reduceAdd, Nat.reduceSub, Nat.zero_add])
        refine fin fun z => ?_
        have := of_decide_eq_false h
        refine this ?_
        rw [← Int.natCast_emod, Nat.mod_eq_zero_of_dvd z.1]
        rfl
end L01
end
section
namespace LC
open PySem (Str)
open L2 (atI ixN CMul CDivW CMulW CPow)
open DL
variable {Sg : Tab}
theorem cutD_from (xs : List D) (f : Nat) (h : f ≤ xs.length) : cutD xs (some (f : Int)) none = xs.drop f := by
  unfold cutD
  rw [HT.sIx_nat, HT.sIx_none, Nat.min_eq_left h, List.take_of_length_le (by rw [List.length_drop]; exact Nat.le_refl _)]
theorem cutD_to (xs : List D) (f : Nat) (h : f ≤ xs.length) : cutD xs none (some (f : Int)) = xs.take f := by
  unfold cutD
  rw [HT.sIx_nat, HT.sIx_none, Nat.min_eq_left h, List.drop_zero, Nat.sub_zero]
theorem cutD_mid (xs : List D) (f g : Nat) (h : f ≤ xs.length) (h' : g ≤ xs.length) : cutD xs (some (f : Int)) (some (g : Int)) = (xs.drop f).take (g - f) := by
  unfold cutD
  rw [HT.sIx_nat, HT.sIx_nat, Nat.min_eq_left h, Nat.min_eq_left h']
theorem b_mulT (xs : List D) (j : Int) (Q : Vl → Prop) (h0 : xs ≠ []) (h1 : 2 ≤ j) (h2 : j ≤ 1000) (h3 : xs.length ≤ 1000) (h : Q (.d (.tup (List.replicate j.toNat xs).flatten))) : binK .Mult (.tup xs) (.int j) Q := ⟨h0, h1, h2, h3, h⟩
theorem b_addTab (S T : List (List Int)) (Q : Vl → Prop) : binK .Add (tabD S) (tabD T) Q = andK (S.length + T.length ≤ 100000) (Q (.d (tabD (S ++ T)))) := by
  have e : binK .Add (tabD S) (tabD T) Q = ((S.map whD).length + (T.map whD).length ≤ 100000 ∧ Q (.d (.tup (S.map whD ++ T.map whD)))) := rfl
  rw [e, List.length_map, List.length_map, ← List.map_append]
  rfl
theorem add_tab {R S : List (List Int)} {d : D} {K : Vl → Prop} (e : d = tabD S) (hl : R.length + S.length ≤ 100000) (k : K (.d (tabD (R ++ S)))) : binK .Add (tabD R) d K := by
  rw [e, b_addTab]
  exact ⟨hl, k⟩
theorem tab_add {R S : List (List Int)} {d : D} {K : Vl → Prop} (e : d = tabD S) (hl : S.length + R.length ≤ 100000) (k : K (.d (tabD (S ++ R)))) : binK .Add d (tabD R) K := by
  rw [e, b_addTab]
  exact ⟨hl, k⟩
theorem mul_wh {w : List Int} {K : Vl → Prop} (h0 : 0 < w.length) (h1 : w.length ≤ 1000) (k : K (.d (whD (w ++ w)))) : binK .Mult (whD w) (.int 2) K := by
  refine b_mulT (w.map D.int) 2 K (fun z => ?_) (by decide) (by decide) (by rw [List.length_map]; exact h1) ?_
  · rw [List.map_eq_nil_iff] at z
    subst z
    exact absurd h0 (Nat.lt_irrefl 0)
  · have e : D.tup (List.replicate (2 : Int).toNat (w.map D.int)).flatten = whD (w ++ w) := by
      show D.tup ((w.map D.int) ++ ((w.map D.int) ++ [])) = D.tup ((w ++ w).map D.int)
      rw [List.append_nil, List.map_append]
    rw [e]
    exact k
theorem zip_of {x y : D} {xs ys : List D} {K : List D → Prop} (h1 : x.items = some xs) (h2 : y.items = some ys) (h3 : x.kind = y.kind) (k : K (List.zipWith (fun a b => D.tup [a, b]) xs ys)) : zipK x y K := ⟨x, y, xs, ys, rfl, h1, h2, h3, k⟩
theorem zipW_map {α β : Type} (f : α → D) (g : β → D) : ∀ (xs : List α) (ys : List β), List.zipWith (fun a b => D.tup [a, b]) (xs.map f) (ys.map g) = (xs.zip ys).map fun p => D.tup [f p.1, g p.2]
  | [], _ => rfl
  | _ :: _, [] => rfl
  | x :: xs, y :: ys => by
    show _ :: _ = _ :: _
    rw [zipW_map f g xs ys]
    rfl
theorem cutK_wh (w : List Int) (l h : Option Int) (K : Vl → Prop) : cutK (whD w) l h K = K (.d (.tup (cutD (w.map D.int) l h))) := rfl
theorem cutK_tab (T : List (List Int)) (l h : Option Int) (K : Vl → Prop) : cutK (tabD T) l h K = K (.d (.tup (cutD (T.map whD) l h))) := rfl
theorem revK_tab (T : List (List Int)) (K : Vl → Prop) : revK (tabD T) K = K (.d (tabD T.reverse)) := by
  show K (.d (.tup (T.map whD).reverse)) = _
  rw [← List.map_reverse]
  rfl
/-- a comprehension by a rule -/
theorem map_comp {α σ : Type} {t : Tg} {e : E} {c : List Int} {Q : List D → DS → Prop} (xs : List α) (f g : α → D) (env : σ → List Sl) (nxt : α → σ) (hl : xs.length ≤ 99999)
    (hput : ∀ s, ∀ x ∈ xs, putT t (f x) (hide t.slots ⟨env s, c⟩) = some ⟨env (nxt x), c⟩)
    (hev : ∀ x ∈ xs, ∀ K : Vl → DS → Prop, (∀ v : Vl, v.dat = g x → K v ⟨env (nxt x), c⟩) → wpE Sg e ⟨env (nxt x), c⟩ K)
    (hq : ∀ s, Q (xs.map g) ⟨env s, c⟩) (s0 : σ) : wCompB Sg t .no e (xs.map f) [] ⟨env s0, c⟩ Q := by
  refine comp_ind (fun acc ys st => ∃ (U V : List α) (s : σ), xs = U ++ V ∧ ys = V.map f ∧ acc = U.map g ∧ st = ⟨env s, c⟩) (fun y ys acc st hI => ?_) (fun acc st hI => ?_) ⟨[], xs, s0, rfl, rfl, rfl, rfl⟩
  · obtain ⟨U, V, s, hU, hx, ha, rfl⟩ := hI
    cases V with
    | nil => cases hx
    | cons x V =>
      cases hx
      have hx : x ∈ xs := by rw [hU]; simp
      have hlen : acc.length < 100000 := by
        have := congrArg List.length hU
        rw [List.length_append, List.length_cons] at this
        rw [ha, List.length_map]
        omega
      refine ⟨_, hput s x hx, fun nx n1 n2 => ?_⟩
      rw [wC_no, if_pos rfl]
      refine hev x hx _ fun v hv => ⟨hlen, n2 _ _ hlen ⟨U ++ [x], V, _, by rw [hU]; simp, rfl, ?_, rfl⟩⟩
      rw [ha, hv, List.map_append]
      rfl
  · obtain ⟨U, V, s, hU, hx, ha, rfl⟩ := hI
    cases V with
    | cons x V => cases hx
    | nil =>
      rw [List.append_nil] at hU
      subst hU
      rw [ha]
      exact hq s
/-- a comprehension by a rule, with a condition -/
theorem filt_comp {α σ : Type} {t : Tg} {e ce : E} {c : List Int} {Q : List D → DS → Prop} (xs : List α) (f g : α → D) (p : α → Bool) (env : σ → List Sl) (nxt : α → σ) (hl : xs.length ≤ 99999)
    (hput : ∀ s, ∀ x ∈ xs, putT t (f x) (hide t.slots ⟨env s, c⟩) = some ⟨env (nxt x), c⟩)
    (hc : ∀ x ∈ xs, ∀ K : Vl → DS → Prop, (∀ v : Vl, v.dat = .bl (p x) → K v ⟨env (nxt x), c⟩) → wpE Sg ce ⟨env (nxt x), c⟩ K)
    (hev : ∀ x ∈ xs, p x = true → ∀ K : Vl → DS → Prop, (∀ v : Vl, v.dat = g x → K v ⟨env (nxt x), c⟩) → wpE Sg e ⟨env (nxt x), c⟩ K)
    (hq : ∀ s, Q ((xs.filter p).map g) ⟨env s, c⟩) (s0 : σ) : wCompB Sg t (.yes ce) e (xs.map f) [] ⟨env s0, c⟩ Q := by
  refine comp_ind (fun acc ys st => ∃ (U V : List α) (s : σ), xs = U ++ V ∧ ys = V.map f ∧ acc = (U.filter p).map g ∧ st = ⟨env s, c⟩) (fun y ys acc st hI => ?_) (fun acc st hI => ?_) ⟨[], xs, s0, rfl, rfl, rfl, rfl⟩
  · obtain ⟨U, V, s, hU, hx, ha, rfl⟩ := hI
    cases V with
    | nil => cases hx
    | cons x V =>
      cases hx
      have hx : x ∈ xs := by rw [hU]; simp
      have hlen : acc.length < 100000 := by
        have := congrArg List.length hU
        rw [List.length_append, List.length_cons] at this
        have h2 := List.length_filter_le p U
        rw [ha, List.length_map]
        omega
      refine ⟨_, hput s x hx, fun nx n1 n2 => ?_⟩
      rw [wC_yes]
      refine hc x hx _ fun v hv => ⟨p x, hv, ?_⟩
      cases hp : p x with
      | true =>
        rw [if_pos rfl]
        refine hev x hx hp _ fun v hv => ⟨hlen, n2 _ _ hlen ⟨U ++ [x], V, _, by rw [hU]; simp, rfl, ?_, rfl⟩⟩
        rw [ha, hv, List.filter_append, List.map_append, List.filter_cons, if_pos hp, List.filter_nil]
        rfl
      | false =>
        rw [if_neg (by decide)]
        refine n1 _ ⟨U ++ [x], V, _, by rw [hU]; simp, rfl, ?_, rfl⟩
        rw [ha, List.filter_append, List.filter_cons, if_neg (by rw [hp]; decide), List.filter_nil, List.append_nil]
  · obtain ⟨U, V, s, hU, hx, ha, rfl⟩ := hI
    cases V with
    | cons x V => cases hx
    | nil =>
      rw [List.append_nil] at hU
      subst hU
      rw [ha]
      exact hq s
/-- what a rolled table is: at most K wheels of 1 to M numbers below V -/
def Rolled (V : Int) (M K : Nat) (T : List (List Int)) : Prop := T.length ≤ K ∧ ∀ w ∈ T, 0 < w.length ∧ w.length ≤ M ∧ ∀ x ∈ w, 0 ≤ x ∧ x < V
/-- one roll for each thing of a list -/
theorem roll_list (h1 : Sg "_law_roll" = sp_roll) {V : Int} (hV : 0 < V ∧ V ≤ 1000) {i : Nat} {env : Sl → List Sl} {Q : List D → DS → Prop} (hput : ∀ (s : Sl) (x : D) (c : List Int), putT (.one i) x (hide [i] ⟨env s, c⟩) = some ⟨env (.d x), c⟩) (hget : ∀ s, (env s)[0]? = some (.d .cell)) {B : Nat} {xs : List D} (hB : B + xs.length ≤ 1000000) (hk : xs.length ≤ 1000)
    (hq : ∀ (w : List Int) (c' : List Int) (s : Sl), w.length = xs.length → (∀ x ∈ w, 0 ≤ x ∧ x < V) → DI (B + xs.length) c' → Q (w.map D.int) ⟨env s, c'⟩) {c : List Int} (hd : DI B c) (s0 : Sl) :
    wCompB Sg (.one i) .no (.call "_law_roll" (.cons (.v 0) (.cons (.k (.int V)) .nil))) xs [] ⟨env s0, c⟩ Q := by
  refine comp_ind (fun acc ys st => ∃ (w : List Int) (us : List D) (c' : List Int) (s : Sl), xs = us ++ ys ∧ w.length = us.length ∧ acc = w.map D.int ∧ (∀ x ∈ w, 0 ≤ x ∧ x < V) ∧ DI (B + us.length) c' ∧ st = ⟨env s, c'⟩) (fun y ys acc st hI => ?_) (fun acc st hI => ?_) ⟨[], [], c, s0, rfl, rfl, rfl, fun x hx => (nomatch hx), hd, rfl⟩
  · obtain ⟨w, us, c', s, hx, hw, ha, hr, hd', rfl⟩ := hI
    have hl := congrArg List.length hx
    rw [List.length_append, List.length_cons] at hl
    have hlen : acc.length < 100000 := by rw [ha, List.length_map]; omega
    refine ⟨_, hput s _ c', fun nx n1 n2 => ?_⟩
    rw [wC_no, if_pos rfl]
    (try simp -dsimp only [kK_eq, optK_some, blK_eq, intK_eq, strK_eq, iteK_t, iteK_f, andK_t, sK_some, valS_d, valS_own, valS_tp, ↓wE_v, ↓wE_k, ↓wE_bin, ↓wE_neg, ↓wE_no, ↓wE_cmp, ↓wE_chn, ↓wE_isN, ↓wE_ntN, ↓wE_and, ↓wE_or, ↓wE_orT, ↓wE_ite, ↓wE_call, ↓wE_callk, ↓wE_refused, ↓wE_callc, ↓wE_bi, ↓wE_isi, ↓wE_lenv, ↓wE_ixv, ↓wE_ix, ↓wE_sl, ↓wE_rev, ↓wE_tup, ↓wE_tpl, ↓wE_lst, ↓wE_vtp, ↓wE_index, ↓wE_lrng, ↓wE_sset, ↓comp_eq, ↓allg_eq, lstK_eq, cutK_tup, cutK_lst, cutK_scr, revK_tup, revK_lst, vtpK_tp, ↓wEs_nil, ↓wEs_cons, ↓wVs_nil, ↓wVs_cons, ↓wO_no, ↓wO_yes, ↓wC_no, ↓wC_yes, ↓wI_it, ↓wI_r1, ↓wI_r2, r2K_eq, ↓wI_r3, ↓wI_zip, ↓wS_asg, ↓wS_par, ↓wS_unp, ↓wS_setv, ↓wS_swp, ↓wS_ex, ↓wS_ret, ↓wS_iff, ↓wS_brk, ↓wS_rais, ↓wS_newd, ↓wS_skip, ↓wS_app, ↓wS_ext, ↓wS_aug, ownK_eq, lstD_eq, augK_add, augK_sub, ↓wSs_nil, ↓wSs_cons, ↓whl_eq, ↓fr_eq, b_add, b_sub, b_mul, b_div, b_mod, b_pow, b_addT, b_addL, c_lt, c_le, c_gt, c_ge, c_eq, c_ne, f_abs, f_int, f_min, f_len, f_list, f_tuple, set_mk, sl_d, sl_own, sl_tp, dat_d, dat_own, dat_tp, it_tupW, it_lst, it_scr, items_tab, items_wh, is_own, is_tup, is_lst, is_scr, is_cell, is_tab, is_wh, ln_own, ln_tup, ln_lst, ln_scr, ln_dk, ln_tab, ln_wh, set_d, set_own, set_dk, set_tp, hide1, hide2, putT1, putT2, putT3, sl1, sl2, back1, back2, gone_unW, gone_dW, gone_ownW, setA0, setA1, List.map_cons, List.map_nil, List.length_cons, List.length_nil, List.cons_append, List.nil_append, List.getElem?_cons_zero, List.getElem?_cons_succ, List.replicate_succ, List.replicate_zero, List.set_cons_zero, List.set_cons_succ, exists_eq_left, exists_eq_left', Option.some.injEq, Sl.own.injEq, exists_eq', and_true, true_and, Nat.reduceAdd, Nat.reduceSub, Nat.zero_add, hget])
    refine call_of h1 ⟨V, B + us.length, rfl, hV.1, by omega, hd', by omega, fun r c2 r0 r1 hd2 => ?_⟩
    refine ⟨hlen, n2 _ _ hlen ⟨w ++ [r], us ++ [y], c2, _, by rw [hx]; simp, by simp [hw], by rw [ha, List.map_append]; rfl, fun x hx => ?_, by rw [List.length_append]; exact hd2, rfl⟩⟩
    rcases List.mem_append.mp hx with h | h
    · exact hr x h
    · rw [List.mem_singleton.mp h]
      exact ⟨r0, r1⟩
  · obtain ⟨w, us, c', s, hx, hw, ha, hr, hd', rfl⟩ := hI
    rw [List.append_nil] at hx
    subst hx
    rw [ha]
    exact hq w c' s hw hr hd'
theorem roll_table (h1 : Sg "_law_roll" = sp_roll) {V : Int} (hV : 0 < V ∧ V ≤ 1000) {env : Sl → List Sl} {M : Nat} (hM : 1 ≤ M ∧ M ≤ 60) {i j : Nat} {Q : List D → DS → Prop}
    (hput : ∀ (s : Sl) (x : D) (c : List Int), putT (.one i) x (hide [i] ⟨env s, c⟩) = some ⟨env (.d x), c⟩) (hget : ∀ s, (env s)[0]? = some (.d .cell))
    (h3 : ∀ s, (env s)[j]? = some .un) (hput3 : ∀ (s s3 : Sl) (x : D) (c : List Int), putT (.one j) x (hide [j] ⟨(env s).set j s3, c⟩) = some ⟨(env s).set j (.d x), c⟩) (hget3 : ∀ s s3, ((env s).set j s3)[0]? = some (.d .cell)) (hset : ∀ s s3, ((env s).set j s3).set j .un = env s) (hun : ∀ s, (env s).set j .un = env s)
    {B k : Nat} (hB : B + 61 * k ≤ 1000000) (hk : k ≤ 100) (hq : ∀ (T : List (List Int)) (c' : List Int) (s : Sl), Rolled V M k T → DI (B + 61 * k) c' → Q (T.map whD) ⟨env s, c'⟩) {c : List Int} (hd : DI B c) (s0 : Sl) :
    wCompB Sg (.one i) .no (.bi .tuple (.cons (.comp (.one j) (.r1 (.bin .Add (.k (.int 1)) (.call "_law_roll" (.cons (.v 0) (.cons (.k (.int M)) .nil))))) .no (.call "_law_roll" (.cons (.v 0) (.cons (.k (.int V)) .nil)))) .nil)) (rngD 0 1 k) [] ⟨env s0, c⟩ Q := by
  refine comp_ind (fun acc xs st => ∃ (T : List (List Int)) (m l : Nat) (c' : List Int) (s : Sl), m + l = k ∧ T.length = m ∧ xs = rngD m 1 l ∧ acc = T.map whD ∧ (∀ w ∈ T, 0 < w.length ∧ w.length ≤ M ∧ ∀ x ∈ w, 0 ≤ x ∧ x < V) ∧ DI (B + 61 * m) c' ∧ st = ⟨env s, c'⟩) (fun x xs acc st hI => ?_) (fun acc st hI => ?_) ⟨[], 0, k, c, s0, by omega, rfl, rfl, rfl, fun x hx => (nomatch hx), hd, rfl⟩
  · obtain ⟨T, m, l, c', s, hm, hT, hx, ha, hr, hd', rfl⟩ := hI
    cases l with
    | zero => cases hx
    | succ l =>
      rw [rngD_succ] at hx
      cases hx
      have hlen : acc.length < 100000 := by rw [ha, List.length_map]; omega
      refine ⟨_, hput s _ c', fun nx n1 n2 => ?_⟩
      rw [wC_no, if_pos rfl]
      (try simp -dsimp only [kK_eq, optK_some, blK_eq, intK_eq, strK_eq, iteK_t, iteK_f, andK_t, sK_some, valS_d, valS_own, valS_tp, ↓wE_v, ↓wE_k, ↓wE_bin, ↓wE_neg, ↓wE_no, ↓wE_cmp, ↓wE_chn, ↓wE_isN, ↓wE_ntN, ↓wE_and, ↓wE_or, ↓wE_orT, ↓wE_ite, ↓wE_call, ↓wE_callk, ↓wE_refused, ↓wE_callc, ↓wE_bi, ↓wE_isi, ↓wE_lenv, ↓wE_ixv, ↓wE_ix, ↓wE_sl, ↓wE_rev, ↓wE_tup, ↓wE_tpl, ↓wE_lst, ↓wE_vtp, ↓wE_index, ↓wE_lrng, ↓wE_sset, ↓comp_eq, ↓allg_eq, lstK_eq, cutK_tup, cutK_lst, cutK_scr, revK_tup, revK_lst, vtpK_tp, ↓wEs_nil, ↓wEs_cons, ↓wVs_nil, ↓wVs_cons, ↓wO_no, ↓wO_yes, ↓wC_no, ↓wC_yes, ↓wI_it, ↓wI_r1, ↓wI_r2, r2K_eq, ↓wI_r3, ↓wI_zip, ↓wS_asg, ↓wS_par, ↓wS_unp, ↓wS_setv, ↓wS_swp, ↓wS_ex, ↓wS_ret, ↓wS_iff, ↓wS_brk, ↓wS_rais, ↓wS_newd, ↓wS_skip, ↓wS_app, ↓wS_ext, ↓wS_aug, ownK_eq, lstD_eq, augK_add, augK_sub, ↓wSs_nil, ↓wSs_cons, ↓whl_eq, ↓fr_eq, b_add, b_sub, b_mul, b_div, b_mod, b_pow, b_addT, b_addL, c_lt, c_le, c_gt, c_ge, c_eq, c_ne, f_abs, f_int, f_min, f_len, f_list, f_tuple, set_mk, sl_d, sl_own, sl_tp, dat_d, dat_own, dat_tp, it_tupW, it_lst, it_scr, items_tab, items_wh, is_own, is_tup, is_lst, is_scr, is_cell, is_tab, is_wh, ln_own, ln_tup, ln_lst, ln_scr, ln_dk, ln_tab, ln_wh, set_d, set_own, set_dk, set_tp, hide1, hide2, putT1, putT2, putT3, sl1, sl2, back1, back2, gone_unW, gone_dW, gone_ownW, setA0, setA1, List.map_cons, List.map_nil, List.length_cons, List.length_nil, List.cons_append, List.nil_append, List.getElem?_cons_zero, List.getElem?_cons_succ, List.replicate_succ, List.replicate_zero, List.set_cons_zero, List.set_cons_succ, exists_eq_left, exists_eq_left', Option.some.injEq, Sl.own.injEq, exists_eq', and_true, true_and, Nat.reduceAdd, Nat.reduceSub, Nat.zero_add, hget])
      refine call_of h1 ⟨M, B + 61 * m, rfl, by omega, by omega, hd', by omega, fun r c2 r0 r1 hd2 => ?_⟩
      (try simp -dsimp only [kK_eq, optK_some, blK_eq, intK_eq, strK_eq, iteK_t, iteK_f, andK_t, sK_some, valS_d, valS_own, valS_tp, ↓wE_v, ↓wE_k, ↓wE_bin, ↓wE_neg, ↓wE_no, ↓wE_cmp, ↓wE_chn, ↓wE_isN, ↓wE_ntN, ↓wE_and, ↓wE_or, ↓wE_orT, ↓wE_ite, ↓wE_call, ↓wE_callk, ↓wE_refused, ↓wE_callc, ↓wE_bi, ↓wE_isi, ↓wE_lenv, ↓wE_ixv, ↓wE_ix, ↓wE_sl, ↓wE_rev, ↓wE_tup, ↓wE_tpl, ↓wE_lst, ↓wE_vtp, ↓wE_index, ↓wE_lrng, ↓wE_sset, ↓comp_eq, ↓allg_eq, lstK_eq, cutK_tup, cutK_lst, cutK_scr, revK_tup, revK_lst, vtpK_tp, ↓wEs_nil, ↓wEs_cons, ↓wVs_nil, ↓wVs_cons, ↓wO_no, ↓wO_yes, ↓wC_no, ↓wC_yes, ↓wI_it, ↓wI_r1, ↓wI_r2, r2K_eq, ↓wI_r3, ↓wI_zip, ↓wS_asg, ↓wS_par, ↓wS_unp, ↓wS_setv, ↓wS_swp, ↓wS_ex, ↓wS_ret, ↓wS_iff, ↓wS_brk, ↓wS_rais, ↓wS_newd, ↓wS_skip, ↓wS_app, ↓wS_ext, ↓wS_aug, ownK_eq, lstD_eq, augK_add, augK_sub, ↓wSs_nil, ↓wSs_cons, ↓whl_eq, ↓fr_eq, b_add, b_sub, b_mul, b_div, b_mod, b_pow, b_addT, b_addL, c_lt, c_le, c_gt, c_ge, c_eq, c_ne, f_abs, f_int, f_min, f_len, f_list, f_tuple, set_mk, sl_d, sl_own, sl_tp, dat_d, dat_own, dat_tp, it_tupW, it_lst, it_scr, items_tab, items_wh, is_own, is_tup, is_lst, is_scr, is_cell, is_tab, is_wh, ln_own, ln_tup, ln_lst, ln_scr, ln_dk, ln_tab, ln_wh, set_d, set_own, set_dk, set_tp, hide1, hide2, putT1, putT2, putT3, sl1, sl2, back1, back2, gone_unW, gone_dW, gone_ownW, setA0, setA1, List.map_cons, List.map_nil, List.length_cons, List.length_nil, List.cons_append, List.nil_append, List.getElem?_cons_zero, List.getElem?_cons_succ, List.replicate_succ, List.replicate_zero, List.set_cons_zero, List.set_cons_succ, exists_eq_left, exists_eq_left', Option.some.injEq, Sl.own.injEq, exists_eq', and_true, true_and, Nat.reduceAdd, Nat.reduceSub, Nat.zero_add, hget])
      refine ⟨by unfold rngOk; omega, ?_⟩
      have hrl : (rngD 0 1 (1 + r).toNat).length = (1 + r).toNat := by unfold rngD; rw [List.length_map, List.length_range]
      have z : ∀ Q2 : List D → DS → Prop, (∀ (w : List Int) (c' : List Int) (s : Sl), w.length = (1 + r).toNat → (∀ x ∈ w, 0 ≤ x ∧ x < V) → DI (B + 61 * m + 1 + (1 + r).toNat) c' → Q2 (w.map D.int) ⟨(env (.d (.int m))).set j s, c'⟩) → wCompB Sg (.one j) .no (.call "_law_roll" (.cons (.v 0) (.cons (.k (.int V)) .nil))) (rngD 0 1 (1 + r).toNat) [] ⟨env (.d (.int m)), c2⟩ Q2 := fun Q2 h2 => by
        have z := roll_list (Sg := Sg) (V := V) (i := j) (Q := Q2) (xs := rngD 0 1 (1 + r).toNat) (env := fun s3 => (env (.d (.int m))).set j s3) (B := B + 61 * m + 1) (c := c2) h1 hV (fun s3 x c => hput3 _ s3 x c) (fun s3 => hget3 _ s3) (by omega) (by omega) (by rw [hrl]; exact h2) hd2 .un
        rw [hun] at z
        exact z
      refine z _ fun w c3 s3 hw hwr hd3 => ?_
      (try simp -dsimp only [kK_eq, optK_some, blK_eq, intK_eq, strK_eq, iteK_t, iteK_f, andK_t, sK_some, valS_d, valS_own, valS_tp, ↓wE_v, ↓wE_k, ↓wE_bin, ↓wE_neg, ↓wE_no, ↓wE_cmp, ↓wE_chn, ↓wE_isN, ↓wE_ntN, ↓wE_and, ↓wE_or, ↓wE_orT, ↓wE_ite, ↓wE_call, ↓wE_callk, ↓wE_refused, ↓wE_callc, ↓wE_bi, ↓wE_isi, ↓wE_lenv, ↓wE_ixv, ↓wE_ix, ↓wE_sl, ↓wE_rev, ↓wE_tup, ↓wE_tpl, ↓wE_lst, ↓wE_vtp, ↓wE_index, ↓wE_lrng, ↓wE_sset, ↓comp_eq, ↓allg_eq, lstK_eq, cutK_tup, cutK_lst, cutK_scr, revK_tup, revK_lst, vtpK_tp, ↓wEs_nil, ↓wEs_cons, ↓wVs_nil, ↓wVs_cons, ↓wO_no, ↓wO_yes, ↓wC_no, ↓wC_yes, ↓wI_it, ↓wI_r1, ↓wI_r2, r2K_eq, ↓wI_r3, ↓wI_zip, ↓wS_asg, ↓wS_par, ↓wS_unp, ↓wS_setv, ↓wS_swp, ↓wS_ex, ↓wS_ret, ↓wS_iff, ↓wS_brk, ↓wS_rais, ↓wS_newd, ↓wS_skip, ↓wS_app, ↓wS_ext, ↓wS_aug, ownK_eq, lstD_eq, augK_add, augK_sub, ↓wSs_nil, ↓wSs_cons, ↓whl_eq, ↓fr_eq, b_add, b_sub, b_mul, b_div, b_mod, b_pow, b_addT, b_addL, c_lt, c_le, c_gt, c_ge, c_eq, c_ne, f_abs, f_int, f_min, f_len, f_list, f_tuple, set_mk, sl_d, sl_own, sl_tp, dat_d, dat_own, dat_tp, it_tupW, it_lst, it_scr, items_tab, items_wh, is_own, is_tup, is_lst, is_scr, is_cell, is_tab, is_wh, ln_own, ln_tup, ln_lst, ln_scr, ln_dk, ln_tab, ln_wh, set_d, set_own, set_dk, set_tp, hide1, hide2, putT1, putT2, putT3, sl1, sl2, back1, back2, gone_unW, gone_dW, gone_ownW, setA0, setA1, List.map_cons, List.map_nil, List.length_cons, List.length_nil, List.cons_append, List.nil_append, List.getElem?_cons_zero, List.getElem?_cons_succ, List.replicate_succ, List.replicate_zero, List.set_cons_zero, List.set_cons_succ, exists_eq_left, exists_eq_left', Option.some.injEq, Sl.own.injEq, exists_eq', and_true, true_and, Nat.reduceAdd, Nat.reduceSub, Nat.zero_add, h3, hset])
      refine ⟨hlen, n2 (whD w) _ hlen ⟨T ++ [w], m + 1, l, c3, .d (.int m), by omega, by simp [hT], by simp, by rw [ha]; simp, fun u hu => ?_, hd3.mono (by omega), rfl⟩⟩
      rcases List.mem_append.mp hu with h | h
      · exact hr u h
      · rw [List.mem_singleton.mp h]
        exact ⟨by omega, by omega, hwr⟩
  · obtain ⟨T, m, l, c', s, hm, hT, hx, ha, hr, hd', rfl⟩ := hI
    cases l with
    | succ l =>
      rw [rngD_succ] at hx
      cases hx
    | zero =>
      rw [ha]
      have e : m = k := by omega
      subst e
      exact hq T c' s ⟨by omega, hr⟩ hd'
theorem Rolled.mono {V : Int} {M k K : Nat} {T : List (List Int)} (h : Rolled V M k T) (hk : k ≤ K) : Rolled V M K T := ⟨Nat.le_trans h.1 hk, h.2⟩
theorem Rolled.ts {V : Int} {M K : Nat} {T : List (List Int)} (h : Rolled V M K T) (hM : M ≤ 1000) (hK : K ≤ 12) : TS T := ⟨Nat.le_trans h.1 hK, fun w hw => ⟨(h.2 w hw).1, Nat.le_trans (h.2 w hw).2.1 hM⟩⟩
theorem Rolled.pos {V : Int} {M K : Nat} {T : List (List Int)} (h : Rolled V M K T) : 0 < cyc T := cyc_pos fun w hw => (h.2 w hw).1
/-- tables of few small wheels with low heights -/
theorem tb_of {T : List (List Int)} (h1 : T.length ≤ 6) (h2 : ∀ w ∈ T, 0 < w.length ∧ w.length ≤ 60 ∧ ∀ x ∈ w, -1000000 ≤ x ∧ x ≤ 1000000) : isTb (tabD T) = true := by
  unfold tabD isTb
  rw [Bool.and_eq_true, decide_eq_true_eq, List.length_map, List.all_eq_true]
  refine ⟨h1, fun x hx => ?_⟩
  obtain ⟨w, hw, rfl⟩ := List.mem_map.mp hx
  obtain ⟨h1, h2, h3⟩ := h2 w hw
  unfold whD isWh
  rw [Bool.and_eq_true, Bool.and_eq_true, decide_eq_true_eq, decide_eq_true_eq, List.length_map, List.all_eq_true]
  refine ⟨h1, h2, fun y hy => ?_⟩
  obtain ⟨i, hi, rfl⟩ := List.mem_map.mp hy
  have := h3 i hi
  unfold isHt inR
  simp only [Bool.and_eq_true, decide_eq_true_eq]
  exact this
end LC
end
section
namespace L01
open PySem (Str)
open L2 (atI ixN CMul CDivW CMulW CPow)
open DL LC
variable {Sg : Tab}
def sp_lfirst : Spec := fun ds c Q E => ∃ A B, ∃ n : Nat, ds = [tabD A, tabD B, .int n] ∧ TOk A ∧ TOk B ∧ (n : Int) < 2 ^ 61 ∧ Q (.d (optN (firstU (unl A B) 0 n))) c
theorem k_lfirst (h1 : Sg "_law_height" = sp_lheight) : Keeps Sg 4 b__law_first sp_lfirst := by
  rintro ds c Q E ⟨A, B, n, rfl, hA, hB, hn, hq⟩
  unfold b__law_first
  (try simp -dsimp only [kK_eq, optK_some, blK_eq, intK_eq, strK_eq, iteK_t, iteK_f, andK_t, sK_some, valS_d, valS_own, valS_tp, ↓wE_v, ↓wE_k, ↓wE_bin, ↓wE_neg, ↓wE_no, ↓wE_cmp, ↓wE_chn, ↓wE_isN, ↓wE_ntN, ↓wE_and, ↓wE_or, ↓wE_orT, ↓wE_ite, ↓wE_call, ↓wE_callk, ↓wE_refused, ↓wE_callc, ↓wE_bi, ↓wE_isi, ↓wE_lenv, ↓wE_ixv, ↓wE_ix, ↓wE_sl, ↓wE_rev, ↓wE_tup, ↓wE_tpl, ↓wE_lst, ↓wE_vtp, ↓wE_index, ↓wE_lrng, ↓wE_sset, ↓comp_eq, ↓allg_eq, lstK_eq, cutK_tup, cutK_lst, cutK_scr, revK_tup, revK_lst, vtpK_tp, ↓wEs_nil, ↓wEs_cons, ↓wVs_nil, ↓wVs_cons, ↓wO_no, ↓wO_yes, ↓wC_no, ↓wC_yes, ↓wI_it, ↓wI_r1, ↓wI_r2, r2K_eq, ↓wI_r3, ↓wI_zip, ↓wS_asg, ↓wS_par, ↓wS_unp, ↓wS_setv, ↓wS_swp, ↓wS_ex, ↓wS_ret, ↓wS_iff, ↓wS_brk, ↓wS_rais, ↓wS_newd, ↓wS_skip, ↓wS_app, ↓wS_ext, ↓wS_aug, ownK_eq, lstD_eq, augK_add, augK_sub, ↓wSs_nil, ↓wSs_cons, ↓whl_eq, ↓fr_eq, b_add, b_sub, b_mul, b_div, b_mod, b_pow, b_addT, b_addL, c_lt, c_le, c_gt, c_ge, c_eq, c_ne, f_abs, f_int, f_min, f_len, f_list, f_tuple, set_mk, sl_d, sl_own, sl_tp, dat_d, dat_own, dat_tp, it_tupW, it_lst, it_scr, items_tab, items_wh, is_own, is_tup, is_lst, is_scr, is_cell, is_tab, is_wh, ln_own, ln_tup, ln_lst, ln_scr, ln_dk, ln_tab, ln_wh, set_d, set_own, set_dk, set_tp, hide1, hide2, putT1, putT2, putT3, sl1, sl2, back1, back2, gone_unW, gone_dW, gone_ownW, setA0, setA1, List.map_cons, List.map_nil, List.length_cons, List.length_nil, List.cons_append, List.nil_append, List.getElem?_cons_zero, List.getElem?_cons_succ, List.replicate_succ, List.replicate_zero, List.set_cons_zero, List.set_cons_succ, exists_eq_left, exists_eq_left', Option.some.injEq, Sl.own.injEq, exists_eq', and_true, true_and, Nat.reduceAdd, Nat.reduceSub, Nat.zero_add])
  refine ⟨by unfold rngOk; omega, ?_⟩
  rw [Int.toNat_natCast]
  refine first_loop (A := A) (B := B) (env := fun s => [.d (tabD A), .d (tabD B), .d (.int n), s]) (fun s x => rfl) (fun t N hr hn => ?_) (fun t s h => ?_) (fun s h => ?_) .un
  · (try simp -dsimp only [kK_eq, optK_some, blK_eq, intK_eq, strK_eq, iteK_t, iteK_f, andK_t, sK_some, valS_d, valS_own, valS_tp, ↓wE_v, ↓wE_k, ↓wE_bin, ↓wE_neg, ↓wE_no, ↓wE_cmp, ↓wE_chn, ↓wE_isN, ↓wE_ntN, ↓wE_and, ↓wE_or, ↓wE_orT, ↓wE_ite, ↓wE_call, ↓wE_callk, ↓wE_refused, ↓wE_callc, ↓wE_bi, ↓wE_isi, ↓wE_lenv, ↓wE_ixv, ↓wE_ix, ↓wE_sl, ↓wE_rev, ↓wE_tup, ↓wE_tpl, ↓wE_lst, ↓wE_vtp, ↓wE_index, ↓wE_lrng, ↓wE_sset, ↓comp_eq, ↓allg_eq, lstK_eq, cutK_tup, cutK_lst, cutK_scr, revK_tup, revK_lst, vtpK_tp, ↓wEs_nil, ↓wEs_cons, ↓wVs_nil, ↓wVs_cons, ↓wO_no, ↓wO_yes, ↓wC_no, ↓wC_yes, ↓wI_it, ↓wI_r1, ↓wI_r2, r2K_eq, ↓wI_r3, ↓wI_zip, ↓wS_asg, ↓wS_par, ↓wS_unp, ↓wS_setv, ↓wS_swp, ↓wS_ex, ↓wS_ret, ↓wS_iff, ↓wS_brk, ↓wS_rais, ↓wS_newd, ↓wS_skip, ↓wS_app, ↓wS_ext, ↓wS_aug, ownK_eq, lstD_eq, augK_add, augK_sub, ↓wSs_nil, ↓wSs_cons, ↓whl_eq, ↓fr_eq, b_add, b_sub, b_mul, b_div, b_mod, b_pow, b_addT, b_addL, c_lt, c_le, c_gt, c_ge, c_eq, c_ne, f_abs, f_int, f_min, f_len, f_list, f_tuple, set_mk, sl_d, sl_own, sl_tp, dat_d, dat_own, dat_tp, it_tupW, it_lst, it_scr, items_tab, items_wh, is_own, is_tup, is_lst, is_scr, is_cell, is_tab, is_wh, ln_own, ln_tup, ln_lst, ln_scr, ln_dk, ln_tab, ln_wh, set_d, set_own, set_dk, set_tp, hide1, hide2, putT1, putT2, putT3, sl1, sl2, back1, back2, gone_unW, gone_dW, gone_ownW, setA0, setA1, List.map_cons, List.map_nil, List.length_cons, List.length_nil, List.cons_append, List.nil_append, List.getElem?_cons_zero, List.getElem?_cons_succ, List.replicate_succ, List.replicate_zero, List.set_cons_zero, List.set_cons_succ, exists_eq_left, exists_eq_left', Option.some.injEq, Sl.own.injEq, exists_eq', and_true, true_and, Nat.reduceAdd, Nat.reduceSub, Nat.zero_add])
    refine call_of h1 ⟨A, t, rfl, hA, ?_⟩
    (try simp -dsimp only [kK_eq, optK_some, blK_eq, intK_eq, strK_eq, iteK_t, iteK_f, andK_t, sK_some, valS_d, valS_own, valS_tp, ↓wE_v, ↓wE_k, ↓wE_bin, ↓wE_neg, ↓wE_no, ↓wE_cmp, ↓wE_chn, ↓wE_isN, ↓wE_ntN, ↓wE_and, ↓wE_or, ↓wE_orT, ↓wE_ite, ↓wE_call, ↓wE_callk, ↓wE_refused, ↓wE_callc, ↓wE_bi, ↓wE_isi, ↓wE_lenv, ↓wE_ixv, ↓wE_ix, ↓wE_sl, ↓wE_rev, ↓wE_tup, ↓wE_tpl, ↓wE_lst, ↓wE_vtp, ↓wE_index, ↓wE_lrng, ↓wE_sset, ↓comp_eq, ↓allg_eq, lstK_eq, cutK_tup, cutK_lst, cutK_scr, revK_tup, revK_lst, vtpK_tp, ↓wEs_nil, ↓wEs_cons, ↓wVs_nil, ↓wVs_cons, ↓wO_no, ↓wO_yes, ↓wC_no, ↓wC_yes, ↓wI_it, ↓wI_r1, ↓wI_r2, r2K_eq, ↓wI_r3, ↓wI_zip, ↓wS_asg, ↓wS_par, ↓wS_unp, ↓wS_setv, ↓wS_swp, ↓wS_ex, ↓wS_ret, ↓wS_iff, ↓wS_brk, ↓wS_rais, ↓wS_newd, ↓wS_skip, ↓wS_app, ↓wS_ext, ↓wS_aug, ownK_eq, lstD_eq, augK_add, augK_sub, ↓wSs_nil, ↓wSs_cons, ↓whl_eq, ↓fr_eq, b_add, b_sub, b_mul, b_div, b_mod, b_pow, b_addT, b_addL, c_lt, c_le, c_gt, c_ge, c_eq, c_ne, f_abs, f_int, f_min, f_len, f_list, f_tuple, set_mk, sl_d, sl_own, sl_tp, dat_d, dat_own, dat_tp, it_tupW, it_lst, it_scr, items_tab, items_wh, is_own, is_tup, is_lst, is_scr, is_cell, is_tab, is_wh, ln_own, ln_tup, ln_lst, ln_scr, ln_dk, ln_tab, ln_wh, set_d, set_own, set_dk, set_tp, hide1, hide2, putT1, putT2, putT3, sl1, sl2, back1, back2, gone_unW, gone_dW, gone_ownW, setA0, setA1, List.map_cons, List.map_nil, List.length_cons, List.length_nil, List.cons_append, List.nil_append, List.getElem?_cons_zero, List.getElem?_cons_succ, List.replicate_succ, List.replicate_zero, List.set_cons_zero, List.set_cons_succ, exists_eq_left, exists_eq_left', Option.some.injEq, Sl.own.injEq, exists_eq', and_true, true_and, Nat.reduceAdd, Nat.reduceSub, Nat.zero_add])
    refine call_of h1 ⟨B, t, rfl, hB, ?_⟩
    (try simp -dsimp only [kK_eq, optK_some, blK_eq, intK_eq, strK_eq, iteK_t, iteK_f, andK_t, sK_some, valS_d, valS_own, valS_tp, ↓wE_v, ↓wE_k, ↓wE_bin, ↓wE_neg, ↓wE_no, ↓wE_cmp, ↓wE_chn, ↓wE_isN, ↓wE_ntN, ↓wE_and, ↓wE_or, ↓wE_orT, ↓wE_ite, ↓wE_call, ↓wE_callk, ↓wE_refused, ↓wE_callc, ↓wE_bi, ↓wE_isi, ↓wE_lenv, ↓wE_ixv, ↓wE_ix, ↓wE_sl, ↓wE_rev, ↓wE_tup, ↓wE_tpl, ↓wE_lst, ↓wE_vtp, ↓wE_index, ↓wE_lrng, ↓wE_sset, ↓comp_eq, ↓allg_eq, lstK_eq, cutK_tup, cutK_lst, cutK_scr, revK_tup, revK_lst, vtpK_tp, ↓wEs_nil, ↓wEs_cons, ↓wVs_nil, ↓wVs_cons, ↓wO_no, ↓wO_yes, ↓wC_no, ↓wC_yes, ↓wI_it, ↓wI_r1, ↓wI_r2, r2K_eq, ↓wI_r3, ↓wI_zip, ↓wS_asg, ↓wS_par, ↓wS_unp, ↓wS_setv, ↓wS_swp, ↓wS_ex, ↓wS_ret, ↓wS_iff, ↓wS_brk, ↓wS_rais, ↓wS_newd, ↓wS_skip, ↓wS_app, ↓wS_ext, ↓wS_aug, ownK_eq, lstD_eq, augK_add, augK_sub, ↓wSs_nil, ↓wSs_cons, ↓whl_eq, ↓fr_eq, b_add, b_sub, b_mul, b_div, b_mod, b_pow, b_addT, b_addL, c_lt, c_le, c_gt, c_ge, c_eq, c_ne, f_abs, f_int, f_min, f_len, f_list, f_tuple, set_mk, sl_d, sl_own, sl_tp, dat_d, dat_own, dat_tp, it_tupW, it_lst, it_scr, items_tab, items_wh, is_own, is_tup, is_lst, is_scr, is_cell, is_tab, is_wh, ln_own, ln_tup, ln_lst, ln_scr, ln_dk, ln_tab, ln_wh, set_d, set_own, set_dk, set_tp, hide1, hide2, putT1, putT2, putT3, sl1, sl2, back1, back2, gone_unW, gone_dW, gone_ownW, setA0, setA1, List.map_cons, List.map_nil, List.length_cons, List.length_nil, List.cons_append, List.nil_append, List.getElem?_cons_zero, List.getElem?_cons_succ, List.replicate_succ, List.replicate_zero, List.set_cons_zero, List.set_cons_succ, exists_eq_left, exists_eq_left', Option.some.injEq, Sl.own.injEq, exists_eq', and_true, true_and, Nat.reduceAdd, Nat.reduceSub, Nat.zero_add, hgt_int])
    refine iteK_of (fun h => ?_) (fun h => ?_)
    · (try simp -dsimp only [kK_eq, optK_some, blK_eq, intK_eq, strK_eq, iteK_t, iteK_f, andK_t, sK_some, valS_d, valS_own, valS_tp, ↓wE_v, ↓wE_k, ↓wE_bin, ↓wE_neg, ↓wE_no, ↓wE_cmp, ↓wE_chn, ↓wE_isN, ↓wE_ntN, ↓wE_and, ↓wE_or, ↓wE_orT, ↓wE_ite, ↓wE_call, ↓wE_callk, ↓wE_refused, ↓wE_callc, ↓wE_bi, ↓wE_isi, ↓wE_lenv, ↓wE_ixv, ↓wE_ix, ↓wE_sl, ↓wE_rev, ↓wE_tup, ↓wE_tpl, ↓wE_lst, ↓wE_vtp, ↓wE_index, ↓wE_lrng, ↓wE_sset, ↓comp_eq, ↓allg_eq, lstK_eq, cutK_tup, cutK_lst, cutK_scr, revK_tup, revK_lst, vtpK_tp, ↓wEs_nil, ↓wEs_cons, ↓wVs_nil, ↓wVs_cons, ↓wO_no, ↓wO_yes, ↓wC_no, ↓wC_yes, ↓wI_it, ↓wI_r1, ↓wI_r2, r2K_eq, ↓wI_r3, ↓wI_zip, ↓wS_asg, ↓wS_par, ↓wS_unp, ↓wS_setv, ↓wS_swp, ↓wS_ex, ↓wS_ret, ↓wS_iff, ↓wS_brk, ↓wS_rais, ↓wS_newd, ↓wS_skip, ↓wS_app, ↓wS_ext, ↓wS_aug, ownK_eq, lstD_eq, augK_add, augK_sub, ↓wSs_nil, ↓wSs_cons, ↓whl_eq, ↓fr_eq, b_add, b_sub, b_mul, b_div, b_mod, b_pow, b_addT, b_addL, c_lt, c_le, c_gt, c_ge, c_eq, c_ne, f_abs, f_int, f_min, f_len, f_list, f_tuple, set_mk, sl_d, sl_own, sl_tp, dat_d, dat_own, dat_tp, it_tupW, it_lst, it_scr, items_tab, items_wh, is_own, is_tup, is_lst, is_scr, is_cell, is_tab, is_wh, ln_own, ln_tup, ln_lst, ln_scr, ln_dk, ln_tab, ln_wh, set_d, set_own, set_dk, set_tp, hide1, hide2, putT1, putT2, putT3, sl1, sl2, back1, back2, gone_unW, gone_dW, gone_ownW, setA0, setA1, List.map_cons, List.map_nil, List.length_cons, List.length_nil, List.cons_append, List.nil_append, List.getElem?_cons_zero, List.getElem?_cons_succ, List.replicate_succ, List.replicate_zero, List.set_cons_zero, List.set_cons_succ, exists_eq_left, exists_eq_left', Option.some.injEq, Sl.own.injEq, exists_eq', and_true, true_and, Nat.reduceAdd, Nat.reduceSub, Nat.zero_add])
      exact hr h
    · exact hn h
  · rw [h] at hq
    exact hq
  · rw [h] at hq
    (try simp -dsimp only [kK_eq, optK_some, blK_eq, intK_eq, strK_eq, iteK_t, iteK_f, andK_t, sK_some, valS_d, valS_own, valS_tp, ↓wE_v, ↓wE_k, ↓wE_bin, ↓wE_neg, ↓wE_no, ↓wE_cmp, ↓wE_chn, ↓wE_isN, ↓wE_ntN, ↓wE_and, ↓wE_or, ↓wE_orT, ↓wE_ite, ↓wE_call, ↓wE_callk, ↓wE_refused, ↓wE_callc, ↓wE_bi, ↓wE_isi, ↓wE_lenv, ↓wE_ixv, ↓wE_ix, ↓wE_sl, ↓wE_rev, ↓wE_tup, ↓wE_tpl, ↓wE_lst, ↓wE_vtp, ↓wE_index, ↓wE_lrng, ↓wE_sset, ↓comp_eq, ↓allg_eq, lstK_eq, cutK_tup, cutK_lst, cutK_scr, revK_tup, revK_lst, vtpK_tp, ↓wEs_nil, ↓wEs_cons, ↓wVs_nil, ↓wVs_cons, ↓wO_no, ↓wO_yes, ↓wC_no, ↓wC_yes, ↓wI_it, ↓wI_r1, ↓wI_r2, r2K_eq, ↓wI_r3, ↓wI_zip, ↓wS_asg, ↓wS_par, ↓wS_unp, ↓wS_setv, ↓wS_swp, ↓wS_ex, ↓wS_ret, ↓wS_iff, ↓wS_brk, ↓wS_rais, ↓wS_newd, ↓wS_skip, ↓wS_app, ↓wS_ext, ↓wS_aug, ownK_eq, lstD_eq, augK_add, augK_sub, ↓wSs_nil, ↓wSs_cons, ↓whl_eq, ↓fr_eq, b_add, b_sub, b_mul, b_div, b_mod, b_pow, b_addT, b_addL, c_lt, c_le, c_gt, c_ge, c_eq, c_ne, f_abs, f_int, f_min, f_len, f_list, f_tuple, set_mk, sl_d, sl_own, sl_tp, dat_d, dat_own, dat_tp, it_tupW, it_lst, it_scr, items_tab, items_wh, is_own, is_tup, is_lst, is_scr, is_cell, is_tab, is_wh, ln_own, ln_tup, ln_lst, ln_scr, ln_dk, ln_tab, ln_wh, set_d, set_own, set_dk, set_tp, hide1, hide2, putT1, putT2, putT3, sl1, sl2, back1, back2, gone_unW, gone_dW, gone_ownW, setA0, setA1, List.map_cons, List.map_nil, List.length_cons, List.length_nil, List.cons_append, List.nil_append, List.getElem?_cons_zero, List.getElem?_cons_succ, List.replicate_succ, List.replicate_zero, List.set_cons_zero, List.set_cons_succ, exists_eq_left, exists_eq_left', Option.some.injEq, Sl.own.injEq, exists_eq', and_true, true_and, Nat.reduceAdd, Nat.reduceSub, Nat.zero_add])
    exact hq
def sp_lcomes : Spec := fun ds c Q E => ∃ T, ∃ m n : Nat, ds = [tabD T, .int m, .int n] ∧ TOk T ∧ (n : Int) < 2 ^ 61 ∧ ∀ b : Bool, (b = true ↔ ∀ t : Nat, t < n → hgt T t = hgt T ((t : Int) + (m : Int))) → Q (.d (.bl b)) c
theorem k_lcomes (h1 : Sg "_law_height" = sp_lheight) : Keeps Sg 4 b__law_comes sp_lcomes := by
  rintro ds c Q E ⟨T, m, n, rfl, hT, hn, hq⟩
  unfold b__law_comes
  (try simp -dsimp only [kK_eq, optK_some, blK_eq, intK_eq, strK_eq, iteK_t, iteK_f, andK_t, sK_some, valS_d, valS_own, valS_tp, ↓wE_v, ↓wE_k, ↓wE_bin, ↓wE_neg, ↓wE_no, ↓wE_cmp, ↓wE_chn, ↓wE_isN, ↓wE_ntN, ↓wE_and, ↓wE_or, ↓wE_orT, ↓wE_ite, ↓wE_call, ↓wE_callk, ↓wE_refused, ↓wE_callc, ↓wE_bi, ↓wE_isi, ↓wE_lenv, ↓wE_ixv, ↓wE_ix, ↓wE_sl, ↓wE_rev, ↓wE_tup, ↓wE_tpl, ↓wE_lst, ↓wE_vtp, ↓wE_index, ↓wE_lrng, ↓wE_sset, ↓comp_eq, ↓allg_eq, lstK_eq, cutK_tup, cutK_lst, cutK_scr, revK_tup, revK_lst, vtpK_tp, ↓wEs_nil, ↓wEs_cons, ↓wVs_nil, ↓wVs_cons, ↓wO_no, ↓wO_yes, ↓wC_no, ↓wC_yes, ↓wI_it, ↓wI_r1, ↓wI_r2, r2K_eq, ↓wI_r3, ↓wI_zip, ↓wS_asg, ↓wS_par, ↓wS_unp, ↓wS_setv, ↓wS_swp, ↓wS_ex, ↓wS_ret, ↓wS_iff, ↓wS_brk, ↓wS_rais, ↓wS_newd, ↓wS_skip, ↓wS_app, ↓wS_ext, ↓wS_aug, ownK_eq, lstD_eq, augK_add, augK_sub, ↓wSs_nil, ↓wSs_cons, ↓whl_eq, ↓fr_eq, b_add, b_sub, b_mul, b_div, b_mod, b_pow, b_addT, b_addL, c_lt, c_le, c_gt, c_ge, c_eq, c_ne, f_abs, f_int, f_min, f_len, f_list, f_tuple, set_mk, sl_d, sl_own, sl_tp, dat_d, dat_own, dat_tp, it_tupW, it_lst, it_scr, items_tab, items_wh, is_own, is_tup, is_lst, is_scr, is_cell, is_tab, is_wh, ln_own, ln_tup, ln_lst, ln_scr, ln_dk, ln_tab, ln_wh, set_d, set_own, set_dk, set_tp, hide1, hide2, putT1, putT2, putT3, sl1, sl2, back1, back2, gone_unW, gone_dW, gone_ownW, setA0, setA1, List.map_cons, List.map_nil, List.length_cons, List.length_nil, List.cons_append, List.nil_append, List.getElem?_cons_zero, List.getElem?_cons_succ, List.replicate_succ, List.replicate_zero, List.set_cons_zero, List.set_cons_succ, exists_eq_left, exists_eq_left', Option.some.injEq, Sl.own.injEq, exists_eq', and_true, true_and, Nat.reduceAdd, Nat.reduceSub, Nat.zero_add])
  refine ⟨by unfold rngOk; omega, ?_⟩
  rw [Int.toNat_natCast]
  refine for_ind (fun xs st => ∃ (a k : Nat) (s : Sl), a + k = n ∧ xs = rngD a 1 k ∧ (∀ t : Nat, t < a → hgt T t = hgt T ((t : Int) + (m : Int))) ∧ st = ⟨[.d (tabD T), .d (.int m), .d (.int n), s], c⟩) (fun x xs st hI => ?_) (fun st hI => ?_) ⟨0, n, _, by omega, rfl, fun t ht => absurd ht (Nat.not_lt_zero _), rfl⟩
  · obtain ⟨a, k, s, ha, hx, hp, rfl⟩ := hI
    cases k with
    | zero => cases hx
    | succ k =>
      rw [rngD_succ] at hx
      cases hx
      refine ⟨_, rfl, fun nx n1 => ?_⟩
      (try simp -dsimp only [kK_eq, optK_some, blK_eq, intK_eq, strK_eq, iteK_t, iteK_f, andK_t, sK_some, valS_d, valS_own, valS_tp, ↓wE_v, ↓wE_k, ↓wE_bin, ↓wE_neg, ↓wE_no, ↓wE_cmp, ↓wE_chn, ↓wE_isN, ↓wE_ntN, ↓wE_and, ↓wE_or, ↓wE_orT, ↓wE_ite, ↓wE_call, ↓wE_callk, ↓wE_refused, ↓wE_callc, ↓wE_bi, ↓wE_isi, ↓wE_lenv, ↓wE_ixv, ↓wE_ix, ↓wE_sl, ↓wE_rev, ↓wE_tup, ↓wE_tpl, ↓wE_lst, ↓wE_vtp, ↓wE_index, ↓wE_lrng, ↓wE_sset, ↓comp_eq, ↓allg_eq, lstK_eq, cutK_tup, cutK_lst, cutK_scr, revK_tup, revK_lst, vtpK_tp, ↓wEs_nil, ↓wEs_cons, ↓wVs_nil, ↓wVs_cons, ↓wO_no, ↓wO_yes, ↓wC_no, ↓wC_yes, ↓wI_it, ↓wI_r1, ↓wI_r2, r2K_eq, ↓wI_r3, ↓wI_zip, ↓wS_asg, ↓wS_par, ↓wS_unp, ↓wS_setv, ↓wS_swp, ↓wS_ex, ↓wS_ret, ↓wS_iff, ↓wS_brk, ↓wS_rais, ↓wS_newd, ↓wS_skip, ↓wS_app, ↓wS_ext, ↓wS_aug, ownK_eq, lstD_eq, augK_add, augK_sub, ↓wSs_nil, ↓wSs_cons, ↓whl_eq, ↓fr_eq, b_add, b_sub, b_mul, b_div, b_mod, b_pow, b_addT, b_addL, c_lt, c_le, c_gt, c_ge, c_eq, c_ne, f_abs, f_int, f_min, f_len, f_list, f_tuple, set_mk, sl_d, sl_own, sl_tp, dat_d, dat_own, dat_tp, it_tupW, it_lst, it_scr, items_tab, items_wh, is_own, is_tup, is_lst, is_scr, is_cell, is_tab, is_wh, ln_own, ln_tup, ln_lst, ln_scr, ln_dk, ln_tab, ln_wh, set_d, set_own, set_dk, set_tp, hide1, hide2, putT1, putT2, putT3, sl1, sl2, back1, back2, gone_unW, gone_dW, gone_ownW, setA0, setA1, List.map_cons, List.map_nil, List.length_cons, List.length_nil, List.cons_append, List.nil_append, List.getElem?_cons_zero, List.getElem?_cons_succ, List.replicate_succ, List.replicate_zero, List.set_cons_zero, List.set_cons_succ, exists_eq_left, exists_eq_left', Option.some.injEq, Sl.own.injEq, exists_eq', and_true, true_and, Nat.reduceAdd, Nat.reduceSub, Nat.zero_add])
      refine call_of h1 ⟨T, a, rfl, hT, ?_⟩
      (try simp -dsimp only [kK_eq, optK_some, blK_eq, intK_eq, strK_eq, iteK_t, iteK_f, andK_t, sK_some, valS_d, valS_own, valS_tp, ↓wE_v, ↓wE_k, ↓wE_bin, ↓wE_neg, ↓wE_no, ↓wE_cmp, ↓wE_chn, ↓wE_isN, ↓wE_ntN, ↓wE_and, ↓wE_or, ↓wE_orT, ↓wE_ite, ↓wE_call, ↓wE_callk, ↓wE_refused, ↓wE_callc, ↓wE_bi, ↓wE_isi, ↓wE_lenv, ↓wE_ixv, ↓wE_ix, ↓wE_sl, ↓wE_rev, ↓wE_tup, ↓wE_tpl, ↓wE_lst, ↓wE_vtp, ↓wE_index, ↓wE_lrng, ↓wE_sset, ↓comp_eq, ↓allg_eq, lstK_eq, cutK_tup, cutK_lst, cutK_scr, revK_tup, revK_lst, vtpK_tp, ↓wEs_nil, ↓wEs_cons, ↓wVs_nil, ↓wVs_cons, ↓wO_no, ↓wO_yes, ↓wC_no, ↓wC_yes, ↓wI_it, ↓wI_r1, ↓wI_r2, r2K_eq, ↓wI_r3, ↓wI_zip, ↓wS_asg, ↓wS_par, ↓wS_unp, ↓wS_setv, ↓wS_swp, ↓wS_ex, ↓wS_ret, ↓wS_iff, ↓wS_brk, ↓wS_rais, ↓wS_newd, ↓wS_skip, ↓wS_app, ↓wS_ext, ↓wS_aug, ownK_eq, lstD_eq, augK_add, augK_sub, ↓wSs_nil, ↓wSs_cons, ↓whl_eq, ↓fr_eq, b_add, b_sub, b_mul, b_div, b_mod, b_pow, b_addT, b_addL, c_lt, c_le, c_gt, c_ge, c_eq, c_ne, f_abs, f_int, f_min, f_len, f_list, f_tuple, set_mk, sl_d, sl_own, sl_tp, dat_d, dat_own, dat_tp, it_tupW, it_lst, it_scr, items_tab, items_wh, is_own, is_tup, is_lst, is_scr, is_cell, is_tab, is_wh, ln_own, ln_tup, ln_lst, ln_scr, ln_dk, ln_tab, ln_wh, set_d, set_own, set_dk, set_tp, hide1, hide2, putT1, putT2, putT3, sl1, sl2, back1, back2, gone_unW, gone_dW, gone_ownW, setA0, setA1, List.map_cons, List.map_nil, List.length_cons, List.length_nil, List.cons_append, List.nil_append, List.getElem?_cons_zero, List.getElem?_cons_succ, List.replicate_succ, List.replicate_zero, List.set_cons_zero, List.set_cons_succ, exists_eq_left, exists_eq_left', Option.some.injEq, Sl.own.injEq, exists_eq', and_true, true_and, Nat.reduceAdd, Nat.reduceSub, Nat.zero_add])
      refine call_of h1 ⟨T, (a : Int) + m, rfl, hT, ?_⟩
      (try simp -dsimp only [kK_eq, optK_some, blK_eq, intK_eq, strK_eq, iteK_t, iteK_f, andK_t, sK_some, valS_d, valS_own, valS_tp, ↓wE_v, ↓wE_k, ↓wE_bin, ↓wE_neg, ↓wE_no, ↓wE_cmp, ↓wE_chn, ↓wE_isN, ↓wE_ntN, ↓wE_and, ↓wE_or, ↓wE_orT, ↓wE_ite, ↓wE_call, ↓wE_callk, ↓wE_refused, ↓wE_callc, ↓wE_bi, ↓wE_isi, ↓wE_lenv, ↓wE_ixv, ↓wE_ix, ↓wE_sl, ↓wE_rev, ↓wE_tup, ↓wE_tpl, ↓wE_lst, ↓wE_vtp, ↓wE_index, ↓wE_lrng, ↓wE_sset, ↓comp_eq, ↓allg_eq, lstK_eq, cutK_tup, cutK_lst, cutK_scr, revK_tup, revK_lst, vtpK_tp, ↓wEs_nil, ↓wEs_cons, ↓wVs_nil, ↓wVs_cons, ↓wO_no, ↓wO_yes, ↓wC_no, ↓wC_yes, ↓wI_it, ↓wI_r1, ↓wI_r2, r2K_eq, ↓wI_r3, ↓wI_zip, ↓wS_asg, ↓wS_par, ↓wS_unp, ↓wS_setv, ↓wS_swp, ↓wS_ex, ↓wS_ret, ↓wS_iff, ↓wS_brk, ↓wS_rais, ↓wS_newd, ↓wS_skip, ↓wS_app, ↓wS_ext, ↓wS_aug, ownK_eq, lstD_eq, augK_add, augK_sub, ↓wSs_nil, ↓wSs_cons, ↓whl_eq, ↓fr_eq, b_add, b_sub, b_mul, b_div, b_mod, b_pow, b_addT, b_addL, c_lt, c_le, c_gt, c_ge, c_eq, c_ne, f_abs, f_int, f_min, f_len, f_list, f_tuple, set_mk, sl_d, sl_own, sl_tp, dat_d, dat_own, dat_tp, it_tupW, it_lst, it_scr, items_tab, items_wh, is_own, is_tup, is_lst, is_scr, is_cell, is_tab, is_wh, ln_own, ln_tup, ln_lst, ln_scr, ln_dk, ln_tab, ln_wh, set_d, set_own, set_dk, set_tp, hide1, hide2, putT1, putT2, putT3, sl1, sl2, back1, back2, gone_unW, gone_dW, gone_ownW, setA0, setA1, List.map_cons, List.map_nil, List.length_cons, List.length_nil, List.cons_append, List.nil_append, List.getElem?_cons_zero, List.getElem?_cons_succ, List.replicate_succ, List.replicate_zero, List.set_cons_zero, List.set_cons_succ, exists_eq_left, exists_eq_left', Option.some.injEq, Sl.own.injEq, exists_eq', and_true, true_and, Nat.reduceAdd, Nat.reduceSub, Nat.zero_add])
      refine iteK_of (fun h => ?_) (fun h => ?_)
      · (try simp -dsimp only [kK_eq, optK_some, blK_eq, intK_eq, strK_eq, iteK_t, iteK_f, andK_t, sK_some, valS_d, valS_own, valS_tp, ↓wE_v, ↓wE_k, ↓wE_bin, ↓wE_neg, ↓wE_no, ↓wE_cmp, ↓wE_chn, ↓wE_isN, ↓wE_ntN, ↓wE_and, ↓wE_or, ↓wE_orT, ↓wE_ite, ↓wE_call, ↓wE_callk, ↓wE_refused, ↓wE_callc, ↓wE_bi, ↓wE_isi, ↓wE_lenv, ↓wE_ixv, ↓wE_ix, ↓wE_sl, ↓wE_rev, ↓wE_tup, ↓wE_tpl, ↓wE_lst, ↓wE_vtp, ↓wE_index, ↓wE_lrng, ↓wE_sset, ↓comp_eq, ↓allg_eq, lstK_eq, cutK_tup, cutK_lst, cutK_scr, revK_tup, revK_lst, vtpK_tp, ↓wEs_nil, ↓wEs_cons, ↓wVs_nil, ↓wVs_cons, ↓wO_no, ↓wO_yes, ↓wC_no, ↓wC_yes, ↓wI_it, ↓wI_r1, ↓wI_r2, r2K_eq, ↓wI_r3, ↓wI_zip, ↓wS_asg, ↓wS_par, ↓wS_unp, ↓wS_setv, ↓wS_swp, ↓wS_ex, ↓wS_ret, ↓wS_iff, ↓wS_brk, ↓wS_rais, ↓wS_newd, ↓wS_skip, ↓wS_app, ↓wS_ext, ↓wS_aug, ownK_eq, lstD_eq, augK_add, augK_sub, ↓wSs_nil, ↓wSs_cons, ↓whl_eq, ↓fr_eq, b_add, b_sub, b_mul, b_div, b_mod, b_pow, b_addT, b_addL, c_lt, c_le, c_gt, c_ge, c_eq, c_ne, f_abs, f_int, f_min, f_len, f_list, f_tuple, set_mk, sl_d, sl_own, sl_tp, dat_d, dat_own, dat_tp, it_tupW, it_lst, it_scr, items_tab, items_wh, is_own, is_tup, is_lst, is_scr, is_cell, is_tab, is_wh, ln_own, ln_tup, ln_lst, ln_scr, ln_dk, ln_tab, ln_wh, set_d, set_own, set_dk, set_tp, hide1, hide2, putT1, putT2, putT3, sl1, sl2, back1, back2, gone_unW, gone_dW, gone_ownW, setA0, setA1, List.map_cons, List.map_nil, List.length_cons, List.length_nil, List.cons_append, List.nil_append, List.getElem?_cons_zero, List.getElem?_cons_succ, List.replicate_succ, List.replicate_zero, List.set_cons_zero, List.set_cons_succ, exists_eq_left, exists_eq_left', Option.some.injEq, Sl.own.injEq, exists_eq', and_true, true_and, Nat.reduceAdd, Nat.reduceSub, Nat.zero_add])
        refine hq false ⟨fun z => (by cases z), fun z => ?_⟩
        rw [decide_eq_true (z a (by omega))] at h
        cases h
      · refine n1 _ ⟨a + 1, k, .d (.int a), by omega, by simp, fun t ht => ?_, rfl⟩
        by_cases z : t = a
        · subst z
          have := of_decide_eq_true (p := hgt T (t : Int) = hgt T ((t : Int) + (m : Int))) (by cases q : decide (hgt T (t : Int) = hgt T ((t : Int) + (m : Int))) with
            | true => rfl
            | false => rw [q] at h; cases h)
          exact this
        · exact hp t (by omega)
  · obtain ⟨a, k, s, ha, hx, hp, rfl⟩ := hI
    cases k with
    | succ k =>
      rw [rngD_succ] at hx
      cases hx
    | zero =>
      have e : a = n := by omega
      subst e
      (try simp -dsimp only [kK_eq, optK_some, blK_eq, intK_eq, strK_eq, iteK_t, iteK_f, andK_t, sK_some, valS_d, valS_own, valS_tp, ↓wE_v, ↓wE_k, ↓wE_bin, ↓wE_neg, ↓wE_no, ↓wE_cmp, ↓wE_chn, ↓wE_isN, ↓wE_ntN, ↓wE_and, ↓wE_or, ↓wE_orT, ↓wE_ite, ↓wE_call, ↓wE_callk, ↓wE_refused, ↓wE_callc, ↓wE_bi, ↓wE_isi, ↓wE_lenv, ↓wE_ixv, ↓wE_ix, ↓wE_sl, ↓wE_rev, ↓wE_tup, ↓wE_tpl, ↓wE_lst, ↓wE_vtp, ↓wE_index, ↓wE_lrng, ↓wE_sset, ↓comp_eq, ↓allg_eq, lstK_eq, cutK_tup, cutK_lst, cutK_scr, revK_tup, revK_lst, vtpK_tp, ↓wEs_nil, ↓wEs_cons, ↓wVs_nil, ↓wVs_cons, ↓wO_no, ↓wO_yes, ↓wC_no, ↓wC_yes, ↓wI_it, ↓wI_r1, ↓wI_r2, r2K_eq, ↓wI_r3, ↓wI_zip, ↓wS_asg, ↓wS_par, ↓wS_unp, ↓wS_setv, ↓wS_swp, ↓wS_ex, ↓wS_ret, ↓wS_iff, ↓wS_brk, ↓wS_rais, ↓wS_newd, ↓wS_skip, ↓wS_app, ↓wS_ext, ↓wS_aug, ownK_eq, lstD_eq, augK_add, augK_sub, ↓wSs_nil, ↓wSs_cons, ↓whl_eq, ↓fr_eq, b_add, b_sub, b_mul, b_div, b_mod, b_pow, b_addT, b_addL, c_lt, c_le, c_gt, c_ge, c_eq, c_ne, f_abs, f_int, f_min, f_len, f_list, f_tuple, set_mk, sl_d, sl_own, sl_tp, dat_d, dat_own, dat_tp, it_tupW, it_lst, it_scr, items_tab, items_wh, is_own, is_tup, is_lst, is_scr, is_cell, is_tab, is_wh, ln_own, ln_tup, ln_lst, ln_scr, ln_dk, ln_tab, ln_wh, set_d, set_own, set_dk, set_tp, hide1, hide2, putT1, putT2, putT3, sl1, sl2, back1, back2, gone_unW, gone_dW, gone_ownW, setA0, setA1, List.map_cons, List.map_nil, List.length_cons, List.length_nil, List.cons_append, List.nil_append, List.getElem?_cons_zero, List.getElem?_cons_succ, List.replicate_succ, List.replicate_zero, List.set_cons_zero, List.set_cons_succ, exists_eq_left, exists_eq_left', Option.some.injEq, Sl.own.injEq, exists_eq', and_true, true_and, Nat.reduceAdd, Nat.reduceSub, Nat.zero_add])
      exact hq true ⟨fun _ => hp, fun _ => rfl⟩
/-- wheels that are made of rolled ones: sizes, heights -/
def Mk (k B : Nat) (T : List (List Int)) : Prop := ∀ w ∈ T, (∃ n j : Nat, 1 ≤ n ∧ n ≤ 8 ∧ j ≤ k ∧ w.length = n * 2 ^ j) ∧ ∀ x ∈ w, -(B : Int) ≤ x ∧ x ≤ B
theorem mk_sz : ∀ n ≤ 8, ∀ j ≤ 2, 1 ≤ n → n * 2 ^ j ∈ SZ := by decide
theorem Mk.sz {k B : Nat} {T : List (List Int)} (h : Mk k B T) (hk : k ≤ 2) : SzOk T := fun w hw => by
  obtain ⟨⟨n, j, h1, h2, h3, h4⟩, _⟩ := h w hw
  rw [h4]
  exact mk_sz n h2 j (by omega) h1
theorem Mk.mono {k k' B B' : Nat} {T : List (List Int)} (h : Mk k B T) (hk : k ≤ k') (hB : B ≤ B') : Mk k' B' T := fun w hw => by
  obtain ⟨⟨n, j, h1, h2, h3, h4⟩, h5⟩ := h w hw
  exact ⟨⟨n, j, h1, h2, by omega, h4⟩, fun x hx => by have := h5 x hx; omega⟩
theorem Mk.app {k B : Nat} {S T : List (List Int)} (h1 : Mk k B S) (h2 : Mk k B T) : Mk k B (S ++ T) := fun w hw => by
  rcases List.mem_append.mp hw with z | z
  · exact h1 w z
  · exact h2 w z
theorem Mk.sub {k B : Nat} {S T : List (List Int)} (h : Mk k B T) (hs : ∀ w ∈ S, w ∈ T) : Mk k B S := fun w hw => h w (hs w hw)
theorem Mk.len {k B : Nat} {T : List (List Int)} (h : Mk k B T) (hk : k ≤ 2) {w : List Int} (hw : w ∈ T) : 0 < w.length ∧ w.length ≤ 32 := ⟨sz_pos _ (h.sz hk w hw), sz_le _ (h.sz hk w hw)⟩
def sp_lother : Spec := fun ds c Q E => ∃ T, ∃ k B b : Nat, ds = [.cell, tabD T] ∧ T.length ≤ 3 ∧ Mk k B T ∧ k ≤ 1 ∧ 10 ≤ B ∧ B ≤ 1000 ∧ DI b c ∧ b ≤ 900000 ∧ ∀ T' c', T'.length ≤ 4 → Mk (k + 1) (B + 10) T' → DI (b + 100) c' → Q (.d (tabD T')) c'
theorem c_eqn (i j : Int) (h : i = j) : decide (i = j) = true := decide_eq_true h
theorem c_eqf (i j : Int) (h : ¬ i = j) : decide (i = j) = false := decide_eq_false h
theorem k_lother (h1 : Sg "_law_roll" = sp_roll) (h2 : Sg "_law_pick" = sp_pick) : Keeps Sg 11 b__law_other sp_lother := by
  rintro ds c Q E ⟨T, k, B, b, rfl, hT, hM, hk, hB0, hB, hd, hb, hq⟩
  unfold b__law_other
  cases T with
  | nil =>
    (try simp -dsimp only [kK_eq, optK_some, blK_eq, intK_eq, strK_eq, iteK_t, iteK_f, andK_t, sK_some, valS_d, valS_own, valS_tp, ↓wE_v, ↓wE_k, ↓wE_bin, ↓wE_neg, ↓wE_no, ↓wE_cmp, ↓wE_chn, ↓wE_isN, ↓wE_ntN, ↓wE_and, ↓wE_or, ↓wE_orT, ↓wE_ite, ↓wE_call, ↓wE_callk, ↓wE_refused, ↓wE_callc, ↓wE_bi, ↓wE_isi, ↓wE_lenv, ↓wE_ixv, ↓wE_ix, ↓wE_sl, ↓wE_rev, ↓wE_tup, ↓wE_tpl, ↓wE_lst, ↓wE_vtp, ↓wE_index, ↓wE_lrng, ↓wE_sset, ↓comp_eq, ↓allg_eq, lstK_eq, cutK_tup, cutK_lst, cutK_scr, revK_tup, revK_lst, vtpK_tp, ↓wEs_nil, ↓wEs_cons, ↓wVs_nil, ↓wVs_cons, ↓wO_no, ↓wO_yes, ↓wC_no, ↓wC_yes, ↓wI_it, ↓wI_r1, ↓wI_r2, r2K_eq, ↓wI_r3, ↓wI_zip, ↓wS_asg, ↓wS_par, ↓wS_unp, ↓wS_setv, ↓wS_swp, ↓wS_ex, ↓wS_ret, ↓wS_iff, ↓wS_brk, ↓wS_rais, ↓wS_newd, ↓wS_skip, ↓wS_app, ↓wS_ext, ↓wS_aug, ownK_eq, lstD_eq, augK_add, augK_sub, ↓wSs_nil, ↓wSs_cons, ↓whl_eq, ↓fr_eq, b_add, b_sub, b_mul, b_div, b_mod, b_pow, b_addT, b_addL, c_lt, c_le, c_gt, c_ge, c_eq, c_ne, f_abs, f_int, f_min, f_len, f_list, f_tuple, set_mk, sl_d, sl_own, sl_tp, dat_d, dat_own, dat_tp, it_tupW, it_lst, it_scr, items_tab, items_wh, is_own, is_tup, is_lst, is_scr, is_cell, is_tab, is_wh, ln_own, ln_tup, ln_lst, ln_scr, ln_dk, ln_tab, ln_wh, set_d, set_own, set_dk, set_tp, hide1, hide2, putT1, putT2, putT3, sl1, sl2, back1, back2, gone_unW, gone_dW, gone_ownW, setA0, setA1, List.map_cons, List.map_nil, List.length_cons, List.length_nil, List.cons_append, List.nil_append, List.getElem?_cons_zero, List.getElem?_cons_succ, List.replicate_succ, List.replicate_zero, List.set_cons_zero, List.set_cons_succ, exists_eq_left, exists_eq_left', Option.some.injEq, Sl.own.injEq, exists_eq', and_true, true_and, Nat.reduceAdd, Nat.reduceSub, Nat.zero_add])
    refine ite_y rfl ?_
    (try simp -dsimp only [kK_eq, optK_some, blK_eq, intK_eq, strK_eq, iteK_t, iteK_f, andK_t, sK_some, valS_d, valS_own, valS_tp, ↓wE_v, ↓wE_k, ↓wE_bin, ↓wE_neg, ↓wE_no, ↓wE_cmp, ↓wE_chn, ↓wE_isN, ↓wE_ntN, ↓wE_and, ↓wE_or, ↓wE_orT, ↓wE_ite, ↓wE_call, ↓wE_callk, ↓wE_refused, ↓wE_callc, ↓wE_bi, ↓wE_isi, ↓wE_lenv, ↓wE_ixv, ↓wE_ix, ↓wE_sl, ↓wE_rev, ↓wE_tup, ↓wE_tpl, ↓wE_lst, ↓wE_vtp, ↓wE_index, ↓wE_lrng, ↓wE_sset, ↓comp_eq, ↓allg_eq, lstK_eq, cutK_tup, cutK_lst, cutK_scr, revK_tup, revK_lst, vtpK_tp, ↓wEs_nil, ↓wEs_cons, ↓wVs_nil, ↓wVs_cons, ↓wO_no, ↓wO_yes, ↓wC_no, ↓wC_yes, ↓wI_it, ↓wI_r1, ↓wI_r2, r2K_eq, ↓wI_r3, ↓wI_zip, ↓wS_asg, ↓wS_par, ↓wS_unp, ↓wS_setv, ↓wS_swp, ↓wS_ex, ↓wS_ret, ↓wS_iff, ↓wS_brk, ↓wS_rais, ↓wS_newd, ↓wS_skip, ↓wS_app, ↓wS_ext, ↓wS_aug, ownK_eq, lstD_eq, augK_add, augK_sub, ↓wSs_nil, ↓wSs_cons, ↓whl_eq, ↓fr_eq, b_add, b_sub, b_mul, b_div, b_mod, b_pow, b_addT, b_addL, c_lt, c_le, c_gt, c_ge, c_eq, c_ne, f_abs, f_int, f_min, f_len, f_list, f_tuple, set_mk, sl_d, sl_own, sl_tp, dat_d, dat_own, dat_tp, it_tupW, it_lst, it_scr, items_tab, items_wh, is_own, is_tup, is_lst, is_scr, is_cell, is_tab, is_wh, ln_own, ln_tup, ln_lst, ln_scr, ln_dk, ln_tab, ln_wh, set_d, set_own, set_dk, set_tp, hide1, hide2, putT1, putT2, putT3, sl1, sl2, back1, back2, gone_unW, gone_dW, gone_ownW, setA0, setA1, List.map_cons, List.map_nil, List.length_cons, List.length_nil, List.cons_append, List.nil_append, List.getElem?_cons_zero, List.getElem?_cons_succ, List.replicate_succ, List.replicate_zero, List.set_cons_zero, List.set_cons_succ, exists_eq_left, exists_eq_left', Option.some.injEq, Sl.own.injEq, exists_eq', and_true, true_and, Nat.reduceAdd, Nat.reduceSub, Nat.zero_add])
    refine call_of h2 ⟨_, b, rfl, by simp, by simp, hd, by omega, fun x c2 hx hd2 => ?_⟩
    have one : ∀ T : List (List Int), T ∈ ([[], [[0]], [[1, -1], [-1, 1]], [[0, 1]]] : List (List (List Int))) → Q (.d (tabD T)) c2 := fun T h => by
      refine hq T c2 ?_ ?_ (hd2.mono (by omega))
      · revert T
        decide
      · have hm : ∀ T ∈ ([[], [[0]], [[1, -1], [-1, 1]], [[0, 1]]] : List (List (List Int))), ∀ w ∈ T, (w.length = 1 ∨ w.length = 2) ∧ ∀ x ∈ w, -1 ≤ x ∧ x ≤ 1 := by decide
        intro w hw
        obtain ⟨z1, z2⟩ := hm T h w hw
        refine ⟨?_, fun x hx => by have := z2 x hx; omega⟩
        rcases z1 with z | z
        · exact ⟨1, 0, by omega, by omega, by omega, z⟩
        · exact ⟨2, 0, by omega, by omega, by omega, z⟩
    rcases List.mem_cons.mp hx with rfl | hx
    · exact one [] (by simp)
    · rcases List.mem_cons.mp hx with rfl | hx
      · exact one [[0]] (by simp)
      · rcases List.mem_cons.mp hx with rfl | hx
        · exact one [[1, -1], [-1, 1]] (by simp)
        · rw [List.mem_singleton.mp hx]
          exact one [[0, 1]] (by simp)
  | cons w0 T0 =>
    generalize hTe : w0 :: T0 = T at *
    have hT0 : 0 < T.length := by rw [← hTe]; simp
    clear hTe
    (try simp -dsimp only [kK_eq, optK_some, blK_eq, intK_eq, strK_eq, iteK_t, iteK_f, andK_t, sK_some, valS_d, valS_own, valS_tp, ↓wE_v, ↓wE_k, ↓wE_bin, ↓wE_neg, ↓wE_no, ↓wE_cmp, ↓wE_chn, ↓wE_isN, ↓wE_ntN, ↓wE_and, ↓wE_or, ↓wE_orT, ↓wE_ite, ↓wE_call, ↓wE_callk, ↓wE_refused, ↓wE_callc, ↓wE_bi, ↓wE_isi, ↓wE_lenv, ↓wE_ixv, ↓wE_ix, ↓wE_sl, ↓wE_rev, ↓wE_tup, ↓wE_tpl, ↓wE_lst, ↓wE_vtp, ↓wE_index, ↓wE_lrng, ↓wE_sset, ↓comp_eq, ↓allg_eq, lstK_eq, cutK_tup, cutK_lst, cutK_scr, revK_tup, revK_lst, vtpK_tp, ↓wEs_nil, ↓wEs_cons, ↓wVs_nil, ↓wVs_cons, ↓wO_no, ↓wO_yes, ↓wC_no, ↓wC_yes, ↓wI_it, ↓wI_r1, ↓wI_r2, r2K_eq, ↓wI_r3, ↓wI_zip, ↓wS_asg, ↓wS_par, ↓wS_unp, ↓wS_setv, ↓wS_swp, ↓wS_ex, ↓wS_ret, ↓wS_iff, ↓wS_brk, ↓wS_rais, ↓wS_newd, ↓wS_skip, ↓wS_app, ↓wS_ext, ↓wS_aug, ownK_eq, lstD_eq, augK_add, augK_sub, ↓wSs_nil, ↓wSs_cons, ↓whl_eq, ↓fr_eq, b_add, b_sub, b_mul, b_div, b_mod, b_pow, b_addT, b_addL, c_lt, c_le, c_gt, c_ge, c_eq, c_ne, f_abs, f_int, f_min, f_len, f_list, f_tuple, set_mk, sl_d, sl_own, sl_tp, dat_d, dat_own, dat_tp, it_tupW, it_lst, it_scr, items_tab, items_wh, is_own, is_tup, is_lst, is_scr, is_cell, is_tab, is_wh, ln_own, ln_tup, ln_lst, ln_scr, ln_dk, ln_tab, ln_wh, set_d, set_own, set_dk, set_tp, hide1, hide2, putT1, putT2, putT3, sl1, sl2, back1, back2, gone_unW, gone_dW, gone_ownW, setA0, setA1, List.map_cons, List.map_nil, List.length_cons, List.length_nil, List.cons_append, List.nil_append, List.getElem?_cons_zero, List.getElem?_cons_succ, List.replicate_succ, List.replicate_zero, List.set_cons_zero, List.set_cons_succ, exists_eq_left, exists_eq_left', Option.some.injEq, Sl.own.injEq, exists_eq', and_true, true_and, Nat.reduceAdd, Nat.reduceSub, Nat.zero_add])
    refine ite_n (decide_eq_false (by omega)) ?_
    (try simp -dsimp only [kK_eq, optK_some, blK_eq, intK_eq, strK_eq, iteK_t, iteK_f, andK_t, sK_some, valS_d, valS_own, valS_tp, ↓wE_v, ↓wE_k, ↓wE_bin, ↓wE_neg, ↓wE_no, ↓wE_cmp, ↓wE_chn, ↓wE_isN, ↓wE_ntN, ↓wE_and, ↓wE_or, ↓wE_orT, ↓wE_ite, ↓wE_call, ↓wE_callk, ↓wE_refused, ↓wE_callc, ↓wE_bi, ↓wE_isi, ↓wE_lenv, ↓wE_ixv, ↓wE_ix, ↓wE_sl, ↓wE_rev, ↓wE_tup, ↓wE_tpl, ↓wE_lst, ↓wE_vtp, ↓wE_index, ↓wE_lrng, ↓wE_sset, ↓comp_eq, ↓allg_eq, lstK_eq, cutK_tup, cutK_lst, cutK_scr, revK_tup, revK_lst, vtpK_tp, ↓wEs_nil, ↓wEs_cons, ↓wVs_nil, ↓wVs_cons, ↓wO_no, ↓wO_yes, ↓wC_no, ↓wC_yes, ↓wI_it, ↓wI_r1, ↓wI_r2, r2K_eq, ↓wI_r3, ↓wI_zip, ↓wS_asg, ↓wS_par, ↓wS_unp, ↓wS_setv, ↓wS_swp, ↓wS_ex, ↓wS_ret, ↓wS_iff, ↓wS_brk, ↓wS_rais, ↓wS_newd, ↓wS_skip, ↓wS_app, ↓wS_ext, ↓wS_aug, ownK_eq, lstD_eq, augK_add, augK_sub, ↓wSs_nil, ↓wSs_cons, ↓whl_eq, ↓fr_eq, b_add, b_sub, b_mul, b_div, b_mod, b_pow, b_addT, b_addL, c_lt, c_le, c_gt, c_ge, c_eq, c_ne, f_abs, f_int, f_min, f_len, f_list, f_tuple, set_mk, sl_d, sl_own, sl_tp, dat_d, dat_own, dat_tp, it_tupW, it_lst, it_scr, items_tab, items_wh, is_own, is_tup, is_lst, is_scr, is_cell, is_tab, is_wh, ln_own, ln_tup, ln_lst, ln_scr, ln_dk, ln_tab, ln_wh, set_d, set_own, set_dk, set_tp, hide1, hide2, putT1, putT2, putT3, sl1, sl2, back1, back2, gone_unW, gone_dW, gone_ownW, setA0, setA1, List.map_cons, List.map_nil, List.length_cons, List.length_nil, List.cons_append, List.nil_append, List.getElem?_cons_zero, List.getElem?_cons_succ, List.replicate_succ, List.replicate_zero, List.set_cons_zero, List.set_cons_succ, exists_eq_left, exists_eq_left', Option.some.injEq, Sl.own.injEq, exists_eq', and_true, true_and, Nat.reduceAdd, Nat.reduceSub, Nat.zero_add])
    refine call_of h1 ⟨5, b, rfl, by omega, by omega, hd, by omega, fun kd c2 kd0 kd1 hd2 => ?_⟩
    (try simp -dsimp only [kK_eq, optK_some, blK_eq, intK_eq, strK_eq, iteK_t, iteK_f, andK_t, sK_some, valS_d, valS_own, valS_tp, ↓wE_v, ↓wE_k, ↓wE_bin, ↓wE_neg, ↓wE_no, ↓wE_cmp, ↓wE_chn, ↓wE_isN, ↓wE_ntN, ↓wE_and, ↓wE_or, ↓wE_orT, ↓wE_ite, ↓wE_call, ↓wE_callk, ↓wE_refused, ↓wE_callc, ↓wE_bi, ↓wE_isi, ↓wE_lenv, ↓wE_ixv, ↓wE_ix, ↓wE_sl, ↓wE_rev, ↓wE_tup, ↓wE_tpl, ↓wE_lst, ↓wE_vtp, ↓wE_index, ↓wE_lrng, ↓wE_sset, ↓comp_eq, ↓allg_eq, lstK_eq, cutK_tup, cutK_lst, cutK_scr, revK_tup, revK_lst, vtpK_tp, ↓wEs_nil, ↓wEs_cons, ↓wVs_nil, ↓wVs_cons, ↓wO_no, ↓wO_yes, ↓wC_no, ↓wC_yes, ↓wI_it, ↓wI_r1, ↓wI_r2, r2K_eq, ↓wI_r3, ↓wI_zip, ↓wS_asg, ↓wS_par, ↓wS_unp, ↓wS_setv, ↓wS_swp, ↓wS_ex, ↓wS_ret, ↓wS_iff, ↓wS_brk, ↓wS_rais, ↓wS_newd, ↓wS_skip, ↓wS_app, ↓wS_ext, ↓wS_aug, ownK_eq, lstD_eq, augK_add, augK_sub, ↓wSs_nil, ↓wSs_cons, ↓whl_eq, ↓fr_eq, b_add, b_sub, b_mul, b_div, b_mod, b_pow, b_addT, b_addL, c_lt, c_le, c_gt, c_ge, c_eq, c_ne, f_abs, f_int, f_min, f_len, f_list, f_tuple, set_mk, sl_d, sl_own, sl_tp, dat_d, dat_own, dat_tp, it_tupW, it_lst, it_scr, items_tab, items_wh, is_own, is_tup, is_lst, is_scr, is_cell, is_tab, is_wh, ln_own, ln_tup, ln_lst, ln_scr, ln_dk, ln_tab, ln_wh, set_d, set_own, set_dk, set_tp, hide1, hide2, putT1, putT2, putT3, sl1, sl2, back1, back2, gone_unW, gone_dW, gone_ownW, setA0, setA1, List.map_cons, List.map_nil, List.length_cons, List.length_nil, List.cons_append, List.nil_append, List.getElem?_cons_zero, List.getElem?_cons_succ, List.replicate_succ, List.replicate_zero, List.set_cons_zero, List.set_cons_succ, exists_eq_left, exists_eq_left', Option.some.injEq, Sl.own.injEq, exists_eq', and_true, true_and, Nat.reduceAdd, Nat.reduceSub, Nat.zero_add])
    refine call_of h1 ⟨T.length, b + 1, rfl, by omega, by omega, hd2, by omega, fun r c3 r0 r1 hd3 => ?_⟩
    obtain ⟨a, rfl⟩ := Int.eq_ofNat_of_zero_le r0
    have ha : a < T.length := by omega
    have hw : T[a] ∈ T := List.getElem_mem _
    obtain ⟨w, hwe⟩ : ∃ w, T[a] = w := ⟨_, rfl⟩
    rw [hwe] at hw
    have hat : atI (T.map whD) (a : Int) = some (whD w) := by
      refine atI_get (by omega) ?_
      rw [Int.toNat_natCast, List.getElem?_map, List.getElem?_eq_getElem ha, hwe]
      rfl
    (try simp -dsimp only [kK_eq, optK_some, blK_eq, intK_eq, strK_eq, iteK_t, iteK_f, andK_t, sK_some, valS_d, valS_own, valS_tp, ↓wE_v, ↓wE_k, ↓wE_bin, ↓wE_neg, ↓wE_no, ↓wE_cmp, ↓wE_chn, ↓wE_isN, ↓wE_ntN, ↓wE_and, ↓wE_or, ↓wE_orT, ↓wE_ite, ↓wE_call, ↓wE_callk, ↓wE_refused, ↓wE_callc, ↓wE_bi, ↓wE_isi, ↓wE_lenv, ↓wE_ixv, ↓wE_ix, ↓wE_sl, ↓wE_rev, ↓wE_tup, ↓wE_tpl, ↓wE_lst, ↓wE_vtp, ↓wE_index, ↓wE_lrng, ↓wE_sset, ↓comp_eq, ↓allg_eq, lstK_eq, cutK_tup, cutK_lst, cutK_scr, revK_tup, revK_lst, vtpK_tp, ↓wEs_nil, ↓wEs_cons, ↓wVs_nil, ↓wVs_cons, ↓wO_no, ↓wO_yes, ↓wC_no, ↓wC_yes, ↓wI_it, ↓wI_r1, ↓wI_r2, r2K_eq, ↓wI_r3, ↓wI_zip, ↓wS_asg, ↓wS_par, ↓wS_unp, ↓wS_setv, ↓wS_swp, ↓wS_ex, ↓wS_ret, ↓wS_iff, ↓wS_brk, ↓wS_rais, ↓wS_newd, ↓wS_skip, ↓wS_app, ↓wS_ext, ↓wS_aug, ownK_eq, lstD_eq, augK_add, augK_sub, ↓wSs_nil, ↓wSs_cons, ↓whl_eq, ↓fr_eq, b_add, b_sub, b_mul, b_div, b_mod, b_pow, b_addT, b_addL, c_lt, c_le, c_gt, c_ge, c_eq, c_ne, f_abs, f_int, f_min, f_len, f_list, f_tuple, set_mk, sl_d, sl_own, sl_tp, dat_d, dat_own, dat_tp, it_tupW, it_lst, it_scr, items_tab, items_wh, is_own, is_tup, is_lst, is_scr, is_cell, is_tab, is_wh, ln_own, ln_tup, ln_lst, ln_scr, ln_dk, ln_tab, ln_wh, set_d, set_own, set_dk, set_tp, hide1, hide2, putT1, putT2, putT3, sl1, sl2, back1, back2, gone_unW, gone_dW, gone_ownW, setA0, setA1, List.map_cons, List.map_nil, List.length_cons, List.length_nil, List.cons_append, List.nil_append, List.getElem?_cons_zero, List.getElem?_cons_succ, List.replicate_succ, List.replicate_zero, List.set_cons_zero, List.set_cons_succ, exists_eq_left, exists_eq_left', Option.some.injEq, Sl.own.injEq, exists_eq', and_true, true_and, Nat.reduceAdd, Nat.reduceSub, Nat.zero_add, hat])
    refine call_of h1 ⟨9, b + 2, rfl, by omega, by omega, hd3, by omega, fun mo c4 mo0 mo1 hd4 => ?_⟩
    have hcut1 : cutD (T.map whD) none (some (a : Int)) = (T.take a).map whD := by
      rw [cutD_to _ _ (by rw [List.length_map]; omega), List.map_take]
    have hcut2 : cutD (T.map whD) (some ((a : Int) + 1)) none = (T.drop (a + 1)).map whD := by
      have := cutD_from (T.map whD) (a + 1) (by rw [List.length_map]; omega)
      rw [List.map_drop]
      exact this
    have hwl := hM.len (by omega) hw
    have hwm := (hM w hw).1
    have hwb := (hM w hw).2
    (try simp -dsimp only [kK_eq, optK_some, blK_eq, intK_eq, strK_eq, iteK_t, iteK_f, andK_t, sK_some, valS_d, valS_own, valS_tp, ↓wE_v, ↓wE_k, ↓wE_bin, ↓wE_neg, ↓wE_no, ↓wE_cmp, ↓wE_chn, ↓wE_isN, ↓wE_ntN, ↓wE_and, ↓wE_or, ↓wE_orT, ↓wE_ite, ↓wE_call, ↓wE_callk, ↓wE_refused, ↓wE_callc, ↓wE_bi, ↓wE_isi, ↓wE_lenv, ↓wE_ixv, ↓wE_ix, ↓wE_sl, ↓wE_rev, ↓wE_tup, ↓wE_tpl, ↓wE_lst, ↓wE_vtp, ↓wE_index, ↓wE_lrng, ↓wE_sset, ↓comp_eq, ↓allg_eq, lstK_eq, cutK_tup, cutK_lst, cutK_scr, revK_tup, revK_lst, vtpK_tp, ↓wEs_nil, ↓wEs_cons, ↓wVs_nil, ↓wVs_cons, ↓wO_no, ↓wO_yes, ↓wC_no, ↓wC_yes, ↓wI_it, ↓wI_r1, ↓wI_r2, r2K_eq, ↓wI_r3, ↓wI_zip, ↓wS_asg, ↓wS_par, ↓wS_unp, ↓wS_setv, ↓wS_swp, ↓wS_ex, ↓wS_ret, ↓wS_iff, ↓wS_brk, ↓wS_rais, ↓wS_newd, ↓wS_skip, ↓wS_app, ↓wS_ext, ↓wS_aug, ownK_eq, lstD_eq, augK_add, augK_sub, ↓wSs_nil, ↓wSs_cons, ↓whl_eq, ↓fr_eq, b_add, b_sub, b_mul, b_div, b_mod, b_pow, b_addT, b_addL, c_lt, c_le, c_gt, c_ge, c_eq, c_ne, f_abs, f_int, f_min, f_len, f_list, f_tuple, set_mk, sl_d, sl_own, sl_tp, dat_d, dat_own, dat_tp, it_tupW, it_lst, it_scr, items_tab, items_wh, is_own, is_tup, is_lst, is_scr, is_cell, is_tab, is_wh, ln_own, ln_tup, ln_lst, ln_scr, ln_dk, ln_tab, ln_wh, set_d, set_own, set_dk, set_tp, hide1, hide2, putT1, putT2, putT3, sl1, sl2, back1, back2, gone_unW, gone_dW, gone_ownW, setA0, setA1, List.map_cons, List.map_nil, List.length_cons, List.length_nil, List.cons_append, List.nil_append, List.getElem?_cons_zero, List.getElem?_cons_succ, List.replicate_succ, List.replicate_zero, List.set_cons_zero, List.set_cons_succ, exists_eq_left, exists_eq_left', Option.some.injEq, Sl.own.injEq, exists_eq', and_true, true_and, Nat.reduceAdd, Nat.reduceSub, Nat.zero_add, hat, cutK_tab, hcut1, hcut2])
    refine ⟨by rw [List.length_map, List.length_map, List.length_take, List.length_drop]; omega, ?_⟩
    rw [← List.map_append]
    show _
    obtain ⟨R, hR⟩ : ∃ R, T.take a ++ T.drop (a + 1) = R := ⟨_, rfl⟩
    have hRl : R.length + 1 = T.length := by
      rw [← hR, List.length_append, List.length_take, List.length_drop]
      omega
    have hRM : Mk (k + 1) (B + 10) R := (hM.sub fun v hv => by
      rw [← hR] at hv
      rcases List.mem_append.mp hv with z | z
      · exact List.mem_of_mem_take z
      · exact List.mem_of_mem_drop z).mono (by omega) (by omega)
    rw [hR]
    have fold2 : D.tup (R.map whD) = tabD R := rfl
    rw [fold2]
    have one : ∀ v : List Int, (∃ n j : Nat, 1 ≤ n ∧ n ≤ 8 ∧ j ≤ k + 1 ∧ v.length = n * 2 ^ j) → (∀ x ∈ v, -((B + 10 : Nat) : Int) ≤ x ∧ x ≤ ((B + 10 : Nat) : Int)) → Mk (k + 1) (B + 10) [v] := fun v h1 h2 u hu => by
      rw [List.mem_singleton.mp hu]
      exact ⟨h1, h2⟩
    have up : ∀ v : List Int, v.length = w.length → ∃ n j : Nat, 1 ≤ n ∧ n ≤ 8 ∧ j ≤ k + 1 ∧ v.length = n * 2 ^ j := fun v hv => by
      obtain ⟨n, j, z1, z2, z3, z4⟩ := hwm
      exact ⟨n, j, z1, z2, by omega, by rw [hv, z4]⟩
    (try simp -dsimp only [kK_eq, optK_some, blK_eq, intK_eq, strK_eq, iteK_t, iteK_f, andK_t, sK_some, valS_d, valS_own, valS_tp, ↓wE_v, ↓wE_k, ↓wE_bin, ↓wE_neg, ↓wE_no, ↓wE_cmp, ↓wE_chn, ↓wE_isN, ↓wE_ntN, ↓wE_and, ↓wE_or, ↓wE_orT, ↓wE_ite, ↓wE_call, ↓wE_callk, ↓wE_refused, ↓wE_callc, ↓wE_bi, ↓wE_isi, ↓wE_lenv, ↓wE_ixv, ↓wE_ix, ↓wE_sl, ↓wE_rev, ↓wE_tup, ↓wE_tpl, ↓wE_lst, ↓wE_vtp, ↓wE_index, ↓wE_lrng, ↓wE_sset, ↓comp_eq, ↓allg_eq, lstK_eq, cutK_tup, cutK_lst, cutK_scr, revK_tup, revK_lst, vtpK_tp, ↓wEs_nil, ↓wEs_cons, ↓wVs_nil, ↓wVs_cons, ↓wO_no, ↓wO_yes, ↓wC_no, ↓wC_yes, ↓wI_it, ↓wI_r1, ↓wI_r2, r2K_eq, ↓wI_r3, ↓wI_zip, ↓wS_asg, ↓wS_par, ↓wS_unp, ↓wS_setv, ↓wS_swp, ↓wS_ex, ↓wS_ret, ↓wS_iff, ↓wS_brk, ↓wS_rais, ↓wS_newd, ↓wS_skip, ↓wS_app, ↓wS_ext, ↓wS_aug, ownK_eq, lstD_eq, augK_add, augK_sub, ↓wSs_nil, ↓wSs_cons, ↓whl_eq, ↓fr_eq, b_add, b_sub, b_mul, b_div, b_mod, b_pow, b_addT, b_addL, c_lt, c_le, c_gt, c_ge, c_eq, c_ne, f_abs, f_int, f_min, f_len, f_list, f_tuple, set_mk, sl_d, sl_own, sl_tp, dat_d, dat_own, dat_tp, it_tupW, it_lst, it_scr, items_tab, items_wh, is_own, is_tup, is_lst, is_scr, is_cell, is_tab, is_wh, ln_own, ln_tup, ln_lst, ln_scr, ln_dk, ln_tab, ln_wh, set_d, set_own, set_dk, set_tp, hide1, hide2, putT1, putT2, putT3, sl1, sl2, back1, back2, gone_unW, gone_dW, gone_ownW, setA0, setA1, List.map_cons, List.map_nil, List.length_cons, List.length_nil, List.cons_append, List.nil_append, List.getElem?_cons_zero, List.getElem?_cons_succ, List.replicate_succ, List.replicate_zero, List.set_cons_zero, List.set_cons_succ, exists_eq_left, exists_eq_left', Option.some.injEq, Sl.own.injEq, exists_eq', and_true, true_and, Nat.reduceAdd, Nat.reduceSub, Nat.zero_add])
    refine iteK_of (fun z => ?_) (fun z => ?_)
    · (try simp -dsimp only [kK_eq, optK_some, blK_eq, intK_eq, strK_eq, iteK_t, iteK_f, andK_t, sK_some, valS_d, valS_own, valS_tp, ↓wE_v, ↓wE_k, ↓wE_bin, ↓wE_neg, ↓wE_no, ↓wE_cmp, ↓wE_chn, ↓wE_isN, ↓wE_ntN, ↓wE_and, ↓wE_or, ↓wE_orT, ↓wE_ite, ↓wE_call, ↓wE_callk, ↓wE_refused, ↓wE_callc, ↓wE_bi, ↓wE_isi, ↓wE_lenv, ↓wE_ixv, ↓wE_ix, ↓wE_sl, ↓wE_rev, ↓wE_tup, ↓wE_tpl, ↓wE_lst, ↓wE_vtp, ↓wE_index, ↓wE_lrng, ↓wE_sset, ↓comp_eq, ↓allg_eq, lstK_eq, cutK_tup, cutK_lst, cutK_scr, revK_tup, revK_lst, vtpK_tp, ↓wEs_nil, ↓wEs_cons, ↓wVs_nil, ↓wVs_cons, ↓wO_no, ↓wO_yes, ↓wC_no, ↓wC_yes, ↓wI_it, ↓wI_r1, ↓wI_r2, r2K_eq, ↓wI_r3, ↓wI_zip, ↓wS_asg, ↓wS_par, ↓wS_unp, ↓wS_setv, ↓wS_swp, ↓wS_ex, ↓wS_ret, ↓wS_iff, ↓wS_brk, ↓wS_rais, ↓wS_newd, ↓wS_skip, ↓wS_app, ↓wS_ext, ↓wS_aug, ownK_eq, lstD_eq, augK_add, augK_sub, ↓wSs_nil, ↓wSs_cons, ↓whl_eq, ↓fr_eq, b_add, b_sub, b_mul, b_div, b_mod, b_pow, b_addT, b_addL, c_lt, c_le, c_gt, c_ge, c_eq, c_ne, f_abs, f_int, f_min, f_len, f_list, f_tuple, set_mk, sl_d, sl_own, sl_tp, dat_d, dat_own, dat_tp, it_tupW, it_lst, it_scr, items_tab, items_wh, is_own, is_tup, is_lst, is_scr, is_cell, is_tab, is_wh, ln_own, ln_tup, ln_lst, ln_scr, ln_dk, ln_tab, ln_wh, set_d, set_own, set_dk, set_tp, hide1, hide2, putT1, putT2, putT3, sl1, sl2, back1, back2, gone_unW, gone_dW, gone_ownW, setA0, setA1, List.map_cons, List.map_nil, List.length_cons, List.length_nil, List.cons_append, List.nil_append, List.getElem?_cons_zero, List.getElem?_cons_succ, List.replicate_succ, List.replicate_zero, List.set_cons_zero, List.set_cons_succ, exists_eq_left, exists_eq_left', Option.some.injEq, Sl.own.injEq, exists_eq', and_true, true_and, Nat.reduceAdd, Nat.reduceSub, Nat.zero_add])
      refine map_comp w D.int (fun x => .int (x + (mo - 4))) (fun s => [.d .cell, .d (tabD T), .d (.int kd), .d (.int a), .d (whD w), .d (.int (mo - 4)), .d (tabD R), s, .un, .un, .un]) (fun x => .d (.int x)) (by omega) (fun s x hx => rfl) (fun x hx K hK => ?_) (fun s => ?_) .un
      · (try simp -dsimp only [kK_eq, optK_some, blK_eq, intK_eq, strK_eq, iteK_t, iteK_f, andK_t, sK_some, valS_d, valS_own, valS_tp, ↓wE_v, ↓wE_k, ↓wE_bin, ↓wE_neg, ↓wE_no, ↓wE_cmp, ↓wE_chn, ↓wE_isN, ↓wE_ntN, ↓wE_and, ↓wE_or, ↓wE_orT, ↓wE_ite, ↓wE_call, ↓wE_callk, ↓wE_refused, ↓wE_callc, ↓wE_bi, ↓wE_isi, ↓wE_lenv, ↓wE_ixv, ↓wE_ix, ↓wE_sl, ↓wE_rev, ↓wE_tup, ↓wE_tpl, ↓wE_lst, ↓wE_vtp, ↓wE_index, ↓wE_lrng, ↓wE_sset, ↓comp_eq, ↓allg_eq, lstK_eq, cutK_tup, cutK_lst, cutK_scr, revK_tup, revK_lst, vtpK_tp, ↓wEs_nil, ↓wEs_cons, ↓wVs_nil, ↓wVs_cons, ↓wO_no, ↓wO_yes, ↓wC_no, ↓wC_yes, ↓wI_it, ↓wI_r1, ↓wI_r2, r2K_eq, ↓wI_r3, ↓wI_zip, ↓wS_asg, ↓wS_par, ↓wS_unp, ↓wS_setv, ↓wS_swp, ↓wS_ex, ↓wS_ret, ↓wS_iff, ↓wS_brk, ↓wS_rais, ↓wS_newd, ↓wS_skip, ↓wS_app, ↓wS_ext, ↓wS_aug, ownK_eq, lstD_eq, augK_add, augK_sub, ↓wSs_nil, ↓wSs_cons, ↓whl_eq, ↓fr_eq, b_add, b_sub, b_mul, b_div, b_mod, b_pow, b_addT, b_addL, c_lt, c_le, c_gt, c_ge, c_eq, c_ne, f_abs, f_int, f_min, f_len, f_list, f_tuple, set_mk, sl_d, sl_own, sl_tp, dat_d, dat_own, dat_tp, it_tupW, it_lst, it_scr, items_tab, items_wh, is_own, is_tup, is_lst, is_scr, is_cell, is_tab, is_wh, ln_own, ln_tup, ln_lst, ln_scr, ln_dk, ln_tab, ln_wh, set_d, set_own, set_dk, set_tp, hide1, hide2, putT1, putT2, putT3, sl1, sl2, back1, back2, gone_unW, gone_dW, gone_ownW, setA0, setA1, List.map_cons, List.map_nil, List.length_cons, List.length_nil, List.cons_append, List.nil_append, List.getElem?_cons_zero, List.getElem?_cons_succ, List.replicate_succ, List.replicate_zero, List.set_cons_zero, List.set_cons_succ, exists_eq_left, exists_eq_left', Option.some.injEq, Sl.own.injEq, exists_eq', and_true, true_and, Nat.reduceAdd, Nat.reduceSub, Nat.zero_add])
        exact hK _ rfl
      · (try simp -dsimp only [kK_eq, optK_some, blK_eq, intK_eq, strK_eq, iteK_t, iteK_f, andK_t, sK_some, valS_d, valS_own, valS_tp, ↓wE_v, ↓wE_k, ↓wE_bin, ↓wE_neg, ↓wE_no, ↓wE_cmp, ↓wE_chn, ↓wE_isN, ↓wE_ntN, ↓wE_and, ↓wE_or, ↓wE_orT, ↓wE_ite, ↓wE_call, ↓wE_callk, ↓wE_refused, ↓wE_callc, ↓wE_bi, ↓wE_isi, ↓wE_lenv, ↓wE_ixv, ↓wE_ix, ↓wE_sl, ↓wE_rev, ↓wE_tup, ↓wE_tpl, ↓wE_lst, ↓wE_vtp, ↓wE_index, ↓wE_lrng, ↓wE_sset, ↓comp_eq, ↓allg_eq, lstK_eq, cutK_tup, cutK_lst, cutK_scr, revK_tup, revK_lst, vtpK_tp, ↓wEs_nil, ↓wEs_cons, ↓wVs_nil, ↓wVs_cons, ↓wO_no, ↓wO_yes, ↓wC_no, ↓wC_yes, ↓wI_it, ↓wI_r1, ↓wI_r2, r2K_eq, ↓wI_r3, ↓wI_zip, ↓wS_asg, ↓wS_par, ↓wS_unp, ↓wS_setv, ↓wS_swp, ↓wS_ex, ↓wS_ret, ↓wS_iff, ↓wS_brk, ↓wS_rais, ↓wS_newd, ↓wS_skip, ↓wS_app, ↓wS_ext, ↓wS_aug, ownK_eq, lstD_eq, augK_add, augK_sub, ↓wSs_nil, ↓wSs_cons, ↓whl_eq, ↓fr_eq, b_add, b_sub, b_mul, b_div, b_mod, b_pow, b_addT, b_addL, c_lt, c_le, c_gt, c_ge, c_eq, c_ne, f_abs, f_int, f_min, f_len, f_list, f_tuple, set_mk, sl_d, sl_own, sl_tp, dat_d, dat_own, dat_tp, it_tupW, it_lst, it_scr, items_tab, items_wh, is_own, is_tup, is_lst, is_scr, is_cell, is_tab, is_wh, ln_own, ln_tup, ln_lst, ln_scr, ln_dk, ln_tab, ln_wh, set_d, set_own, set_dk, set_tp, hide1, hide2, putT1, putT2, putT3, sl1, sl2, back1, back2, gone_unW, gone_dW, gone_ownW, setA0, setA1, List.map_cons, List.map_nil, List.length_cons, List.length_nil, List.cons_append, List.nil_append, List.getElem?_cons_zero, List.getElem?_cons_succ, List.replicate_succ, List.replicate_zero, List.set_cons_zero, List.set_cons_succ, exists_eq_left, exists_eq_left', Option.some.injEq, Sl.own.injEq, exists_eq', and_true, true_and, Nat.reduceAdd, Nat.reduceSub, Nat.zero_add])
        refine add_tab (S := [w.map fun x => x + (mo - 4), [0 - (mo - 4)]]) ?_ (by simp; omega) ?_
        · simp [tabD, whD]
        · refine hq _ _ (by simp; omega) (hRM.app fun u hu => ?_) (hd4.mono (by omega))
          rcases List.mem_cons.mp hu with rfl | hu
          · refine ⟨up _ (by simp), fun x hx => ?_⟩
            obtain ⟨y, hy, rfl⟩ := List.mem_map.mp hx
            have := hwb y hy
            omega
          · rw [List.mem_singleton.mp hu]
            refine ⟨⟨1, 0, by omega, by omega, by omega, rfl⟩, fun x hx => ?_⟩
            rw [List.mem_singleton.mp hx]
            omega
    · (try simp -dsimp only [kK_eq, optK_some, blK_eq, intK_eq, strK_eq, iteK_t, iteK_f, andK_t, sK_some, valS_d, valS_own, valS_tp, ↓wE_v, ↓wE_k, ↓wE_bin, ↓wE_neg, ↓wE_no, ↓wE_cmp, ↓wE_chn, ↓wE_isN, ↓wE_ntN, ↓wE_and, ↓wE_or, ↓wE_orT, ↓wE_ite, ↓wE_call, ↓wE_callk, ↓wE_refused, ↓wE_callc, ↓wE_bi, ↓wE_isi, ↓wE_lenv, ↓wE_ixv, ↓wE_ix, ↓wE_sl, ↓wE_rev, ↓wE_tup, ↓wE_tpl, ↓wE_lst, ↓wE_vtp, ↓wE_index, ↓wE_lrng, ↓wE_sset, ↓comp_eq, ↓allg_eq, lstK_eq, cutK_tup, cutK_lst, cutK_scr, revK_tup, revK_lst, vtpK_tp, ↓wEs_nil, ↓wEs_cons, ↓wVs_nil, ↓wVs_cons, ↓wO_no, ↓wO_yes, ↓wC_no, ↓wC_yes, ↓wI_it, ↓wI_r1, ↓wI_r2, r2K_eq, ↓wI_r3, ↓wI_zip, ↓wS_asg, ↓wS_par, ↓wS_unp, ↓wS_setv, ↓wS_swp, ↓wS_ex, ↓wS_ret, ↓wS_iff, ↓wS_brk, ↓wS_rais, ↓wS_newd, ↓wS_skip, ↓wS_app, ↓wS_ext, ↓wS_aug, ownK_eq, lstD_eq, augK_add, augK_sub, ↓wSs_nil, ↓wSs_cons, ↓whl_eq, ↓fr_eq, b_add, b_sub, b_mul, b_div, b_mod, b_pow, b_addT, b_addL, c_lt, c_le, c_gt, c_ge, c_eq, c_ne, f_abs, f_int, f_min, f_len, f_list, f_tuple, set_mk, sl_d, sl_own, sl_tp, dat_d, dat_own, dat_tp, it_tupW, it_lst, it_scr, items_tab, items_wh, is_own, is_tup, is_lst, is_scr, is_cell, is_tab, is_wh, ln_own, ln_tup, ln_lst, ln_scr, ln_dk, ln_tab, ln_wh, set_d, set_own, set_dk, set_tp, hide1, hide2, putT1, putT2, putT3, sl1, sl2, back1, back2, gone_unW, gone_dW, gone_ownW, setA0, setA1, List.map_cons, List.map_nil, List.length_cons, List.length_nil, List.cons_append, List.nil_append, List.getElem?_cons_zero, List.getElem?_cons_succ, List.replicate_succ, List.replicate_zero, List.set_cons_zero, List.set_cons_succ, exists_eq_left, exists_eq_left', Option.some.injEq, Sl.own.injEq, exists_eq', and_true, true_and, Nat.reduceAdd, Nat.reduceSub, Nat.zero_add])
      refine iteK_of (fun z => ?_) (fun z => ?_)
      · (try simp -dsimp only [kK_eq, optK_some, blK_eq, intK_eq, strK_eq, iteK_t, iteK_f, andK_t, sK_some, valS_d, valS_own, valS_tp, ↓wE_v, ↓wE_k, ↓wE_bin, ↓wE_neg, ↓wE_no, ↓wE_cmp, ↓wE_chn, ↓wE_isN, ↓wE_ntN, ↓wE_and, ↓wE_or, ↓wE_orT, ↓wE_ite, ↓wE_call, ↓wE_callk, ↓wE_refused, ↓wE_callc, ↓wE_bi, ↓wE_isi, ↓wE_lenv, ↓wE_ixv, ↓wE_ix, ↓wE_sl, ↓wE_rev, ↓wE_tup, ↓wE_tpl, ↓wE_lst, ↓wE_vtp, ↓wE_index, ↓wE_lrng, ↓wE_sset, ↓comp_eq, ↓allg_eq, lstK_eq, cutK_tup, cutK_lst, cutK_scr, revK_tup, revK_lst, vtpK_tp, ↓wEs_nil, ↓wEs_cons, ↓wVs_nil, ↓wVs_cons, ↓wO_no, ↓wO_yes, ↓wC_no, ↓wC_yes, ↓wI_it, ↓wI_r1, ↓wI_r2, r2K_eq, ↓wI_r3, ↓wI_zip, ↓wS_asg, ↓wS_par, ↓wS_unp, ↓wS_setv, ↓wS_swp, ↓wS_ex, ↓wS_ret, ↓wS_iff, ↓wS_brk, ↓wS_rais, ↓wS_newd, ↓wS_skip, ↓wS_app, ↓wS_ext, ↓wS_aug, ownK_eq, lstD_eq, augK_add, augK_sub, ↓wSs_nil, ↓wSs_cons, ↓whl_eq, ↓fr_eq, b_add, b_sub, b_mul, b_div, b_mod, b_pow, b_addT, b_addL, c_lt, c_le, c_gt, c_ge, c_eq, c_ne, f_abs, f_int, f_min, f_len, f_list, f_tuple, set_mk, sl_d, sl_own, sl_tp, dat_d, dat_own, dat_tp, it_tupW, it_lst, it_scr, items_tab, items_wh, is_own, is_tup, is_lst, is_scr, is_cell, is_tab, is_wh, ln_own, ln_tup, ln_lst, ln_scr, ln_dk, ln_tab, ln_wh, set_d, set_own, set_dk, set_tp, hide1, hide2, putT1, putT2, putT3, sl1, sl2, back1, back2, gone_unW, gone_dW, gone_ownW, setA0, setA1, List.map_cons, List.map_nil, List.length_cons, List.length_nil, List.cons_append, List.nil_append, List.getElem?_cons_zero, List.getElem?_cons_succ, List.replicate_succ, List.replicate_zero, List.set_cons_zero, List.set_cons_succ, exists_eq_left, exists_eq_left', Option.some.injEq, Sl.own.injEq, exists_eq', and_true, true_and, Nat.reduceAdd, Nat.reduceSub, Nat.zero_add])
        refine roll_list h1 (V := 9) (by omega) (xs := w.map D.int) (env := fun s => [.d .cell, .d (tabD T), .d (.int kd), .d (.int a), .d (whD w), .d (.int (mo - 4)), .d (tabD R), s, .un, .un, .un]) (fun s x c => rfl) (fun s => rfl) (B := b + 3) (by rw [List.length_map]; omega) (by rw [List.length_map]; omega) (fun hf c5 s hfl hfb hd5 => ?_) hd4 .un
        rw [List.length_map] at hfl hd5
        (try simp -dsimp only [kK_eq, optK_some, blK_eq, intK_eq, strK_eq, iteK_t, iteK_f, andK_t, sK_some, valS_d, valS_own, valS_tp, ↓wE_v, ↓wE_k, ↓wE_bin, ↓wE_neg, ↓wE_no, ↓wE_cmp, ↓wE_chn, ↓wE_isN, ↓wE_ntN, ↓wE_and, ↓wE_or, ↓wE_orT, ↓wE_ite, ↓wE_call, ↓wE_callk, ↓wE_refused, ↓wE_callc, ↓wE_bi, ↓wE_isi, ↓wE_lenv, ↓wE_ixv, ↓wE_ix, ↓wE_sl, ↓wE_rev, ↓wE_tup, ↓wE_tpl, ↓wE_lst, ↓wE_vtp, ↓wE_index, ↓wE_lrng, ↓wE_sset, ↓comp_eq, ↓allg_eq, lstK_eq, cutK_tup, cutK_lst, cutK_scr, revK_tup, revK_lst, vtpK_tp, ↓wEs_nil, ↓wEs_cons, ↓wVs_nil, ↓wVs_cons, ↓wO_no, ↓wO_yes, ↓wC_no, ↓wC_yes, ↓wI_it, ↓wI_r1, ↓wI_r2, r2K_eq, ↓wI_r3, ↓wI_zip, ↓wS_asg, ↓wS_par, ↓wS_unp, ↓wS_setv, ↓wS_swp, ↓wS_ex, ↓wS_ret, ↓wS_iff, ↓wS_brk, ↓wS_rais, ↓wS_newd, ↓wS_skip, ↓wS_app, ↓wS_ext, ↓wS_aug, ownK_eq, lstD_eq, augK_add, augK_sub, ↓wSs_nil, ↓wSs_cons, ↓whl_eq, ↓fr_eq, b_add, b_sub, b_mul, b_div, b_mod, b_pow, b_addT, b_addL, c_lt, c_le, c_gt, c_ge, c_eq, c_ne, f_abs, f_int, f_min, f_len, f_list, f_tuple, set_mk, sl_d, sl_own, sl_tp, dat_d, dat_own, dat_tp, it_tupW, it_lst, it_scr, items_tab, items_wh, is_own, is_tup, is_lst, is_scr, is_cell, is_tab, is_wh, ln_own, ln_tup, ln_lst, ln_scr, ln_dk, ln_tab, ln_wh, set_d, set_own, set_dk, set_tp, hide1, hide2, putT1, putT2, putT3, sl1, sl2, back1, back2, gone_unW, gone_dW, gone_ownW, setA0, setA1, List.map_cons, List.map_nil, List.length_cons, List.length_nil, List.cons_append, List.nil_append, List.getElem?_cons_zero, List.getElem?_cons_succ, List.replicate_succ, List.replicate_zero, List.set_cons_zero, List.set_cons_succ, exists_eq_left, exists_eq_left', Option.some.injEq, Sl.own.injEq, exists_eq', and_true, true_and, Nat.reduceAdd, Nat.reduceSub, Nat.zero_add])
        refine zip_of rfl rfl rfl ?_
        rw [zipW_map]
        refine map_comp (t := .two 7 9) (w.zip hf) (fun p => D.tup [.int p.1, .int p.2]) (fun p => .int (p.1 - p.2)) (fun s => [.d .cell, .d (tabD T), .d (.int kd), .d (.int a), .d (whD w), .d (.int (mo - 4)), .d (tabD R), s.1, .d (.tup (hf.map D.int)), s.2, .un]) (fun p => (.d (.int p.1), .d (.int p.2))) (by rw [List.length_zip]; omega) (fun s x hx => rfl) (fun p hp K hK => ?_) (fun s => ?_) (.un, .un)
        · (try simp -dsimp only [kK_eq, optK_some, blK_eq, intK_eq, strK_eq, iteK_t, iteK_f, andK_t, sK_some, valS_d, valS_own, valS_tp, ↓wE_v, ↓wE_k, ↓wE_bin, ↓wE_neg, ↓wE_no, ↓wE_cmp, ↓wE_chn, ↓wE_isN, ↓wE_ntN, ↓wE_and, ↓wE_or, ↓wE_orT, ↓wE_ite, ↓wE_call, ↓wE_callk, ↓wE_refused, ↓wE_callc, ↓wE_bi, ↓wE_isi, ↓wE_lenv, ↓wE_ixv, ↓wE_ix, ↓wE_sl, ↓wE_rev, ↓wE_tup, ↓wE_tpl, ↓wE_lst, ↓wE_vtp, ↓wE_index, ↓wE_lrng, ↓wE_sset, ↓comp_eq, ↓allg_eq, lstK_eq, cutK_tup, cutK_lst, cutK_scr, revK_tup, revK_lst, vtpK_tp, ↓wEs_nil, ↓wEs_cons, ↓wVs_nil, ↓wVs_cons, ↓wO_no, ↓wO_yes, ↓wC_no, ↓wC_yes, ↓wI_it, ↓wI_r1, ↓wI_r2, r2K_eq, ↓wI_r3, ↓wI_zip, ↓wS_asg, ↓wS_par, ↓wS_unp, ↓wS_setv, ↓wS_swp, ↓wS_ex, ↓wS_ret, ↓wS_iff, ↓wS_brk, ↓wS_rais, ↓wS_newd, ↓wS_skip, ↓wS_app, ↓wS_ext, ↓wS_aug, ownK_eq, lstD_eq, augK_add, augK_sub, ↓wSs_nil, ↓wSs_cons, ↓whl_eq, ↓fr_eq, b_add, b_sub, b_mul, b_div, b_mod, b_pow, b_addT, b_addL, c_lt, c_le, c_gt, c_ge, c_eq, c_ne, f_abs, f_int, f_min, f_len, f_list, f_tuple, set_mk, sl_d, sl_own, sl_tp, dat_d, dat_own, dat_tp, it_tupW, it_lst, it_scr, items_tab, items_wh, is_own, is_tup, is_lst, is_scr, is_cell, is_tab, is_wh, ln_own, ln_tup, ln_lst, ln_scr, ln_dk, ln_tab, ln_wh, set_d, set_own, set_dk, set_tp, hide1, hide2, putT1, putT2, putT3, sl1, sl2, back1, back2, gone_unW, gone_dW, gone_ownW, setA0, setA1, List.map_cons, List.map_nil, List.length_cons, List.length_nil, List.cons_append, List.nil_append, List.getElem?_cons_zero, List.getElem?_cons_succ, List.replicate_succ, List.replicate_zero, List.set_cons_zero, List.set_cons_succ, exists_eq_left, exists_eq_left', Option.some.injEq, Sl.own.injEq, exists_eq', and_true, true_and, Nat.reduceAdd, Nat.reduceSub, Nat.zero_add])
          exact hK _ rfl
        · (try simp -dsimp only [kK_eq, optK_some, blK_eq, intK_eq, strK_eq, iteK_t, iteK_f, andK_t, sK_some, valS_d, valS_own, valS_tp, ↓wE_v, ↓wE_k, ↓wE_bin, ↓wE_neg, ↓wE_no, ↓wE_cmp, ↓wE_chn, ↓wE_isN, ↓wE_ntN, ↓wE_and, ↓wE_or, ↓wE_orT, ↓wE_ite, ↓wE_call, ↓wE_callk, ↓wE_refused, ↓wE_callc, ↓wE_bi, ↓wE_isi, ↓wE_lenv, ↓wE_ixv, ↓wE_ix, ↓wE_sl, ↓wE_rev, ↓wE_tup, ↓wE_tpl, ↓wE_lst, ↓wE_vtp, ↓wE_index, ↓wE_lrng, ↓wE_sset, ↓comp_eq, ↓allg_eq, lstK_eq, cutK_tup, cutK_lst, cutK_scr, revK_tup, revK_lst, vtpK_tp, ↓wEs_nil, ↓wEs_cons, ↓wVs_nil, ↓wVs_cons, ↓wO_no, ↓wO_yes, ↓wC_no, ↓wC_yes, ↓wI_it, ↓wI_r1, ↓wI_r2, r2K_eq, ↓wI_r3, ↓wI_zip, ↓wS_asg, ↓wS_par, ↓wS_unp, ↓wS_setv, ↓wS_swp, ↓wS_ex, ↓wS_ret, ↓wS_iff, ↓wS_brk, ↓wS_rais, ↓wS_newd, ↓wS_skip, ↓wS_app, ↓wS_ext, ↓wS_aug, ownK_eq, lstD_eq, augK_add, augK_sub, ↓wSs_nil, ↓wSs_cons, ↓whl_eq, ↓fr_eq, b_add, b_sub, b_mul, b_div, b_mod, b_pow, b_addT, b_addL, c_lt, c_le, c_gt, c_ge, c_eq, c_ne, f_abs, f_int, f_min, f_len, f_list, f_tuple, set_mk, sl_d, sl_own, sl_tp, dat_d, dat_own, dat_tp, it_tupW, it_lst, it_scr, items_tab, items_wh, is_own, is_tup, is_lst, is_scr, is_cell, is_tab, is_wh, ln_own, ln_tup, ln_lst, ln_scr, ln_dk, ln_tab, ln_wh, set_d, set_own, set_dk, set_tp, hide1, hide2, putT1, putT2, putT3, sl1, sl2, back1, back2, gone_unW, gone_dW, gone_ownW, setA0, setA1, List.map_cons, List.map_nil, List.length_cons, List.length_nil, List.cons_append, List.nil_append, List.getElem?_cons_zero, List.getElem?_cons_succ, List.replicate_succ, List.replicate_zero, List.set_cons_zero, List.set_cons_succ, exists_eq_left, exists_eq_left', Option.some.injEq, Sl.own.injEq, exists_eq', and_true, true_and, Nat.reduceAdd, Nat.reduceSub, Nat.zero_add])
          refine add_tab (S := [hf, (w.zip hf).map fun p => p.1 - p.2]) ?_ (by simp; omega) ?_
          · simp [tabD, whD]
          · refine hq _ _ (by simp; omega) (hRM.app fun u hu => ?_) (hd5.mono (by omega))
            rcases List.mem_cons.mp hu with rfl | hu
            · refine ⟨up _ hfl, fun x hx => ?_⟩
              have := hfb x hx
              omega
            · rw [List.mem_singleton.mp hu]
              refine ⟨up _ (by rw [List.length_map, List.length_zip, hfl, Nat.min_self]), fun x hx => ?_⟩
              obtain ⟨p, hp, rfl⟩ := List.mem_map.mp hx
              have i1 := hwb p.1 (List.of_mem_zip hp).1
              have i2 := hfb p.2 (List.of_mem_zip hp).2
              omega
      · (try simp -dsimp only [kK_eq, optK_some, blK_eq, intK_eq, strK_eq, iteK_t, iteK_f, andK_t, sK_some, valS_d, valS_own, valS_tp, ↓wE_v, ↓wE_k, ↓wE_bin, ↓wE_neg, ↓wE_no, ↓wE_cmp, ↓wE_chn, ↓wE_isN, ↓wE_ntN, ↓wE_and, ↓wE_or, ↓wE_orT, ↓wE_ite, ↓wE_call, ↓wE_callk, ↓wE_refused, ↓wE_callc, ↓wE_bi, ↓wE_isi, ↓wE_lenv, ↓wE_ixv, ↓wE_ix, ↓wE_sl, ↓wE_rev, ↓wE_tup, ↓wE_tpl, ↓wE_lst, ↓wE_vtp, ↓wE_index, ↓wE_lrng, ↓wE_sset, ↓comp_eq, ↓allg_eq, lstK_eq, cutK_tup, cutK_lst, cutK_scr, revK_tup, revK_lst, vtpK_tp, ↓wEs_nil, ↓wEs_cons, ↓wVs_nil, ↓wVs_cons, ↓wO_no, ↓wO_yes, ↓wC_no, ↓wC_yes, ↓wI_it, ↓wI_r1, ↓wI_r2, r2K_eq, ↓wI_r3, ↓wI_zip, ↓wS_asg, ↓wS_par, ↓wS_unp, ↓wS_setv, ↓wS_swp, ↓wS_ex, ↓wS_ret, ↓wS_iff, ↓wS_brk, ↓wS_rais, ↓wS_newd, ↓wS_skip, ↓wS_app, ↓wS_ext, ↓wS_aug, ownK_eq, lstD_eq, augK_add, augK_sub, ↓wSs_nil, ↓wSs_cons, ↓whl_eq, ↓fr_eq, b_add, b_sub, b_mul, b_div, b_mod, b_pow, b_addT, b_addL, c_lt, c_le, c_gt, c_ge, c_eq, c_ne, f_abs, f_int, f_min, f_len, f_list, f_tuple, set_mk, sl_d, sl_own, sl_tp, dat_d, dat_own, dat_tp, it_tupW, it_lst, it_scr, items_tab, items_wh, is_own, is_tup, is_lst, is_scr, is_cell, is_tab, is_wh, ln_own, ln_tup, ln_lst, ln_scr, ln_dk, ln_tab, ln_wh, set_d, set_own, set_dk, set_tp, hide1, hide2, putT1, putT2, putT3, sl1, sl2, back1, back2, gone_unW, gone_dW, gone_ownW, setA0, setA1, List.map_cons, List.map_nil, List.length_cons, List.length_nil, List.cons_append, List.nil_append, List.getElem?_cons_zero, List.getElem?_cons_succ, List.replicate_succ, List.replicate_zero, List.set_cons_zero, List.set_cons_succ, exists_eq_left, exists_eq_left', Option.some.injEq, Sl.own.injEq, exists_eq', and_true, true_and, Nat.reduceAdd, Nat.reduceSub, Nat.zero_add])
        refine iteK_of (fun z => ?_) (fun z => ?_)
        · (try simp -dsimp only [kK_eq, optK_some, blK_eq, intK_eq, strK_eq, iteK_t, iteK_f, andK_t, sK_some, valS_d, valS_own, valS_tp, ↓wE_v, ↓wE_k, ↓wE_bin, ↓wE_neg, ↓wE_no, ↓wE_cmp, ↓wE_chn, ↓wE_isN, ↓wE_ntN, ↓wE_and, ↓wE_or, ↓wE_orT, ↓wE_ite, ↓wE_call, ↓wE_callk, ↓wE_refused, ↓wE_callc, ↓wE_bi, ↓wE_isi, ↓wE_lenv, ↓wE_ixv, ↓wE_ix, ↓wE_sl, ↓wE_rev, ↓wE_tup, ↓wE_tpl, ↓wE_lst, ↓wE_vtp, ↓wE_index, ↓wE_lrng, ↓wE_sset, ↓comp_eq, ↓allg_eq, lstK_eq, cutK_tup, cutK_lst, cutK_scr, revK_tup, revK_lst, vtpK_tp, ↓wEs_nil, ↓wEs_cons, ↓wVs_nil, ↓wVs_cons, ↓wO_no, ↓wO_yes, ↓wC_no, ↓wC_yes, ↓wI_it, ↓wI_r1, ↓wI_r2, r2K_eq, ↓wI_r3, ↓wI_zip, ↓wS_asg, ↓wS_par, ↓wS_unp, ↓wS_setv, ↓wS_swp, ↓wS_ex, ↓wS_ret, ↓wS_iff, ↓wS_brk, ↓wS_rais, ↓wS_newd, ↓wS_skip, ↓wS_app, ↓wS_ext, ↓wS_aug, ownK_eq, lstD_eq, augK_add, augK_sub, ↓wSs_nil, ↓wSs_cons, ↓whl_eq, ↓fr_eq, b_add, b_sub, b_mul, b_div, b_mod, b_pow, b_addT, b_addL, c_lt, c_le, c_gt, c_ge, c_eq, c_ne, f_abs, f_int, f_min, f_len, f_list, f_tuple, set_mk, sl_d, sl_own, sl_tp, dat_d, dat_own, dat_tp, it_tupW, it_lst, it_scr, items_tab, items_wh, is_own, is_tup, is_lst, is_scr, is_cell, is_tab, is_wh, ln_own, ln_tup, ln_lst, ln_scr, ln_dk, ln_tab, ln_wh, set_d, set_own, set_dk, set_tp, hide1, hide2, putT1, putT2, putT3, sl1, sl2, back1, back2, gone_unW, gone_dW, gone_ownW, setA0, setA1, List.map_cons, List.map_nil, List.length_cons, List.length_nil, List.cons_append, List.nil_append, List.getElem?_cons_zero, List.getElem?_cons_succ, List.replicate_succ, List.replicate_zero, List.set_cons_zero, List.set_cons_succ, exists_eq_left, exists_eq_left', Option.some.injEq, Sl.own.injEq, exists_eq', and_true, true_and, Nat.reduceAdd, Nat.reduceSub, Nat.zero_add])
          refine mul_wh hwl.1 (by omega) ?_
          (try simp -dsimp only [kK_eq, optK_some, blK_eq, intK_eq, strK_eq, iteK_t, iteK_f, andK_t, sK_some, valS_d, valS_own, valS_tp, ↓wE_v, ↓wE_k, ↓wE_bin, ↓wE_neg, ↓wE_no, ↓wE_cmp, ↓wE_chn, ↓wE_isN, ↓wE_ntN, ↓wE_and, ↓wE_or, ↓wE_orT, ↓wE_ite, ↓wE_call, ↓wE_callk, ↓wE_refused, ↓wE_callc, ↓wE_bi, ↓wE_isi, ↓wE_lenv, ↓wE_ixv, ↓wE_ix, ↓wE_sl, ↓wE_rev, ↓wE_tup, ↓wE_tpl, ↓wE_lst, ↓wE_vtp, ↓wE_index, ↓wE_lrng, ↓wE_sset, ↓comp_eq, ↓allg_eq, lstK_eq, cutK_tup, cutK_lst, cutK_scr, revK_tup, revK_lst, vtpK_tp, ↓wEs_nil, ↓wEs_cons, ↓wVs_nil, ↓wVs_cons, ↓wO_no, ↓wO_yes, ↓wC_no, ↓wC_yes, ↓wI_it, ↓wI_r1, ↓wI_r2, r2K_eq, ↓wI_r3, ↓wI_zip, ↓wS_asg, ↓wS_par, ↓wS_unp, ↓wS_setv, ↓wS_swp, ↓wS_ex, ↓wS_ret, ↓wS_iff, ↓wS_brk, ↓wS_rais, ↓wS_newd, ↓wS_skip, ↓wS_app, ↓wS_ext, ↓wS_aug, ownK_eq, lstD_eq, augK_add, augK_sub, ↓wSs_nil, ↓wSs_cons, ↓whl_eq, ↓fr_eq, b_add, b_sub, b_mul, b_div, b_mod, b_pow, b_addT, b_addL, c_lt, c_le, c_gt, c_ge, c_eq, c_ne, f_abs, f_int, f_min, f_len, f_list, f_tuple, set_mk, sl_d, sl_own, sl_tp, dat_d, dat_own, dat_tp, it_tupW, it_lst, it_scr, items_tab, items_wh, is_own, is_tup, is_lst, is_scr, is_cell, is_tab, is_wh, ln_own, ln_tup, ln_lst, ln_scr, ln_dk, ln_tab, ln_wh, set_d, set_own, set_dk, set_tp, hide1, hide2, putT1, putT2, putT3, sl1, sl2, back1, back2, gone_unW, gone_dW, gone_ownW, setA0, setA1, List.map_cons, List.map_nil, List.length_cons, List.length_nil, List.cons_append, List.nil_append, List.getElem?_cons_zero, List.getElem?_cons_succ, List.replicate_succ, List.replicate_zero, List.set_cons_zero, List.set_cons_succ, exists_eq_left, exists_eq_left', Option.some.injEq, Sl.own.injEq, exists_eq', and_true, true_and, Nat.reduceAdd, Nat.reduceSub, Nat.zero_add])
          refine tab_add (S := [w ++ w]) rfl (by simp; omega) ?_
          refine hq _ _ (by simp; omega) (Mk.app (one _ ?_ fun x hx => ?_) hRM) (hd4.mono (by omega))
          · obtain ⟨n, j, z1, z2, z3, z4⟩ := hwm
            exact ⟨n, j + 1, z1, z2, by omega, by rw [List.length_append, z4, Nat.pow_succ, ← Nat.mul_assoc]; omega⟩
          · have := hwb x (by rcases List.mem_append.mp hx with z | z <;> exact z)
            omega
        · (try simp -dsimp only [kK_eq, optK_some, blK_eq, intK_eq, strK_eq, iteK_t, iteK_f, andK_t, sK_some, valS_d, valS_own, valS_tp, ↓wE_v, ↓wE_k, ↓wE_bin, ↓wE_neg, ↓wE_no, ↓wE_cmp, ↓wE_chn, ↓wE_isN, ↓wE_ntN, ↓wE_and, ↓wE_or, ↓wE_orT, ↓wE_ite, ↓wE_call, ↓wE_callk, ↓wE_refused, ↓wE_callc, ↓wE_bi, ↓wE_isi, ↓wE_lenv, ↓wE_ixv, ↓wE_ix, ↓wE_sl, ↓wE_rev, ↓wE_tup, ↓wE_tpl, ↓wE_lst, ↓wE_vtp, ↓wE_index, ↓wE_lrng, ↓wE_sset, ↓comp_eq, ↓allg_eq, lstK_eq, cutK_tup, cutK_lst, cutK_scr, revK_tup, revK_lst, vtpK_tp, ↓wEs_nil, ↓wEs_cons, ↓wVs_nil, ↓wVs_cons, ↓wO_no, ↓wO_yes, ↓wC_no, ↓wC_yes, ↓wI_it, ↓wI_r1, ↓wI_r2, r2K_eq, ↓wI_r3, ↓wI_zip, ↓wS_asg, ↓wS_par, ↓wS_unp, ↓wS_setv, ↓wS_swp, ↓wS_ex, ↓wS_ret, ↓wS_iff, ↓wS_brk, ↓wS_rais, ↓wS_newd, ↓wS_skip, ↓wS_app, ↓wS_ext, ↓wS_aug, ownK_eq, lstD_eq, augK_add, augK_sub, ↓wSs_nil, ↓wSs_cons, ↓whl_eq, ↓fr_eq, b_add, b_sub, b_mul, b_div, b_mod, b_pow, b_addT, b_addL, c_lt, c_le, c_gt, c_ge, c_eq, c_ne, f_abs, f_int, f_min, f_len, f_list, f_tuple, set_mk, sl_d, sl_own, sl_tp, dat_d, dat_own, dat_tp, it_tupW, it_lst, it_scr, items_tab, items_wh, is_own, is_tup, is_lst, is_scr, is_cell, is_tab, is_wh, ln_own, ln_tup, ln_lst, ln_scr, ln_dk, ln_tab, ln_wh, set_d, set_own, set_dk, set_tp, hide1, hide2, putT1, putT2, putT3, sl1, sl2, back1, back2, gone_unW, gone_dW, gone_ownW, setA0, setA1, List.map_cons, List.map_nil, List.length_cons, List.length_nil, List.cons_append, List.nil_append, List.getElem?_cons_zero, List.getElem?_cons_succ, List.replicate_succ, List.replicate_zero, List.set_cons_zero, List.set_cons_succ, exists_eq_left, exists_eq_left', Option.some.injEq, Sl.own.injEq, exists_eq', and_true, true_and, Nat.reduceAdd, Nat.reduceSub, Nat.zero_add])
          refine iteK_of (fun z => ?_) (fun z => ?_)
          · (try simp -dsimp only [kK_eq, optK_some, blK_eq, intK_eq, strK_eq, iteK_t, iteK_f, andK_t, sK_some, valS_d, valS_own, valS_tp, ↓wE_v, ↓wE_k, ↓wE_bin, ↓wE_neg, ↓wE_no, ↓wE_cmp, ↓wE_chn, ↓wE_isN, ↓wE_ntN, ↓wE_and, ↓wE_or, ↓wE_orT, ↓wE_ite, ↓wE_call, ↓wE_callk, ↓wE_refused, ↓wE_callc, ↓wE_bi, ↓wE_isi, ↓wE_lenv, ↓wE_ixv, ↓wE_ix, ↓wE_sl, ↓wE_rev, ↓wE_tup, ↓wE_tpl, ↓wE_lst, ↓wE_vtp, ↓wE_index, ↓wE_lrng, ↓wE_sset, ↓comp_eq, ↓allg_eq, lstK_eq, cutK_tup, cutK_lst, cutK_scr, revK_tup, revK_lst, vtpK_tp, ↓wEs_nil, ↓wEs_cons, ↓wVs_nil, ↓wVs_cons, ↓wO_no, ↓wO_yes, ↓wC_no, ↓wC_yes, ↓wI_it, ↓wI_r1, ↓wI_r2, r2K_eq, ↓wI_r3, ↓wI_zip, ↓wS_asg, ↓wS_par, ↓wS_unp, ↓wS_setv, ↓wS_swp, ↓wS_ex, ↓wS_ret, ↓wS_iff, ↓wS_brk, ↓wS_rais, ↓wS_newd, ↓wS_skip, ↓wS_app, ↓wS_ext, ↓wS_aug, ownK_eq, lstD_eq, augK_add, augK_sub, ↓wSs_nil, ↓wSs_cons, ↓whl_eq, ↓fr_eq, b_add, b_sub, b_mul, b_div, b_mod, b_pow, b_addT, b_addL, c_lt, c_le, c_gt, c_ge, c_eq, c_ne, f_abs, f_int, f_min, f_len, f_list, f_tuple, set_mk, sl_d, sl_own, sl_tp, dat_d, dat_own, dat_tp, it_tupW, it_lst, it_scr, items_tab, items_wh, is_own, is_tup, is_lst, is_scr, is_cell, is_tab, is_wh, ln_own, ln_tup, ln_lst, ln_scr, ln_dk, ln_tab, ln_wh, set_d, set_own, set_dk, set_tp, hide1, hide2, putT1, putT2, putT3, sl1, sl2, back1, back2, gone_unW, gone_dW, gone_ownW, setA0, setA1, List.map_cons, List.map_nil, List.length_cons, List.length_nil, List.cons_append, List.nil_append, List.getElem?_cons_zero, List.getElem?_cons_succ, List.replicate_succ, List.replicate_zero, List.set_cons_zero, List.set_cons_succ, exists_eq_left, exists_eq_left', Option.some.injEq, Sl.own.injEq, exists_eq', and_true, true_and, Nat.reduceAdd, Nat.reduceSub, Nat.zero_add])
            refine call_of h1 ⟨w.length, b + 3, rfl, by omega, by omega, hd4, by omega, fun r c5 q0 q1 hd5 => ?_⟩
            obtain ⟨p, rfl⟩ := Int.eq_ofNat_of_zero_le q0
            have hp : p < w.length := by omega
            have hat2 : atI (w.map D.int) (p : Int) = some (.int (w.getD p 0)) := by
              refine atI_get (by omega) ?_
              rw [Int.toNat_natCast, List.getElem?_map, List.getD_eq_getElem?_getD, List.getElem?_eq_getElem hp]
              rfl
            have hc1 : cutD (w.map D.int) none (some (p : Int)) = (w.take p).map D.int := by
              rw [cutD_to _ _ (by rw [List.length_map]; omega), List.map_take]
            have hc2 : cutD (w.map D.int) (some ((p : Int) + 1)) none = (w.drop (p + 1)).map D.int := by
              have := cutD_from (w.map D.int) (p + 1) (by rw [List.length_map]; omega)
              rw [List.map_drop]
              exact this
            (try simp -dsimp only [kK_eq, optK_some, blK_eq, intK_eq, strK_eq, iteK_t, iteK_f, andK_t, sK_some, valS_d, valS_own, valS_tp, ↓wE_v, ↓wE_k, ↓wE_bin, ↓wE_neg, ↓wE_no, ↓wE_cmp, ↓wE_chn, ↓wE_isN, ↓wE_ntN, ↓wE_and, ↓wE_or, ↓wE_orT, ↓wE_ite, ↓wE_call, ↓wE_callk, ↓wE_refused, ↓wE_callc, ↓wE_bi, ↓wE_isi, ↓wE_lenv, ↓wE_ixv, ↓wE_ix, ↓wE_sl, ↓wE_rev, ↓wE_tup, ↓wE_tpl, ↓wE_lst, ↓wE_vtp, ↓wE_index, ↓wE_lrng, ↓wE_sset, ↓comp_eq, ↓allg_eq, lstK_eq, cutK_tup, cutK_lst, cutK_scr, revK_tup, revK_lst, vtpK_tp, ↓wEs_nil, ↓wEs_cons, ↓wVs_nil, ↓wVs_cons, ↓wO_no, ↓wO_yes, ↓wC_no, ↓wC_yes, ↓wI_it, ↓wI_r1, ↓wI_r2, r2K_eq, ↓wI_r3, ↓wI_zip, ↓wS_asg, ↓wS_par, ↓wS_unp, ↓wS_setv, ↓wS_swp, ↓wS_ex, ↓wS_ret, ↓wS_iff, ↓wS_brk, ↓wS_rais, ↓wS_newd, ↓wS_skip, ↓wS_app, ↓wS_ext, ↓wS_aug, ownK_eq, lstD_eq, augK_add, augK_sub, ↓wSs_nil, ↓wSs_cons, ↓whl_eq, ↓fr_eq, b_add, b_sub, b_mul, b_div, b_mod, b_pow, b_addT, b_addL, c_lt, c_le, c_gt, c_ge, c_eq, c_ne, f_abs, f_int, f_min, f_len, f_list, f_tuple, set_mk, sl_d, sl_own, sl_tp, dat_d, dat_own, dat_tp, it_tupW, it_lst, it_scr, items_tab, items_wh, is_own, is_tup, is_lst, is_scr, is_cell, is_tab, is_wh, ln_own, ln_tup, ln_lst, ln_scr, ln_dk, ln_tab, ln_wh, set_d, set_own, set_dk, set_tp, hide1, hide2, putT1, putT2, putT3, sl1, sl2, back1, back2, gone_unW, gone_dW, gone_ownW, setA0, setA1, List.map_cons, List.map_nil, List.length_cons, List.length_nil, List.cons_append, List.nil_append, List.getElem?_cons_zero, List.getElem?_cons_succ, List.replicate_succ, List.replicate_zero, List.set_cons_zero, List.set_cons_succ, exists_eq_left, exists_eq_left', Option.some.injEq, Sl.own.injEq, exists_eq', and_true, true_and, Nat.reduceAdd, Nat.reduceSub, Nat.zero_add, hat2, cutK_wh, hc1, hc2])
            refine ⟨by rw [List.length_map, List.length_take]; omega, ?_⟩
            (try simp -dsimp only [kK_eq, optK_some, blK_eq, intK_eq, strK_eq, iteK_t, iteK_f, andK_t, sK_some, valS_d, valS_own, valS_tp, ↓wE_v, ↓wE_k, ↓wE_bin, ↓wE_neg, ↓wE_no, ↓wE_cmp, ↓wE_chn, ↓wE_isN, ↓wE_ntN, ↓wE_and, ↓wE_or, ↓wE_orT, ↓wE_ite, ↓wE_call, ↓wE_callk, ↓wE_refused, ↓wE_callc, ↓wE_bi, ↓wE_isi, ↓wE_lenv, ↓wE_ixv, ↓wE_ix, ↓wE_sl, ↓wE_rev, ↓wE_tup, ↓wE_tpl, ↓wE_lst, ↓wE_vtp, ↓wE_index, ↓wE_lrng, ↓wE_sset, ↓comp_eq, ↓allg_eq, lstK_eq, cutK_tup, cutK_lst, cutK_scr, revK_tup, revK_lst, vtpK_tp, ↓wEs_nil, ↓wEs_cons, ↓wVs_nil, ↓wVs_cons, ↓wO_no, ↓wO_yes, ↓wC_no, ↓wC_yes, ↓wI_it, ↓wI_r1, ↓wI_r2, r2K_eq, ↓wI_r3, ↓wI_zip, ↓wS_asg, ↓wS_par, ↓wS_unp, ↓wS_setv, ↓wS_swp, ↓wS_ex, ↓wS_ret, ↓wS_iff, ↓wS_brk, ↓wS_rais, ↓wS_newd, ↓wS_skip, ↓wS_app, ↓wS_ext, ↓wS_aug, ownK_eq, lstD_eq, augK_add, augK_sub, ↓wSs_nil, ↓wSs_cons, ↓whl_eq, ↓fr_eq, b_add, b_sub, b_mul, b_div, b_mod, b_pow, b_addT, b_addL, c_lt, c_le, c_gt, c_ge, c_eq, c_ne, f_abs, f_int, f_min, f_len, f_list, f_tuple, set_mk, sl_d, sl_own, sl_tp, dat_d, dat_own, dat_tp, it_tupW, it_lst, it_scr, items_tab, items_wh, is_own, is_tup, is_lst, is_scr, is_cell, is_tab, is_wh, ln_own, ln_tup, ln_lst, ln_scr, ln_dk, ln_tab, ln_wh, set_d, set_own, set_dk, set_tp, hide1, hide2, putT1, putT2, putT3, sl1, sl2, back1, back2, gone_unW, gone_dW, gone_ownW, setA0, setA1, List.map_cons, List.map_nil, List.length_cons, List.length_nil, List.cons_append, List.nil_append, List.getElem?_cons_zero, List.getElem?_cons_succ, List.replicate_succ, List.replicate_zero, List.set_cons_zero, List.set_cons_succ, exists_eq_left, exists_eq_left', Option.some.injEq, Sl.own.injEq, exists_eq', and_true, true_and, Nat.reduceAdd, Nat.reduceSub, Nat.zero_add, hat2, cutK_wh, hc1, hc2])
            refine ⟨by rw [List.length_append, List.length_map, List.length_map, List.length_take, List.length_drop]; simp; omega, ?_⟩
            (try simp -dsimp only [kK_eq, optK_some, blK_eq, intK_eq, strK_eq, iteK_t, iteK_f, andK_t, sK_some, valS_d, valS_own, valS_tp, ↓wE_v, ↓wE_k, ↓wE_bin, ↓wE_neg, ↓wE_no, ↓wE_cmp, ↓wE_chn, ↓wE_isN, ↓wE_ntN, ↓wE_and, ↓wE_or, ↓wE_orT, ↓wE_ite, ↓wE_call, ↓wE_callk, ↓wE_refused, ↓wE_callc, ↓wE_bi, ↓wE_isi, ↓wE_lenv, ↓wE_ixv, ↓wE_ix, ↓wE_sl, ↓wE_rev, ↓wE_tup, ↓wE_tpl, ↓wE_lst, ↓wE_vtp, ↓wE_index, ↓wE_lrng, ↓wE_sset, ↓comp_eq, ↓allg_eq, lstK_eq, cutK_tup, cutK_lst, cutK_scr, revK_tup, revK_lst, vtpK_tp, ↓wEs_nil, ↓wEs_cons, ↓wVs_nil, ↓wVs_cons, ↓wO_no, ↓wO_yes, ↓wC_no, ↓wC_yes, ↓wI_it, ↓wI_r1, ↓wI_r2, r2K_eq, ↓wI_r3, ↓wI_zip, ↓wS_asg, ↓wS_par, ↓wS_unp, ↓wS_setv, ↓wS_swp, ↓wS_ex, ↓wS_ret, ↓wS_iff, ↓wS_brk, ↓wS_rais, ↓wS_newd, ↓wS_skip, ↓wS_app, ↓wS_ext, ↓wS_aug, ownK_eq, lstD_eq, augK_add, augK_sub, ↓wSs_nil, ↓wSs_cons, ↓whl_eq, ↓fr_eq, b_add, b_sub, b_mul, b_div, b_mod, b_pow, b_addT, b_addL, c_lt, c_le, c_gt, c_ge, c_eq, c_ne, f_abs, f_int, f_min, f_len, f_list, f_tuple, set_mk, sl_d, sl_own, sl_tp, dat_d, dat_own, dat_tp, it_tupW, it_lst, it_scr, items_tab, items_wh, is_own, is_tup, is_lst, is_scr, is_cell, is_tab, is_wh, ln_own, ln_tup, ln_lst, ln_scr, ln_dk, ln_tab, ln_wh, set_d, set_own, set_dk, set_tp, hide1, hide2, putT1, putT2, putT3, sl1, sl2, back1, back2, gone_unW, gone_dW, gone_ownW, setA0, setA1, List.map_cons, List.map_nil, List.length_cons, List.length_nil, List.cons_append, List.nil_append, List.getElem?_cons_zero, List.getElem?_cons_succ, List.replicate_succ, List.replicate_zero, List.set_cons_zero, List.set_cons_succ, exists_eq_left, exists_eq_left', Option.some.injEq, Sl.own.injEq, exists_eq', and_true, true_and, Nat.reduceAdd, Nat.reduceSub, Nat.zero_add])
            refine add_tab (S := [w.take p ++ [w.getD p 0 + 1] ++ w.drop (p + 1)]) ?_ (by simp; omega) ?_
            · simp [tabD, whD]
            · have hbp : w.getD p 0 ∈ w := by
                rw [List.getD_eq_getElem?_getD, List.getElem?_eq_getElem hp]
                exact List.getElem_mem _
              refine hq _ _ (by simp; omega) (hRM.app (one _ (up _ ?_) fun x hx => ?_)) (hd5.mono (by omega))
              · rw [List.length_append, List.length_append, List.length_take, List.length_drop]
                simp
                omega
              · rcases List.mem_append.mp hx with z | z
                · rcases List.mem_append.mp z with z | z
                  · have := hwb x (List.mem_of_mem_take z)
                    omega
                  · have := hwb _ hbp
                    rw [List.mem_singleton.mp z]
                    omega
                · have := hwb x (List.mem_of_mem_drop z)
                  omega
          · (try simp -dsimp only [kK_eq, optK_some, blK_eq, intK_eq, strK_eq, iteK_t, iteK_f, andK_t, sK_some, valS_d, valS_own, valS_tp, ↓wE_v, ↓wE_k, ↓wE_bin, ↓wE_neg, ↓wE_no, ↓wE_cmp, ↓wE_chn, ↓wE_isN, ↓wE_ntN, ↓wE_and, ↓wE_or, ↓wE_orT, ↓wE_ite, ↓wE_call, ↓wE_callk, ↓wE_refused, ↓wE_callc, ↓wE_bi, ↓wE_isi, ↓wE_lenv, ↓wE_ixv, ↓wE_ix, ↓wE_sl, ↓wE_rev, ↓wE_tup, ↓wE_tpl, ↓wE_lst, ↓wE_vtp, ↓wE_index, ↓wE_lrng, ↓wE_sset, ↓comp_eq, ↓allg_eq, lstK_eq, cutK_tup, cutK_lst, cutK_scr, revK_tup, revK_lst, vtpK_tp, ↓wEs_nil, ↓wEs_cons, ↓wVs_nil, ↓wVs_cons, ↓wO_no, ↓wO_yes, ↓wC_no, ↓wC_yes, ↓wI_it, ↓wI_r1, ↓wI_r2, r2K_eq, ↓wI_r3, ↓wI_zip, ↓wS_asg, ↓wS_par, ↓wS_unp, ↓wS_setv, ↓wS_swp, ↓wS_ex, ↓wS_ret, ↓wS_iff, ↓wS_brk, ↓wS_rais, ↓wS_newd, ↓wS_skip, ↓wS_app, ↓wS_ext, ↓wS_aug, ownK_eq, lstD_eq, augK_add, augK_sub, ↓wSs_nil, ↓wSs_cons, ↓whl_eq, ↓fr_eq, b_add, b_sub, b_mul, b_div, b_mod, b_pow, b_addT, b_addL, c_lt, c_le, c_gt, c_ge, c_eq, c_ne, f_abs, f_int, f_min, f_len, f_list, f_tuple, set_mk, sl_d, sl_own, sl_tp, dat_d, dat_own, dat_tp, it_tupW, it_lst, it_scr, items_tab, items_wh, is_own, is_tup, is_lst, is_scr, is_cell, is_tab, is_wh, ln_own, ln_tup, ln_lst, ln_scr, ln_dk, ln_tab, ln_wh, set_d, set_own, set_dk, set_tp, hide1, hide2, putT1, putT2, putT3, sl1, sl2, back1, back2, gone_unW, gone_dW, gone_ownW, setA0, setA1, List.map_cons, List.map_nil, List.length_cons, List.length_nil, List.cons_append, List.nil_append, List.getElem?_cons_zero, List.getElem?_cons_succ, List.replicate_succ, List.replicate_zero, List.set_cons_zero, List.set_cons_succ, exists_eq_left, exists_eq_left', Option.some.injEq, Sl.own.injEq, exists_eq', and_true, true_and, Nat.reduceAdd, Nat.reduceSub, Nat.zero_add, revK_tab])
            refine hq _ _ (by rw [List.length_reverse]; omega) ((hM.mono (by omega) (by omega)).sub fun v hv => List.mem_reverse.mp hv) (hd4.mono (by omega))
end L01
end
section
namespace L01
open PySem (Str)
open L2 (atI ixN CMul CDivW CMulW CPow)
open DL LC
open L03 (unT isTb_tab isTb_ts unT_tab)
variable {Sg : Tab}
def rt10 : Ss := .nil
def rs9 : S := (.ret (.cmp .Eq (.v 9) (.lst (.cons (.k (.str "one")) (.cons (.k (.str "other")) (.cons (.k (.str "other")) (.cons (.k (.str "table")) .nil)))))))
def rt9 : Ss := .cons rs9 rt10
def rs8 : S := (.asg 9 (.lst (.cons (.refused "unlike_time" (.cons (.k .non) (.cons (.k .non) .nil))) (.cons (.refused "unlike_time" (.cons (.v 1) (.cons (.lst .nil) .nil))) (.cons (.refused "same_for_ever" (.cons (.v 1) (.cons (.tup (.cons (.tup .nil) .nil)) .nil))) (.cons (.refused "least_period" (.cons (.tup (.cons (.k (.int 1)) .nil)) .nil)) .nil))))))
def rt8 : Ss := .cons rs8 rt9
def rs7 : S := (.fr (.one 8) (.r2 (.k (.int 1)) (.v 7)) (.cons (.iff (.and (.cmp .Eq (.bin .Mod (.v 6) (.v 8)) (.k (.int 0))) (.call "_law_comes" (.cons (.v 1) (.cons (.v 8) (.cons (.v 6) .nil))))) (.cons (.ret (.k (.bl false))) .nil) .nil) .nil))
def rt7 : Ss := .cons rs7 rt8
def rs6 : S := (.iff (.or (.no (.chn .LtE .LtE (.k (.int 1)) (.v 7) (.v 6))) (.no (.call "_law_comes" (.cons (.v 1) (.cons (.v 7) (.cons (.v 6) .nil)))))) (.cons (.ret (.k (.bl false))) .nil) .nil)
def rt6 : Ss := .cons rs6 rt7
def rs5 : S := (.par [6, 7] (.cons (.call "_law_cycle" (.cons (.v 1) .nil)) (.cons (.call "least_period" (.cons (.v 1) .nil)) .nil)))
def rt5 : Ss := .cons rs5 rt6
def rs4 : S := (.iff (.or (.cmp .NotEq (.callk "unlike_time" (.cons (.v 1) .nil) (.cons (.v 4) .nil)) (.v 5)) (.cmp .NotEq (.callk "same_for_ever" .nil (.cons (.v 4) (.cons (.v 1) .nil))) (.isN (.v 5)))) (.cons (.ret (.k (.bl false))) .nil) .nil)
def rt4 : Ss := .cons rs4 rt5
def rs3 : S := (.asg 5 (.call "_law_first" (.cons (.v 1) (.cons (.v 4) (.cons (.call "_law_cycle" (.cons (.bin .Add (.v 1) (.v 4)) .nil)) .nil)))))
def rt3 : Ss := .cons rs3 rt4
def rs2 : S := (.asg 4 (.ite (.and (.cmp .Lt (.lenv 4) (.k (.int 4))) (.cmp .Eq (.call "_law_roll" (.cons (.v 0) (.cons (.k (.int 2)) .nil))) (.k (.int 0)))) (.call "_law_other" (.cons (.v 0) (.cons (.v 4) .nil))) (.v 4)))
def rt2 : Ss := .cons rs2 rt3
def rs1 : S := (.asg 4 (.call "_law_other" (.cons (.v 0) (.cons (.v 1) .nil))))
def rt1 : Ss := .cons rs1 rt2
def rs0 : S := (.asg 1 (.bi .tuple (.cons (.comp (.one 2) (.r1 (.call "_law_roll" (.cons (.v 0) (.cons (.k (.int 4)) .nil)))) .no (.bi .tuple (.cons (.comp (.one 3) (.r1 (.bin .Add (.k (.int 1)) (.call "_law_roll" (.cons (.v 0) (.cons (.k (.int 8)) .nil))))) .no (.call "_law_roll" (.cons (.v 0) (.cons (.k (.int 3)) .nil)))) .nil))) .nil)))
def rt0 : Ss := .cons rs0 rt1
theorem rb : b__law_right = rt0 := rfl
structure SigR (Sg : Tab) : Prop where
  roll : Sg "_law_roll" = sp_roll
  other : Sg "_law_other" = sp_lother
  first : Sg "_law_first" = sp_lfirst
  comes : Sg "_law_comes" = sp_lcomes
  lcyc : Sg "_law_cycle" = sp_lcycle
  unlike : Sg "unlike_time" = sp_unlike_time
  same : Sg "same_for_ever" = sp_same
  least : Sg "least_period" = sp_least
abbrev env1 (T O : List (List Int)) (s5 s6 s7 s8 s9 : Sl) : List Sl := [.d .cell, .d (tabD T), .un, .un, .d (tabD O), s5, s6, s7, s8, s9]
/-- what the drawn table is -/
structure TT (T : List (List Int)) : Prop where
  len : T.length ≤ 3
  md : Mk 0 10 T
  m8 : ∀ w ∈ T, 0 < w.length ∧ w.length ≤ 8
structure TO (O : List (List Int)) : Prop where
  len : O.length ≤ 4
  md : Mk 2 30 O
theorem TT.of {T : List (List Int)} (h : Rolled 3 8 3 T) : TT T := ⟨h.1, fun w hw => by
  obtain ⟨h1, h2, h3⟩ := h.2 w hw
  exact ⟨⟨w.length, 0, h1, h2, Nat.le_refl _, by simp⟩, fun x hx => by have := h3 x hx; omega⟩, fun w hw => ⟨(h.2 w hw).1, (h.2 w hw).2.1⟩⟩
theorem mk_tb {k B : Nat} {T : List (List Int)} (h : Mk k B T) (hk : k ≤ 2) (hB : B ≤ 1000) (hl : T.length ≤ 6) : isTb (tabD T) = true := tb_of hl fun w hw => by
  have h1 := h.len hk hw
  exact ⟨h1.1, by omega, fun x hx => by have := (h w hw).2 x hx; omega⟩
section
variable {c : List Int} {T O : List (List Int)} {N : Nd}
theorem r_0 (S : SigR Sg) (hd : DI 0 c) (h : ∀ T c', TT T → DI 200 c' → N.nx ⟨[.d .cell, .d (tabD T), .un, .un, .un, .un, .un, .un, .un, .un], c'⟩) : wpS Sg rs0 N ⟨[.d .cell, .un, .un, .un, .un, .un, .un, .un, .un, .un], c⟩ := by
  unfold rs0
  (try simp -dsimp only [kK_eq, optK_some, blK_eq, intK_eq, strK_eq, iteK_t, iteK_f, andK_t, sK_some, valS_d, valS_own, valS_tp, ↓wE_v, ↓wE_k, ↓wE_bin, ↓wE_neg, ↓wE_no, ↓wE_cmp, ↓wE_chn, ↓wE_isN, ↓wE_ntN, ↓wE_and, ↓wE_or, ↓wE_orT, ↓wE_ite, ↓wE_call, ↓wE_callk, ↓wE_refused, ↓wE_callc, ↓wE_bi, ↓wE_isi, ↓wE_lenv, ↓wE_ixv, ↓wE_ix, ↓wE_sl, ↓wE_rev, ↓wE_tup, ↓wE_tpl, ↓wE_lst, ↓wE_vtp, ↓wE_index, ↓wE_lrng, ↓wE_sset, ↓comp_eq, ↓allg_eq, lstK_eq, cutK_tup, cutK_lst, cutK_scr, revK_tup, revK_lst, vtpK_tp, ↓wEs_nil, ↓wEs_cons, ↓wVs_nil, ↓wVs_cons, ↓wO_no, ↓wO_yes, ↓wC_no, ↓wC_yes, ↓wI_it, ↓wI_r1, ↓wI_r2, r2K_eq, ↓wI_r3, ↓wI_zip, ↓wS_asg, ↓wS_par, ↓wS_unp, ↓wS_setv, ↓wS_swp, ↓wS_ex, ↓wS_ret, ↓wS_iff, ↓wS_brk, ↓wS_rais, ↓wS_newd, ↓wS_skip, ↓wS_app, ↓wS_ext, ↓wS_aug, ownK_eq, lstD_eq, augK_add, augK_sub, ↓wSs_nil, ↓wSs_cons, ↓whl_eq, ↓fr_eq, b_add, b_sub, b_mul, b_div, b_mod, b_pow, b_addT, b_addL, c_lt, c_le, c_gt, c_ge, c_eq, c_ne, f_abs, f_int, f_min, f_len, f_list, f_tuple, set_mk, sl_d, sl_own, sl_tp, dat_d, dat_own, dat_tp, it_tupW, it_lst, it_scr, items_tab, items_wh, is_own, is_tup, is_lst, is_scr, is_cell, is_tab, is_wh, ln_own, ln_tup, ln_lst, ln_scr, ln_dk, ln_tab, ln_wh, set_d, set_own, set_dk, set_tp, hide1, hide2, putT1, putT2, putT3, sl1, sl2, back1, back2, gone_unW, gone_dW, gone_ownW, setA0, setA1, List.map_cons, List.map_nil, List.length_cons, List.length_nil, List.cons_append, List.nil_append, List.getElem?_cons_zero, List.getElem?_cons_succ, List.replicate_succ, List.replicate_zero, List.set_cons_zero, List.set_cons_succ, exists_eq_left, exists_eq_left', Option.some.injEq, Sl.own.injEq, exists_eq', and_true, true_and, Nat.reduceAdd, Nat.reduceSub, Nat.zero_add])
  refine call_of S.roll ⟨4, 0, rfl, by omega, by omega, hd, by omega, fun r c1 r0 r1 hd1 => ?_⟩
  (try simp -dsimp only [kK_eq, optK_some, blK_eq, intK_eq, strK_eq, iteK_t, iteK_f, andK_t, sK_some, valS_d, valS_own, valS_tp, ↓wE_v, ↓wE_k, ↓wE_bin, ↓wE_neg, ↓wE_no, ↓wE_cmp, ↓wE_chn, ↓wE_isN, ↓wE_ntN, ↓wE_and, ↓wE_or, ↓wE_orT, ↓wE_ite, ↓wE_call, ↓wE_callk, ↓wE_refused, ↓wE_callc, ↓wE_bi, ↓wE_isi, ↓wE_lenv, ↓wE_ixv, ↓wE_ix, ↓wE_sl, ↓wE_rev, ↓wE_tup, ↓wE_tpl, ↓wE_lst, ↓wE_vtp, ↓wE_index, ↓wE_lrng, ↓wE_sset, ↓comp_eq, ↓allg_eq, lstK_eq, cutK_tup, cutK_lst, cutK_scr, revK_tup, revK_lst, vtpK_tp, ↓wEs_nil, ↓wEs_cons, ↓wVs_nil, ↓wVs_cons, ↓wO_no, ↓wO_yes, ↓wC_no, ↓wC_yes, ↓wI_it, ↓wI_r1, ↓wI_r2, r2K_eq, ↓wI_r3, ↓wI_zip, ↓wS_asg, ↓wS_par, ↓wS_unp, ↓wS_setv, ↓wS_swp, ↓wS_ex, ↓wS_ret, ↓wS_iff, ↓wS_brk, ↓wS_rais, ↓wS_newd, ↓wS_skip, ↓wS_app, ↓wS_ext, ↓wS_aug, ownK_eq, lstD_eq, augK_add, augK_sub, ↓wSs_nil, ↓wSs_cons, ↓whl_eq, ↓fr_eq, b_add, b_sub, b_mul, b_div, b_mod, b_pow, b_addT, b_addL, c_lt, c_le, c_gt, c_ge, c_eq, c_ne, f_abs, f_int, f_min, f_len, f_list, f_tuple, set_mk, sl_d, sl_own, sl_tp, dat_d, dat_own, dat_tp, it_tupW, it_lst, it_scr, items_tab, items_wh, is_own, is_tup, is_lst, is_scr, is_cell, is_tab, is_wh, ln_own, ln_tup, ln_lst, ln_scr, ln_dk, ln_tab, ln_wh, set_d, set_own, set_dk, set_tp, hide1, hide2, putT1, putT2, putT3, sl1, sl2, back1, back2, gone_unW, gone_dW, gone_ownW, setA0, setA1, List.map_cons, List.map_nil, List.length_cons, List.length_nil, List.cons_append, List.nil_append, List.getElem?_cons_zero, List.getElem?_cons_succ, List.replicate_succ, List.replicate_zero, List.set_cons_zero, List.set_cons_succ, exists_eq_left, exists_eq_left', Option.some.injEq, Sl.own.injEq, exists_eq', and_true, true_and, Nat.reduceAdd, Nat.reduceSub, Nat.zero_add])
  refine ⟨by unfold rngOk; omega, ?_⟩
  refine roll_table S.roll (V := 3) (by omega) (env := fun s => [.d .cell, .un, s, .un, .un, .un, .un, .un, .un, .un]) (M := 8) (by omega) (fun s x c => rfl) (fun s => rfl) (fun s => rfl) (fun s s3 x c => rfl) (fun s s3 => rfl) (fun s s3 => rfl) (fun s => rfl) (B := 1) (k := r.toNat) (by omega) (by omega) (fun T c' s hT hd' => ?_) hd1 .un
  (try simp -dsimp only [kK_eq, optK_some, blK_eq, intK_eq, strK_eq, iteK_t, iteK_f, andK_t, sK_some, valS_d, valS_own, valS_tp, ↓wE_v, ↓wE_k, ↓wE_bin, ↓wE_neg, ↓wE_no, ↓wE_cmp, ↓wE_chn, ↓wE_isN, ↓wE_ntN, ↓wE_and, ↓wE_or, ↓wE_orT, ↓wE_ite, ↓wE_call, ↓wE_callk, ↓wE_refused, ↓wE_callc, ↓wE_bi, ↓wE_isi, ↓wE_lenv, ↓wE_ixv, ↓wE_ix, ↓wE_sl, ↓wE_rev, ↓wE_tup, ↓wE_tpl, ↓wE_lst, ↓wE_vtp, ↓wE_index, ↓wE_lrng, ↓wE_sset, ↓comp_eq, ↓allg_eq, lstK_eq, cutK_tup, cutK_lst, cutK_scr, revK_tup, revK_lst, vtpK_tp, ↓wEs_nil, ↓wEs_cons, ↓wVs_nil, ↓wVs_cons, ↓wO_no, ↓wO_yes, ↓wC_no, ↓wC_yes, ↓wI_it, ↓wI_r1, ↓wI_r2, r2K_eq, ↓wI_r3, ↓wI_zip, ↓wS_asg, ↓wS_par, ↓wS_unp, ↓wS_setv, ↓wS_swp, ↓wS_ex, ↓wS_ret, ↓wS_iff, ↓wS_brk, ↓wS_rais, ↓wS_newd, ↓wS_skip, ↓wS_app, ↓wS_ext, ↓wS_aug, ownK_eq, lstD_eq, augK_add, augK_sub, ↓wSs_nil, ↓wSs_cons, ↓whl_eq, ↓fr_eq, b_add, b_sub, b_mul, b_div, b_mod, b_pow, b_addT, b_addL, c_lt, c_le, c_gt, c_ge, c_eq, c_ne, f_abs, f_int, f_min, f_len, f_list, f_tuple, set_mk, sl_d, sl_own, sl_tp, dat_d, dat_own, dat_tp, it_tupW, it_lst, it_scr, items_tab, items_wh, is_own, is_tup, is_lst, is_scr, is_cell, is_tab, is_wh, ln_own, ln_tup, ln_lst, ln_scr, ln_dk, ln_tab, ln_wh, set_d, set_own, set_dk, set_tp, hide1, hide2, putT1, putT2, putT3, sl1, sl2, back1, back2, gone_unW, gone_dW, gone_ownW, setA0, setA1, List.map_cons, List.map_nil, List.length_cons, List.length_nil, List.cons_append, List.nil_append, List.getElem?_cons_zero, List.getElem?_cons_succ, List.replicate_succ, List.replicate_zero, List.set_cons_zero, List.set_cons_succ, exists_eq_left, exists_eq_left', Option.some.injEq, Sl.own.injEq, exists_eq', and_true, true_and, Nat.reduceAdd, Nat.reduceSub, Nat.zero_add])
  exact h T c' (TT.of (hT.mono (by omega))) (hd'.mono (by omega))
theorem r_1 (S : SigR Sg) (hT : TT T) (hd : DI 200 c) (h : ∀ O c', O.length ≤ 4 → Mk 1 20 O → DI 300 c' → N.nx ⟨env1 T O .un .un .un .un .un, c'⟩) : wpS Sg rs1 N ⟨[.d .cell, .d (tabD T), .un, .un, .un, .un, .un, .un, .un, .un], c⟩ := by
  unfold rs1
  (try simp -dsimp only [kK_eq, optK_some, blK_eq, intK_eq, strK_eq, iteK_t, iteK_f, andK_t, sK_some, valS_d, valS_own, valS_tp, ↓wE_v, ↓wE_k, ↓wE_bin, ↓wE_neg, ↓wE_no, ↓wE_cmp, ↓wE_chn, ↓wE_isN, ↓wE_ntN, ↓wE_and, ↓wE_or, ↓wE_orT, ↓wE_ite, ↓wE_call, ↓wE_callk, ↓wE_refused, ↓wE_callc, ↓wE_bi, ↓wE_isi, ↓wE_lenv, ↓wE_ixv, ↓wE_ix, ↓wE_sl, ↓wE_rev, ↓wE_tup, ↓wE_tpl, ↓wE_lst, ↓wE_vtp, ↓wE_index, ↓wE_lrng, ↓wE_sset, ↓comp_eq, ↓allg_eq, lstK_eq, cutK_tup, cutK_lst, cutK_scr, revK_tup, revK_lst, vtpK_tp, ↓wEs_nil, ↓wEs_cons, ↓wVs_nil, ↓wVs_cons, ↓wO_no, ↓wO_yes, ↓wC_no, ↓wC_yes, ↓wI_it, ↓wI_r1, ↓wI_r2, r2K_eq, ↓wI_r3, ↓wI_zip, ↓wS_asg, ↓wS_par, ↓wS_unp, ↓wS_setv, ↓wS_swp, ↓wS_ex, ↓wS_ret, ↓wS_iff, ↓wS_brk, ↓wS_rais, ↓wS_newd, ↓wS_skip, ↓wS_app, ↓wS_ext, ↓wS_aug, ownK_eq, lstD_eq, augK_add, augK_sub, ↓wSs_nil, ↓wSs_cons, ↓whl_eq, ↓fr_eq, b_add, b_sub, b_mul, b_div, b_mod, b_pow, b_addT, b_addL, c_lt, c_le, c_gt, c_ge, c_eq, c_ne, f_abs, f_int, f_min, f_len, f_list, f_tuple, set_mk, sl_d, sl_own, sl_tp, dat_d, dat_own, dat_tp, it_tupW, it_lst, it_scr, items_tab, items_wh, is_own, is_tup, is_lst, is_scr, is_cell, is_tab, is_wh, ln_own, ln_tup, ln_lst, ln_scr, ln_dk, ln_tab, ln_wh, set_d, set_own, set_dk, set_tp, hide1, hide2, putT1, putT2, putT3, sl1, sl2, back1, back2, gone_unW, gone_dW, gone_ownW, setA0, setA1, List.map_cons, List.map_nil, List.length_cons, List.length_nil, List.cons_append, List.nil_append, List.getElem?_cons_zero, List.getElem?_cons_succ, List.replicate_succ, List.replicate_zero, List.set_cons_zero, List.set_cons_succ, exists_eq_left, exists_eq_left', Option.some.injEq, Sl.own.injEq, exists_eq', and_true, true_and, Nat.reduceAdd, Nat.reduceSub, Nat.zero_add])
  refine call_of S.other ⟨T, 0, 10, 200, rfl, hT.len, hT.md, by omega, by omega, by omega, hd, by omega, fun O c' h1 h2 h3 => ?_⟩
  (try simp -dsimp only [kK_eq, optK_some, blK_eq, intK_eq, strK_eq, iteK_t, iteK_f, andK_t, sK_some, valS_d, valS_own, valS_tp, ↓wE_v, ↓wE_k, ↓wE_bin, ↓wE_neg, ↓wE_no, ↓wE_cmp, ↓wE_chn, ↓wE_isN, ↓wE_ntN, ↓wE_and, ↓wE_or, ↓wE_orT, ↓wE_ite, ↓wE_call, ↓wE_callk, ↓wE_refused, ↓wE_callc, ↓wE_bi, ↓wE_isi, ↓wE_lenv, ↓wE_ixv, ↓wE_ix, ↓wE_sl, ↓wE_rev, ↓wE_tup, ↓wE_tpl, ↓wE_lst, ↓wE_vtp, ↓wE_index, ↓wE_lrng, ↓wE_sset, ↓comp_eq, ↓allg_eq, lstK_eq, cutK_tup, cutK_lst, cutK_scr, revK_tup, revK_lst, vtpK_tp, ↓wEs_nil, ↓wEs_cons, ↓wVs_nil, ↓wVs_cons, ↓wO_no, ↓wO_yes, ↓wC_no, ↓wC_yes, ↓wI_it, ↓wI_r1, ↓wI_r2, r2K_eq, ↓wI_r3, ↓wI_zip, ↓wS_asg, ↓wS_par, ↓wS_unp, ↓wS_setv, ↓wS_swp, ↓wS_ex, ↓wS_ret, ↓wS_iff, ↓wS_brk, ↓wS_rais, ↓wS_newd, ↓wS_skip, ↓wS_app, ↓wS_ext, ↓wS_aug, ownK_eq, lstD_eq, augK_add, augK_sub, ↓wSs_nil, ↓wSs_cons, ↓whl_eq, ↓fr_eq, b_add, b_sub, b_mul, b_div, b_mod, b_pow, b_addT, b_addL, c_lt, c_le, c_gt, c_ge, c_eq, c_ne, f_abs, f_int, f_min, f_len, f_list, f_tuple, set_mk, sl_d, sl_own, sl_tp, dat_d, dat_own, dat_tp, it_tupW, it_lst, it_scr, items_tab, items_wh, is_own, is_tup, is_lst, is_scr, is_cell, is_tab, is_wh, ln_own, ln_tup, ln_lst, ln_scr, ln_dk, ln_tab, ln_wh, set_d, set_own, set_dk, set_tp, hide1, hide2, putT1, putT2, putT3, sl1, sl2, back1, back2, gone_unW, gone_dW, gone_ownW, setA0, setA1, List.map_cons, List.map_nil, List.length_cons, List.length_nil, List.cons_append, List.nil_append, List.getElem?_cons_zero, List.getElem?_cons_succ, List.replicate_succ, List.replicate_zero, List.set_cons_zero, List.set_cons_succ, exists_eq_left, exists_eq_left', Option.some.injEq, Sl.own.injEq, exists_eq', and_true, true_and, Nat.reduceAdd, Nat.reduceSub, Nat.zero_add])
  exact h O c' h1 h2 h3
theorem r_2 (S : SigR Sg) {O : List (List Int)} (hO : O.length ≤ 4) (hM : Mk 1 20 O) (hd : DI 300 c) (h : ∀ O c', TO O → N.nx ⟨env1 T O .un .un .un .un .un, c'⟩) : wpS Sg rs2 N ⟨env1 T O .un .un .un .un .un, c⟩ := by
  unfold rs2
  have same : ∀ c', N.nx ⟨env1 T O .un .un .un .un .un, c'⟩ := fun c' => h O c' ⟨hO, hM.mono (by omega) (by omega)⟩
  (try simp -dsimp only [kK_eq, optK_some, blK_eq, intK_eq, strK_eq, iteK_t, iteK_f, andK_t, sK_some, valS_d, valS_own, valS_tp, ↓wE_v, ↓wE_k, ↓wE_bin, ↓wE_neg, ↓wE_no, ↓wE_cmp, ↓wE_chn, ↓wE_isN, ↓wE_ntN, ↓wE_and, ↓wE_or, ↓wE_orT, ↓wE_ite, ↓wE_call, ↓wE_callk, ↓wE_refused, ↓wE_callc, ↓wE_bi, ↓wE_isi, ↓wE_lenv, ↓wE_ixv, ↓wE_ix, ↓wE_sl, ↓wE_rev, ↓wE_tup, ↓wE_tpl, ↓wE_lst, ↓wE_vtp, ↓wE_index, ↓wE_lrng, ↓wE_sset, ↓comp_eq, ↓allg_eq, lstK_eq, cutK_tup, cutK_lst, cutK_scr, revK_tup, revK_lst, vtpK_tp, ↓wEs_nil, ↓wEs_cons, ↓wVs_nil, ↓wVs_cons, ↓wO_no, ↓wO_yes, ↓wC_no, ↓wC_yes, ↓wI_it, ↓wI_r1, ↓wI_r2, r2K_eq, ↓wI_r3, ↓wI_zip, ↓wS_asg, ↓wS_par, ↓wS_unp, ↓wS_setv, ↓wS_swp, ↓wS_ex, ↓wS_ret, ↓wS_iff, ↓wS_brk, ↓wS_rais, ↓wS_newd, ↓wS_skip, ↓wS_app, ↓wS_ext, ↓wS_aug, ownK_eq, lstD_eq, augK_add, augK_sub, ↓wSs_nil, ↓wSs_cons, ↓whl_eq, ↓fr_eq, b_add, b_sub, b_mul, b_div, b_mod, b_pow, b_addT, b_addL, c_lt, c_le, c_gt, c_ge, c_eq, c_ne, f_abs, f_int, f_min, f_len, f_list, f_tuple, set_mk, sl_d, sl_own, sl_tp, dat_d, dat_own, dat_tp, it_tupW, it_lst, it_scr, items_tab, items_wh, is_own, is_tup, is_lst, is_scr, is_cell, is_tab, is_wh, ln_own, ln_tup, ln_lst, ln_scr, ln_dk, ln_tab, ln_wh, set_d, set_own, set_dk, set_tp, hide1, hide2, putT1, putT2, putT3, sl1, sl2, back1, back2, gone_unW, gone_dW, gone_ownW, setA0, setA1, List.map_cons, List.map_nil, List.length_cons, List.length_nil, List.cons_append, List.nil_append, List.getElem?_cons_zero, List.getElem?_cons_succ, List.replicate_succ, List.replicate_zero, List.set_cons_zero, List.set_cons_succ, exists_eq_left, exists_eq_left', Option.some.injEq, Sl.own.injEq, exists_eq', and_true, true_and, Nat.reduceAdd, Nat.reduceSub, Nat.zero_add])
  refine iteK_of (fun z => ?_) (fun z => ?_)
  · (try simp -dsimp only [kK_eq, optK_some, blK_eq, intK_eq, strK_eq, iteK_t, iteK_f, andK_t, sK_some, valS_d, valS_own, valS_tp, ↓wE_v, ↓wE_k, ↓wE_bin, ↓wE_neg, ↓wE_no, ↓wE_cmp, ↓wE_chn, ↓wE_isN, ↓wE_ntN, ↓wE_and, ↓wE_or, ↓wE_orT, ↓wE_ite, ↓wE_call, ↓wE_callk, ↓wE_refused, ↓wE_callc, ↓wE_bi, ↓wE_isi, ↓wE_lenv, ↓wE_ixv, ↓wE_ix, ↓wE_sl, ↓wE_rev, ↓wE_tup, ↓wE_tpl, ↓wE_lst, ↓wE_vtp, ↓wE_index, ↓wE_lrng, ↓wE_sset, ↓comp_eq, ↓allg_eq, lstK_eq, cutK_tup, cutK_lst, cutK_scr, revK_tup, revK_lst, vtpK_tp, ↓wEs_nil, ↓wEs_cons, ↓wVs_nil, ↓wVs_cons, ↓wO_no, ↓wO_yes, ↓wC_no, ↓wC_yes, ↓wI_it, ↓wI_r1, ↓wI_r2, r2K_eq, ↓wI_r3, ↓wI_zip, ↓wS_asg, ↓wS_par, ↓wS_unp, ↓wS_setv, ↓wS_swp, ↓wS_ex, ↓wS_ret, ↓wS_iff, ↓wS_brk, ↓wS_rais, ↓wS_newd, ↓wS_skip, ↓wS_app, ↓wS_ext, ↓wS_aug, ownK_eq, lstD_eq, augK_add, augK_sub, ↓wSs_nil, ↓wSs_cons, ↓whl_eq, ↓fr_eq, b_add, b_sub, b_mul, b_div, b_mod, b_pow, b_addT, b_addL, c_lt, c_le, c_gt, c_ge, c_eq, c_ne, f_abs, f_int, f_min, f_len, f_list, f_tuple, set_mk, sl_d, sl_own, sl_tp, dat_d, dat_own, dat_tp, it_tupW, it_lst, it_scr, items_tab, items_wh, is_own, is_tup, is_lst, is_scr, is_cell, is_tab, is_wh, ln_own, ln_tup, ln_lst, ln_scr, ln_dk, ln_tab, ln_wh, set_d, set_own, set_dk, set_tp, hide1, hide2, putT1, putT2, putT3, sl1, sl2, back1, back2, gone_unW, gone_dW, gone_ownW, setA0, setA1, List.map_cons, List.map_nil, List.length_cons, List.length_nil, List.cons_append, List.nil_append, List.getElem?_cons_zero, List.getElem?_cons_succ, List.replicate_succ, List.replicate_zero, List.set_cons_zero, List.set_cons_succ, exists_eq_left, exists_eq_left', Option.some.injEq, Sl.own.injEq, exists_eq', and_true, true_and, Nat.reduceAdd, Nat.reduceSub, Nat.zero_add])
    refine call_of S.roll ⟨2, 300, rfl, by omega, by omega, hd, by omega, fun r c1 r0 r1 hd1 => ?_⟩
    (try simp -dsimp only [kK_eq, optK_some, blK_eq, intK_eq, strK_eq, iteK_t, iteK_f, andK_t, sK_some, valS_d, valS_own, valS_tp, ↓wE_v, ↓wE_k, ↓wE_bin, ↓wE_neg, ↓wE_no, ↓wE_cmp, ↓wE_chn, ↓wE_isN, ↓wE_ntN, ↓wE_and, ↓wE_or, ↓wE_orT, ↓wE_ite, ↓wE_call, ↓wE_callk, ↓wE_refused, ↓wE_callc, ↓wE_bi, ↓wE_isi, ↓wE_lenv, ↓wE_ixv, ↓wE_ix, ↓wE_sl, ↓wE_rev, ↓wE_tup, ↓wE_tpl, ↓wE_lst, ↓wE_vtp, ↓wE_index, ↓wE_lrng, ↓wE_sset, ↓comp_eq, ↓allg_eq, lstK_eq, cutK_tup, cutK_lst, cutK_scr, revK_tup, revK_lst, vtpK_tp, ↓wEs_nil, ↓wEs_cons, ↓wVs_nil, ↓wVs_cons, ↓wO_no, ↓wO_yes, ↓wC_no, ↓wC_yes, ↓wI_it, ↓wI_r1, ↓wI_r2, r2K_eq, ↓wI_r3, ↓wI_zip, ↓wS_asg, ↓wS_par, ↓wS_unp, ↓wS_setv, ↓wS_swp, ↓wS_ex, ↓wS_ret, ↓wS_iff, ↓wS_brk, ↓wS_rais, ↓wS_newd, ↓wS_skip, ↓wS_app, ↓wS_ext, ↓wS_aug, ownK_eq, lstD_eq, augK_add, augK_sub, ↓wSs_nil, ↓wSs_cons, ↓whl_eq, ↓fr_eq, b_add, b_sub, b_mul, b_div, b_mod, b_pow, b_addT, b_addL, c_lt, c_le, c_gt, c_ge, c_eq, c_ne, f_abs, f_int, f_min, f_len, f_list, f_tuple, set_mk, sl_d, sl_own, sl_tp, dat_d, dat_own, dat_tp, it_tupW, it_lst, it_scr, items_tab, items_wh, is_own, is_tup, is_lst, is_scr, is_cell, is_tab, is_wh, ln_own, ln_tup, ln_lst, ln_scr, ln_dk, ln_tab, ln_wh, set_d, set_own, set_dk, set_tp, hide1, hide2, putT1, putT2, putT3, sl1, sl2, back1, back2, gone_unW, gone_dW, gone_ownW, setA0, setA1, List.map_cons, List.map_nil, List.length_cons, List.length_nil, List.cons_append, List.nil_append, List.getElem?_cons_zero, List.getElem?_cons_succ, List.replicate_succ, List.replicate_zero, List.set_cons_zero, List.set_cons_succ, exists_eq_left, exists_eq_left', Option.some.injEq, Sl.own.injEq, exists_eq', and_true, true_and, Nat.reduceAdd, Nat.reduceSub, Nat.zero_add])
    refine iteK_of (fun z2 => ?_) (fun z2 => ?_)
    · (try simp -dsimp only [kK_eq, optK_some, blK_eq, intK_eq, strK_eq, iteK_t, iteK_f, andK_t, sK_some, valS_d, valS_own, valS_tp, ↓wE_v, ↓wE_k, ↓wE_bin, ↓wE_neg, ↓wE_no, ↓wE_cmp, ↓wE_chn, ↓wE_isN, ↓wE_ntN, ↓wE_and, ↓wE_or, ↓wE_orT, ↓wE_ite, ↓wE_call, ↓wE_callk, ↓wE_refused, ↓wE_callc, ↓wE_bi, ↓wE_isi, ↓wE_lenv, ↓wE_ixv, ↓wE_ix, ↓wE_sl, ↓wE_rev, ↓wE_tup, ↓wE_tpl, ↓wE_lst, ↓wE_vtp, ↓wE_index, ↓wE_lrng, ↓wE_sset, ↓comp_eq, ↓allg_eq, lstK_eq, cutK_tup, cutK_lst, cutK_scr, revK_tup, revK_lst, vtpK_tp, ↓wEs_nil, ↓wEs_cons, ↓wVs_nil, ↓wVs_cons, ↓wO_no, ↓wO_yes, ↓wC_no, ↓wC_yes, ↓wI_it, ↓wI_r1, ↓wI_r2, r2K_eq, ↓wI_r3, ↓wI_zip, ↓wS_asg, ↓wS_par, ↓wS_unp, ↓wS_setv, ↓wS_swp, ↓wS_ex, ↓wS_ret, ↓wS_iff, ↓wS_brk, ↓wS_rais, ↓wS_newd, ↓wS_skip, ↓wS_app, ↓wS_ext, ↓wS_aug, ownK_eq, lstD_eq, augK_add, augK_sub, ↓wSs_nil, ↓wSs_cons, ↓whl_eq, ↓fr_eq, b_add, b_sub, b_mul, b_div, b_mod, b_pow, b_addT, b_addL, c_lt, c_le, c_gt, c_ge, c_eq, c_ne, f_abs, f_int, f_min, f_len, f_list, f_tuple, set_mk, sl_d, sl_own, sl_tp, dat_d, dat_own, dat_tp, it_tupW, it_lst, it_scr, items_tab, items_wh, is_own, is_tup, is_lst, is_scr, is_cell, is_tab, is_wh, ln_own, ln_tup, ln_lst, ln_scr, ln_dk, ln_tab, ln_wh, set_d, set_own, set_dk, set_tp, hide1, hide2, putT1, putT2, putT3, sl1, sl2, back1, back2, gone_unW, gone_dW, gone_ownW, setA0, setA1, List.map_cons, List.map_nil, List.length_cons, List.length_nil, List.cons_append, List.nil_append, List.getElem?_cons_zero, List.getElem?_cons_succ, List.replicate_succ, List.replicate_zero, List.set_cons_zero, List.set_cons_succ, exists_eq_left, exists_eq_left', Option.some.injEq, Sl.own.injEq, exists_eq', and_true, true_and, Nat.reduceAdd, Nat.reduceSub, Nat.zero_add])
      have := of_decide_eq_true z
      refine call_of S.other ⟨O, 1, 20, 301, rfl, by omega, hM, by omega, by omega, by omega, hd1, by omega, fun O c' h1 h2 h3 => ?_⟩
      (try simp -dsimp only [kK_eq, optK_some, blK_eq, intK_eq, strK_eq, iteK_t, iteK_f, andK_t, sK_some, valS_d, valS_own, valS_tp, ↓wE_v, ↓wE_k, ↓wE_bin, ↓wE_neg, ↓wE_no, ↓wE_cmp, ↓wE_chn, ↓wE_isN, ↓wE_ntN, ↓wE_and, ↓wE_or, ↓wE_orT, ↓wE_ite, ↓wE_call, ↓wE_callk, ↓wE_refused, ↓wE_callc, ↓wE_bi, ↓wE_isi, ↓wE_lenv, ↓wE_ixv, ↓wE_ix, ↓wE_sl, ↓wE_rev, ↓wE_tup, ↓wE_tpl, ↓wE_lst, ↓wE_vtp, ↓wE_index, ↓wE_lrng, ↓wE_sset, ↓comp_eq, ↓allg_eq, lstK_eq, cutK_tup, cutK_lst, cutK_scr, revK_tup, revK_lst, vtpK_tp, ↓wEs_nil, ↓wEs_cons, ↓wVs_nil, ↓wVs_cons, ↓wO_no, ↓wO_yes, ↓wC_no, ↓wC_yes, ↓wI_it, ↓wI_r1, ↓wI_r2, r2K_eq, ↓wI_r3, ↓wI_zip, ↓wS_asg, ↓wS_par, ↓wS_unp, ↓wS_setv, ↓wS_swp, ↓wS_ex, ↓wS_ret, ↓wS_iff, ↓wS_brk, ↓wS_rais, ↓wS_newd, ↓wS_skip, ↓wS_app, ↓wS_ext, ↓wS_aug, ownK_eq, lstD_eq, augK_add, augK_sub, ↓wSs_nil, ↓wSs_cons, ↓whl_eq, ↓fr_eq, b_add, b_sub, b_mul, b_div, b_mod, b_pow, b_addT, b_addL, c_lt, c_le, c_gt, c_ge, c_eq, c_ne, f_abs, f_int, f_min, f_len, f_list, f_tuple, set_mk, sl_d, sl_own, sl_tp, dat_d, dat_own, dat_tp, it_tupW, it_lst, it_scr, items_tab, items_wh, is_own, is_tup, is_lst, is_scr, is_cell, is_tab, is_wh, ln_own, ln_tup, ln_lst, ln_scr, ln_dk, ln_tab, ln_wh, set_d, set_own, set_dk, set_tp, hide1, hide2, putT1, putT2, putT3, sl1, sl2, back1, back2, gone_unW, gone_dW, gone_ownW, setA0, setA1, List.map_cons, List.map_nil, List.length_cons, List.length_nil, List.cons_append, List.nil_append, List.getElem?_cons_zero, List.getElem?_cons_succ, List.replicate_succ, List.replicate_zero, List.set_cons_zero, List.set_cons_succ, exists_eq_left, exists_eq_left', Option.some.injEq, Sl.own.injEq, exists_eq', and_true, true_and, Nat.reduceAdd, Nat.reduceSub, Nat.zero_add])
      exact h O c' ⟨h1, h2⟩
    · (try simp -dsimp only [kK_eq, optK_some, blK_eq, intK_eq, strK_eq, iteK_t, iteK_f, andK_t, sK_some, valS_d, valS_own, valS_tp, ↓wE_v, ↓wE_k, ↓wE_bin, ↓wE_neg, ↓wE_no, ↓wE_cmp, ↓wE_chn, ↓wE_isN, ↓wE_ntN, ↓wE_and, ↓wE_or, ↓wE_orT, ↓wE_ite, ↓wE_call, ↓wE_callk, ↓wE_refused, ↓wE_callc, ↓wE_bi, ↓wE_isi, ↓wE_lenv, ↓wE_ixv, ↓wE_ix, ↓wE_sl, ↓wE_rev, ↓wE_tup, ↓wE_tpl, ↓wE_lst, ↓wE_vtp, ↓wE_index, ↓wE_lrng, ↓wE_sset, ↓comp_eq, ↓allg_eq, lstK_eq, cutK_tup, cutK_lst, cutK_scr, revK_tup, revK_lst, vtpK_tp, ↓wEs_nil, ↓wEs_cons, ↓wVs_nil, ↓wVs_cons, ↓wO_no, ↓wO_yes, ↓wC_no, ↓wC_yes, ↓wI_it, ↓wI_r1, ↓wI_r2, r2K_eq, ↓wI_r3, ↓wI_zip, ↓wS_asg, ↓wS_par, ↓wS_unp, ↓wS_setv, ↓wS_swp, ↓wS_ex, ↓wS_ret, ↓wS_iff, ↓wS_brk, ↓wS_rais, ↓wS_newd, ↓wS_skip, ↓wS_app, ↓wS_ext, ↓wS_aug, ownK_eq, lstD_eq, augK_add, augK_sub, ↓wSs_nil, ↓wSs_cons, ↓whl_eq, ↓fr_eq, b_add, b_sub, b_mul, b_div, b_mod, b_pow, b_addT, b_addL, c_lt, c_le, c_gt, c_ge, c_eq, c_ne, f_abs, f_int, f_min, f_len, f_list, f_tuple, set_mk, sl_d, sl_own, sl_tp, dat_d, dat_own, dat_tp, it_tupW, it_lst, it_scr, items_tab, items_wh, is_own, is_tup, is_lst, is_scr, is_cell, is_tab, is_wh, ln_own, ln_tup, ln_lst, ln_scr, ln_dk, ln_tab, ln_wh, set_d, set_own, set_dk, set_tp, hide1, hide2, putT1, putT2, putT3, sl1, sl2, back1, back2, gone_unW, gone_dW, gone_ownW, setA0, setA1, List.map_cons, List.map_nil, List.length_cons, List.length_nil, List.cons_append, List.nil_append, List.getElem?_cons_zero, List.getElem?_cons_succ, List.replicate_succ, List.replicate_zero, List.set_cons_zero, List.set_cons_succ, exists_eq_left, exists_eq_left', Option.some.injEq, Sl.own.injEq, exists_eq', and_true, true_and, Nat.reduceAdd, Nat.reduceSub, Nat.zero_add])
      exact same c1
  · (try simp -dsimp only [kK_eq, optK_some, blK_eq, intK_eq, strK_eq, iteK_t, iteK_f, andK_t, sK_some, valS_d, valS_own, valS_tp, ↓wE_v, ↓wE_k, ↓wE_bin, ↓wE_neg, ↓wE_no, ↓wE_cmp, ↓wE_chn, ↓wE_isN, ↓wE_ntN, ↓wE_and, ↓wE_or, ↓wE_orT, ↓wE_ite, ↓wE_call, ↓wE_callk, ↓wE_refused, ↓wE_callc, ↓wE_bi, ↓wE_isi, ↓wE_lenv, ↓wE_ixv, ↓wE_ix, ↓wE_sl, ↓wE_rev, ↓wE_tup, ↓wE_tpl, ↓wE_lst, ↓wE_vtp, ↓wE_index, ↓wE_lrng, ↓wE_sset, ↓comp_eq, ↓allg_eq, lstK_eq, cutK_tup, cutK_lst, cutK_scr, revK_tup, revK_lst, vtpK_tp, ↓wEs_nil, ↓wEs_cons, ↓wVs_nil, ↓wVs_cons, ↓wO_no, ↓wO_yes, ↓wC_no, ↓wC_yes, ↓wI_it, ↓wI_r1, ↓wI_r2, r2K_eq, ↓wI_r3, ↓wI_zip, ↓wS_asg, ↓wS_par, ↓wS_unp, ↓wS_setv, ↓wS_swp, ↓wS_ex, ↓wS_ret, ↓wS_iff, ↓wS_brk, ↓wS_rais, ↓wS_newd, ↓wS_skip, ↓wS_app, ↓wS_ext, ↓wS_aug, ownK_eq, lstD_eq, augK_add, augK_sub, ↓wSs_nil, ↓wSs_cons, ↓whl_eq, ↓fr_eq, b_add, b_sub, b_mul, b_div, b_mod, b_pow, b_addT, b_addL, c_lt, c_le, c_gt, c_ge, c_eq, c_ne, f_abs, f_int, f_min, f_len, f_list, f_tuple, set_mk, sl_d, sl_own, sl_tp, dat_d, dat_own, dat_tp, it_tupW, it_lst, it_scr, items_tab, items_wh, is_own, is_tup, is_lst, is_scr, is_cell, is_tab, is_wh, ln_own, ln_tup, ln_lst, ln_scr, ln_dk, ln_tab, ln_wh, set_d, set_own, set_dk, set_tp, hide1, hide2, putT1, putT2, putT3, sl1, sl2, back1, back2, gone_unW, gone_dW, gone_ownW, setA0, setA1, List.map_cons, List.map_nil, List.length_cons, List.length_nil, List.cons_append, List.nil_append, List.getElem?_cons_zero, List.getElem?_cons_succ, List.replicate_succ, List.replicate_zero, List.set_cons_zero, List.set_cons_succ, exists_eq_left, exists_eq_left', Option.some.injEq, Sl.own.injEq, exists_eq', and_true, true_and, Nat.reduceAdd, Nat.reduceSub, Nat.zero_add])
    exact same c
theorem TT.ts (hT : TT T) (hO : TO O) : TS (T ++ O) := ⟨by rw [List.length_append]; have := hT.len; have := hO.len; omega, fun w hw => by
  have : 0 < w.length ∧ w.length ≤ 32 := (List.mem_append.mp hw).elim (fun z => hT.md.len (by omega) z) (fun z => hO.md.len (by omega) z)
  omega⟩
theorem cyc_b (hT : TT T) (hO : TO O) : LC.cyc (T ++ O) ≤ 32 ^ 7 := by
  refine Nat.le_trans (cyc_le (M := 32) fun w hw => ?_) (Nat.pow_le_pow_right (by decide) ?_)
  · rcases List.mem_append.mp hw with z | z
    · exact hT.md.len (by omega) z
    · exact hO.md.len (by omega) z
  · rw [List.length_append]
    have := hT.len
    have := hO.len
    omega
theorem mk_tok {k B : Nat} (h : Mk k B T) (hk : k ≤ 2) (hl : T.length ≤ 6) : TOk T := ⟨by omega, fun w hw => by have := h.len hk hw; omega⟩
abbrev due (T O : List (List Int)) : Option Nat := firstU (unl T O) 0 (LC.cyc (T ++ O))
theorem r_3 (S : SigR Sg) (hT : TT T) (hO : TO O) (h : N.nx ⟨env1 T O (.d (optN (due T O))) .un .un .un .un, c⟩) : wpS Sg rs3 N ⟨env1 T O .un .un .un .un .un, c⟩ := by
  have l1 := hT.len
  have l2 := hO.len
  unfold rs3
  (try simp -dsimp only [kK_eq, optK_some, blK_eq, intK_eq, strK_eq, iteK_t, iteK_f, andK_t, sK_some, valS_d, valS_own, valS_tp, ↓wE_v, ↓wE_k, ↓wE_bin, ↓wE_neg, ↓wE_no, ↓wE_cmp, ↓wE_chn, ↓wE_isN, ↓wE_ntN, ↓wE_and, ↓wE_or, ↓wE_orT, ↓wE_ite, ↓wE_call, ↓wE_callk, ↓wE_refused, ↓wE_callc, ↓wE_bi, ↓wE_isi, ↓wE_lenv, ↓wE_ixv, ↓wE_ix, ↓wE_sl, ↓wE_rev, ↓wE_tup, ↓wE_tpl, ↓wE_lst, ↓wE_vtp, ↓wE_index, ↓wE_lrng, ↓wE_sset, ↓comp_eq, ↓allg_eq, lstK_eq, cutK_tup, cutK_lst, cutK_scr, revK_tup, revK_lst, vtpK_tp, ↓wEs_nil, ↓wEs_cons, ↓wVs_nil, ↓wVs_cons, ↓wO_no, ↓wO_yes, ↓wC_no, ↓wC_yes, ↓wI_it, ↓wI_r1, ↓wI_r2, r2K_eq, ↓wI_r3, ↓wI_zip, ↓wS_asg, ↓wS_par, ↓wS_unp, ↓wS_setv, ↓wS_swp, ↓wS_ex, ↓wS_ret, ↓wS_iff, ↓wS_brk, ↓wS_rais, ↓wS_newd, ↓wS_skip, ↓wS_app, ↓wS_ext, ↓wS_aug, ownK_eq, lstD_eq, augK_add, augK_sub, ↓wSs_nil, ↓wSs_cons, ↓whl_eq, ↓fr_eq, b_add, b_sub, b_mul, b_div, b_mod, b_pow, b_addT, b_addL, c_lt, c_le, c_gt, c_ge, c_eq, c_ne, f_abs, f_int, f_min, f_len, f_list, f_tuple, set_mk, sl_d, sl_own, sl_tp, dat_d, dat_own, dat_tp, it_tupW, it_lst, it_scr, items_tab, items_wh, is_own, is_tup, is_lst, is_scr, is_cell, is_tab, is_wh, ln_own, ln_tup, ln_lst, ln_scr, ln_dk, ln_tab, ln_wh, set_d, set_own, set_dk, set_tp, hide1, hide2, putT1, putT2, putT3, sl1, sl2, back1, back2, gone_unW, gone_dW, gone_ownW, setA0, setA1, List.map_cons, List.map_nil, List.length_cons, List.length_nil, List.cons_append, List.nil_append, List.getElem?_cons_zero, List.getElem?_cons_succ, List.replicate_succ, List.replicate_zero, List.set_cons_zero, List.set_cons_succ, exists_eq_left, exists_eq_left', Option.some.injEq, Sl.own.injEq, exists_eq', and_true, true_and, Nat.reduceAdd, Nat.reduceSub, Nat.zero_add, b_addTab])
  refine ⟨by omega, ?_⟩
  refine call_of S.lcyc ⟨T ++ O, rfl, hT.ts hO, ?_⟩
  (try simp -dsimp only [kK_eq, optK_some, blK_eq, intK_eq, strK_eq, iteK_t, iteK_f, andK_t, sK_some, valS_d, valS_own, valS_tp, ↓wE_v, ↓wE_k, ↓wE_bin, ↓wE_neg, ↓wE_no, ↓wE_cmp, ↓wE_chn, ↓wE_isN, ↓wE_ntN, ↓wE_and, ↓wE_or, ↓wE_orT, ↓wE_ite, ↓wE_call, ↓wE_callk, ↓wE_refused, ↓wE_callc, ↓wE_bi, ↓wE_isi, ↓wE_lenv, ↓wE_ixv, ↓wE_ix, ↓wE_sl, ↓wE_rev, ↓wE_tup, ↓wE_tpl, ↓wE_lst, ↓wE_vtp, ↓wE_index, ↓wE_lrng, ↓wE_sset, ↓comp_eq, ↓allg_eq, lstK_eq, cutK_tup, cutK_lst, cutK_scr, revK_tup, revK_lst, vtpK_tp, ↓wEs_nil, ↓wEs_cons, ↓wVs_nil, ↓wVs_cons, ↓wO_no, ↓wO_yes, ↓wC_no, ↓wC_yes, ↓wI_it, ↓wI_r1, ↓wI_r2, r2K_eq, ↓wI_r3, ↓wI_zip, ↓wS_asg, ↓wS_par, ↓wS_unp, ↓wS_setv, ↓wS_swp, ↓wS_ex, ↓wS_ret, ↓wS_iff, ↓wS_brk, ↓wS_rais, ↓wS_newd, ↓wS_skip, ↓wS_app, ↓wS_ext, ↓wS_aug, ownK_eq, lstD_eq, augK_add, augK_sub, ↓wSs_nil, ↓wSs_cons, ↓whl_eq, ↓fr_eq, b_add, b_sub, b_mul, b_div, b_mod, b_pow, b_addT, b_addL, c_lt, c_le, c_gt, c_ge, c_eq, c_ne, f_abs, f_int, f_min, f_len, f_list, f_tuple, set_mk, sl_d, sl_own, sl_tp, dat_d, dat_own, dat_tp, it_tupW, it_lst, it_scr, items_tab, items_wh, is_own, is_tup, is_lst, is_scr, is_cell, is_tab, is_wh, ln_own, ln_tup, ln_lst, ln_scr, ln_dk, ln_tab, ln_wh, set_d, set_own, set_dk, set_tp, hide1, hide2, putT1, putT2, putT3, sl1, sl2, back1, back2, gone_unW, gone_dW, gone_ownW, setA0, setA1, List.map_cons, List.map_nil, List.length_cons, List.length_nil, List.cons_append, List.nil_append, List.getElem?_cons_zero, List.getElem?_cons_succ, List.replicate_succ, List.replicate_zero, List.set_cons_zero, List.set_cons_succ, exists_eq_left, exists_eq_left', Option.some.injEq, Sl.own.injEq, exists_eq', and_true, true_and, Nat.reduceAdd, Nat.reduceSub, Nat.zero_add])
  have := cyc_b hT hO
  refine call_of S.first ⟨T, O, LC.cyc (T ++ O), rfl, mk_tok hT.md (by omega) (by omega), mk_tok hO.md (by omega) (by omega), by omega, ?_⟩
  (try simp -dsimp only [kK_eq, optK_some, blK_eq, intK_eq, strK_eq, iteK_t, iteK_f, andK_t, sK_some, valS_d, valS_own, valS_tp, ↓wE_v, ↓wE_k, ↓wE_bin, ↓wE_neg, ↓wE_no, ↓wE_cmp, ↓wE_chn, ↓wE_isN, ↓wE_ntN, ↓wE_and, ↓wE_or, ↓wE_orT, ↓wE_ite, ↓wE_call, ↓wE_callk, ↓wE_refused, ↓wE_callc, ↓wE_bi, ↓wE_isi, ↓wE_lenv, ↓wE_ixv, ↓wE_ix, ↓wE_sl, ↓wE_rev, ↓wE_tup, ↓wE_tpl, ↓wE_lst, ↓wE_vtp, ↓wE_index, ↓wE_lrng, ↓wE_sset, ↓comp_eq, ↓allg_eq, lstK_eq, cutK_tup, cutK_lst, cutK_scr, revK_tup, revK_lst, vtpK_tp, ↓wEs_nil, ↓wEs_cons, ↓wVs_nil, ↓wVs_cons, ↓wO_no, ↓wO_yes, ↓wC_no, ↓wC_yes, ↓wI_it, ↓wI_r1, ↓wI_r2, r2K_eq, ↓wI_r3, ↓wI_zip, ↓wS_asg, ↓wS_par, ↓wS_unp, ↓wS_setv, ↓wS_swp, ↓wS_ex, ↓wS_ret, ↓wS_iff, ↓wS_brk, ↓wS_rais, ↓wS_newd, ↓wS_skip, ↓wS_app, ↓wS_ext, ↓wS_aug, ownK_eq, lstD_eq, augK_add, augK_sub, ↓wSs_nil, ↓wSs_cons, ↓whl_eq, ↓fr_eq, b_add, b_sub, b_mul, b_div, b_mod, b_pow, b_addT, b_addL, c_lt, c_le, c_gt, c_ge, c_eq, c_ne, f_abs, f_int, f_min, f_len, f_list, f_tuple, set_mk, sl_d, sl_own, sl_tp, dat_d, dat_own, dat_tp, it_tupW, it_lst, it_scr, items_tab, items_wh, is_own, is_tup, is_lst, is_scr, is_cell, is_tab, is_wh, ln_own, ln_tup, ln_lst, ln_scr, ln_dk, ln_tab, ln_wh, set_d, set_own, set_dk, set_tp, hide1, hide2, putT1, putT2, putT3, sl1, sl2, back1, back2, gone_unW, gone_dW, gone_ownW, setA0, setA1, List.map_cons, List.map_nil, List.length_cons, List.length_nil, List.cons_append, List.nil_append, List.getElem?_cons_zero, List.getElem?_cons_succ, List.replicate_succ, List.replicate_zero, List.set_cons_zero, List.set_cons_succ, exists_eq_left, exists_eq_left', Option.some.injEq, Sl.own.injEq, exists_eq', and_true, true_and, Nat.reduceAdd, Nat.reduceSub, Nat.zero_add])
  exact h
theorem sh_optN : ∀ o : Option Nat, ShN 1 (optN o)
  | none => sh_non.mono (by decide)
  | some p => (sh_int p).mono (by decide)
theorem due_sym (hT : TT T) (hO : TO O) : (due O T).isNone = (due T O).isNone := by
  have e : ((due O T).isNone = true) ↔ ((due T O).isNone = true) := by
    rw [firstU_nil (hO.md.sz (by omega)) (hT.md.sz (by omega)), firstU_nil (hT.md.sz (by omega)) (hO.md.sz (by omega))]
    exact ⟨fun h t => (h t).symm, fun h t => (h t).symm⟩
  cases h1 : (due O T).isNone <;> cases h2 : (due T O).isNone <;> simp [h1, h2] at e ⊢
theorem r_4 (S : SigR Sg) (hT : TT T) (hO : TO O) (h : N.nx ⟨env1 T O (.d (optN (due T O))) .un .un .un .un, c⟩) : wpS Sg rs4 N ⟨env1 T O (.d (optN (due T O))) .un .un .un .un, c⟩ := by
  have l1 := hT.len
  have l2 := hO.len
  have t1 := mk_tb hT.md (by omega) (by omega) (by omega)
  have t2 := mk_tb hO.md (by omega) (by omega) (by omega)
  unfold rs4
  (try simp -dsimp only [kK_eq, optK_some, blK_eq, intK_eq, strK_eq, iteK_t, iteK_f, andK_t, sK_some, valS_d, valS_own, valS_tp, ↓wE_v, ↓wE_k, ↓wE_bin, ↓wE_neg, ↓wE_no, ↓wE_cmp, ↓wE_chn, ↓wE_isN, ↓wE_ntN, ↓wE_and, ↓wE_or, ↓wE_orT, ↓wE_ite, ↓wE_call, ↓wE_callk, ↓wE_refused, ↓wE_callc, ↓wE_bi, ↓wE_isi, ↓wE_lenv, ↓wE_ixv, ↓wE_ix, ↓wE_sl, ↓wE_rev, ↓wE_tup, ↓wE_tpl, ↓wE_lst, ↓wE_vtp, ↓wE_index, ↓wE_lrng, ↓wE_sset, ↓comp_eq, ↓allg_eq, lstK_eq, cutK_tup, cutK_lst, cutK_scr, revK_tup, revK_lst, vtpK_tp, ↓wEs_nil, ↓wEs_cons, ↓wVs_nil, ↓wVs_cons, ↓wO_no, ↓wO_yes, ↓wC_no, ↓wC_yes, ↓wI_it, ↓wI_r1, ↓wI_r2, r2K_eq, ↓wI_r3, ↓wI_zip, ↓wS_asg, ↓wS_par, ↓wS_unp, ↓wS_setv, ↓wS_swp, ↓wS_ex, ↓wS_ret, ↓wS_iff, ↓wS_brk, ↓wS_rais, ↓wS_newd, ↓wS_skip, ↓wS_app, ↓wS_ext, ↓wS_aug, ownK_eq, lstD_eq, augK_add, augK_sub, ↓wSs_nil, ↓wSs_cons, ↓whl_eq, ↓fr_eq, b_add, b_sub, b_mul, b_div, b_mod, b_pow, b_addT, b_addL, c_lt, c_le, c_gt, c_ge, c_eq, c_ne, f_abs, f_int, f_min, f_len, f_list, f_tuple, set_mk, sl_d, sl_own, sl_tp, dat_d, dat_own, dat_tp, it_tupW, it_lst, it_scr, items_tab, items_wh, is_own, is_tup, is_lst, is_scr, is_cell, is_tab, is_wh, ln_own, ln_tup, ln_lst, ln_scr, ln_dk, ln_tab, ln_wh, set_d, set_own, set_dk, set_tp, hide1, hide2, putT1, putT2, putT3, sl1, sl2, back1, back2, gone_unW, gone_dW, gone_ownW, setA0, setA1, List.map_cons, List.map_nil, List.length_cons, List.length_nil, List.cons_append, List.nil_append, List.getElem?_cons_zero, List.getElem?_cons_succ, List.replicate_succ, List.replicate_zero, List.set_cons_zero, List.set_cons_succ, exists_eq_left, exists_eq_left', Option.some.injEq, Sl.own.injEq, exists_eq', and_true, true_and, Nat.reduceAdd, Nat.reduceSub, Nat.zero_add])
  refine call_of S.unlike ⟨tabD T, tabD O, rfl, (sh_tab _).pl, (sh_tab _).pl, ?_⟩
  rw [if_pos t1, if_pos t2, unT_tab, unT_tab]
  refine ⟨hT.md.sz (by omega), hO.md.sz (by omega), ?_⟩
  (try simp -dsimp only [kK_eq, optK_some, blK_eq, intK_eq, strK_eq, iteK_t, iteK_f, andK_t, sK_some, valS_d, valS_own, valS_tp, ↓wE_v, ↓wE_k, ↓wE_bin, ↓wE_neg, ↓wE_no, ↓wE_cmp, ↓wE_chn, ↓wE_isN, ↓wE_ntN, ↓wE_and, ↓wE_or, ↓wE_orT, ↓wE_ite, ↓wE_call, ↓wE_callk, ↓wE_refused, ↓wE_callc, ↓wE_bi, ↓wE_isi, ↓wE_lenv, ↓wE_ixv, ↓wE_ix, ↓wE_sl, ↓wE_rev, ↓wE_tup, ↓wE_tpl, ↓wE_lst, ↓wE_vtp, ↓wE_index, ↓wE_lrng, ↓wE_sset, ↓comp_eq, ↓allg_eq, lstK_eq, cutK_tup, cutK_lst, cutK_scr, revK_tup, revK_lst, vtpK_tp, ↓wEs_nil, ↓wEs_cons, ↓wVs_nil, ↓wVs_cons, ↓wO_no, ↓wO_yes, ↓wC_no, ↓wC_yes, ↓wI_it, ↓wI_r1, ↓wI_r2, r2K_eq, ↓wI_r3, ↓wI_zip, ↓wS_asg, ↓wS_par, ↓wS_unp, ↓wS_setv, ↓wS_swp, ↓wS_ex, ↓wS_ret, ↓wS_iff, ↓wS_brk, ↓wS_rais, ↓wS_newd, ↓wS_skip, ↓wS_app, ↓wS_ext, ↓wS_aug, ownK_eq, lstD_eq, augK_add, augK_sub, ↓wSs_nil, ↓wSs_cons, ↓whl_eq, ↓fr_eq, b_add, b_sub, b_mul, b_div, b_mod, b_pow, b_addT, b_addL, c_lt, c_le, c_gt, c_ge, c_eq, c_ne, f_abs, f_int, f_min, f_len, f_list, f_tuple, set_mk, sl_d, sl_own, sl_tp, dat_d, dat_own, dat_tp, it_tupW, it_lst, it_scr, items_tab, items_wh, is_own, is_tup, is_lst, is_scr, is_cell, is_tab, is_wh, ln_own, ln_tup, ln_lst, ln_scr, ln_dk, ln_tab, ln_wh, set_d, set_own, set_dk, set_tp, hide1, hide2, putT1, putT2, putT3, sl1, sl2, back1, back2, gone_unW, gone_dW, gone_ownW, setA0, setA1, List.map_cons, List.map_nil, List.length_cons, List.length_nil, List.cons_append, List.nil_append, List.getElem?_cons_zero, List.getElem?_cons_succ, List.replicate_succ, List.replicate_zero, List.set_cons_zero, List.set_cons_succ, exists_eq_left, exists_eq_left', Option.some.injEq, Sl.own.injEq, exists_eq', and_true, true_and, Nat.reduceAdd, Nat.reduceSub, Nat.zero_add])
  refine ne_same (sh_optN _) (by decide) ?_
  (try simp -dsimp only [kK_eq, optK_some, blK_eq, intK_eq, strK_eq, iteK_t, iteK_f, andK_t, sK_some, valS_d, valS_own, valS_tp, ↓wE_v, ↓wE_k, ↓wE_bin, ↓wE_neg, ↓wE_no, ↓wE_cmp, ↓wE_chn, ↓wE_isN, ↓wE_ntN, ↓wE_and, ↓wE_or, ↓wE_orT, ↓wE_ite, ↓wE_call, ↓wE_callk, ↓wE_refused, ↓wE_callc, ↓wE_bi, ↓wE_isi, ↓wE_lenv, ↓wE_ixv, ↓wE_ix, ↓wE_sl, ↓wE_rev, ↓wE_tup, ↓wE_tpl, ↓wE_lst, ↓wE_vtp, ↓wE_index, ↓wE_lrng, ↓wE_sset, ↓comp_eq, ↓allg_eq, lstK_eq, cutK_tup, cutK_lst, cutK_scr, revK_tup, revK_lst, vtpK_tp, ↓wEs_nil, ↓wEs_cons, ↓wVs_nil, ↓wVs_cons, ↓wO_no, ↓wO_yes, ↓wC_no, ↓wC_yes, ↓wI_it, ↓wI_r1, ↓wI_r2, r2K_eq, ↓wI_r3, ↓wI_zip, ↓wS_asg, ↓wS_par, ↓wS_unp, ↓wS_setv, ↓wS_swp, ↓wS_ex, ↓wS_ret, ↓wS_iff, ↓wS_brk, ↓wS_rais, ↓wS_newd, ↓wS_skip, ↓wS_app, ↓wS_ext, ↓wS_aug, ownK_eq, lstD_eq, augK_add, augK_sub, ↓wSs_nil, ↓wSs_cons, ↓whl_eq, ↓fr_eq, b_add, b_sub, b_mul, b_div, b_mod, b_pow, b_addT, b_addL, c_lt, c_le, c_gt, c_ge, c_eq, c_ne, f_abs, f_int, f_min, f_len, f_list, f_tuple, set_mk, sl_d, sl_own, sl_tp, dat_d, dat_own, dat_tp, it_tupW, it_lst, it_scr, items_tab, items_wh, is_own, is_tup, is_lst, is_scr, is_cell, is_tab, is_wh, ln_own, ln_tup, ln_lst, ln_scr, ln_dk, ln_tab, ln_wh, set_d, set_own, set_dk, set_tp, hide1, hide2, putT1, putT2, putT3, sl1, sl2, back1, back2, gone_unW, gone_dW, gone_ownW, setA0, setA1, List.map_cons, List.map_nil, List.length_cons, List.length_nil, List.cons_append, List.nil_append, List.getElem?_cons_zero, List.getElem?_cons_succ, List.replicate_succ, List.replicate_zero, List.set_cons_zero, List.set_cons_succ, exists_eq_left, exists_eq_left', Option.some.injEq, Sl.own.injEq, exists_eq', and_true, true_and, Nat.reduceAdd, Nat.reduceSub, Nat.zero_add])
  refine call_of S.same ⟨tabD O, tabD T, rfl, (sh_tab _).pl, (sh_tab _).pl, ?_⟩
  rw [if_pos t1, if_pos t2, unT_tab, unT_tab]
  refine ⟨hO.md.sz (by omega), hT.md.sz (by omega), ?_⟩
  (try simp -dsimp only [kK_eq, optK_some, blK_eq, intK_eq, strK_eq, iteK_t, iteK_f, andK_t, sK_some, valS_d, valS_own, valS_tp, ↓wE_v, ↓wE_k, ↓wE_bin, ↓wE_neg, ↓wE_no, ↓wE_cmp, ↓wE_chn, ↓wE_isN, ↓wE_ntN, ↓wE_and, ↓wE_or, ↓wE_orT, ↓wE_ite, ↓wE_call, ↓wE_callk, ↓wE_refused, ↓wE_callc, ↓wE_bi, ↓wE_isi, ↓wE_lenv, ↓wE_ixv, ↓wE_ix, ↓wE_sl, ↓wE_rev, ↓wE_tup, ↓wE_tpl, ↓wE_lst, ↓wE_vtp, ↓wE_index, ↓wE_lrng, ↓wE_sset, ↓comp_eq, ↓allg_eq, lstK_eq, cutK_tup, cutK_lst, cutK_scr, revK_tup, revK_lst, vtpK_tp, ↓wEs_nil, ↓wEs_cons, ↓wVs_nil, ↓wVs_cons, ↓wO_no, ↓wO_yes, ↓wC_no, ↓wC_yes, ↓wI_it, ↓wI_r1, ↓wI_r2, r2K_eq, ↓wI_r3, ↓wI_zip, ↓wS_asg, ↓wS_par, ↓wS_unp, ↓wS_setv, ↓wS_swp, ↓wS_ex, ↓wS_ret, ↓wS_iff, ↓wS_brk, ↓wS_rais, ↓wS_newd, ↓wS_skip, ↓wS_app, ↓wS_ext, ↓wS_aug, ownK_eq, lstD_eq, augK_add, augK_sub, ↓wSs_nil, ↓wSs_cons, ↓whl_eq, ↓fr_eq, b_add, b_sub, b_mul, b_div, b_mod, b_pow, b_addT, b_addL, c_lt, c_le, c_gt, c_ge, c_eq, c_ne, f_abs, f_int, f_min, f_len, f_list, f_tuple, set_mk, sl_d, sl_own, sl_tp, dat_d, dat_own, dat_tp, it_tupW, it_lst, it_scr, items_tab, items_wh, is_own, is_tup, is_lst, is_scr, is_cell, is_tab, is_wh, ln_own, ln_tup, ln_lst, ln_scr, ln_dk, ln_tab, ln_wh, set_d, set_own, set_dk, set_tp, hide1, hide2, putT1, putT2, putT3, sl1, sl2, back1, back2, gone_unW, gone_dW, gone_ownW, setA0, setA1, List.map_cons, List.map_nil, List.length_cons, List.length_nil, List.cons_append, List.nil_append, List.getElem?_cons_zero, List.getElem?_cons_succ, List.replicate_succ, List.replicate_zero, List.set_cons_zero, List.set_cons_succ, exists_eq_left, exists_eq_left', Option.some.injEq, Sl.own.injEq, exists_eq', and_true, true_and, Nat.reduceAdd, Nat.reduceSub, Nat.zero_add, optN_non])
  rw [due_sym hT hO]
  refine ne_same (sh_bl _) (by decide) ?_
  (try simp -dsimp only [kK_eq, optK_some, blK_eq, intK_eq, strK_eq, iteK_t, iteK_f, andK_t, sK_some, valS_d, valS_own, valS_tp, ↓wE_v, ↓wE_k, ↓wE_bin, ↓wE_neg, ↓wE_no, ↓wE_cmp, ↓wE_chn, ↓wE_isN, ↓wE_ntN, ↓wE_and, ↓wE_or, ↓wE_orT, ↓wE_ite, ↓wE_call, ↓wE_callk, ↓wE_refused, ↓wE_callc, ↓wE_bi, ↓wE_isi, ↓wE_lenv, ↓wE_ixv, ↓wE_ix, ↓wE_sl, ↓wE_rev, ↓wE_tup, ↓wE_tpl, ↓wE_lst, ↓wE_vtp, ↓wE_index, ↓wE_lrng, ↓wE_sset, ↓comp_eq, ↓allg_eq, lstK_eq, cutK_tup, cutK_lst, cutK_scr, revK_tup, revK_lst, vtpK_tp, ↓wEs_nil, ↓wEs_cons, ↓wVs_nil, ↓wVs_cons, ↓wO_no, ↓wO_yes, ↓wC_no, ↓wC_yes, ↓wI_it, ↓wI_r1, ↓wI_r2, r2K_eq, ↓wI_r3, ↓wI_zip, ↓wS_asg, ↓wS_par, ↓wS_unp, ↓wS_setv, ↓wS_swp, ↓wS_ex, ↓wS_ret, ↓wS_iff, ↓wS_brk, ↓wS_rais, ↓wS_newd, ↓wS_skip, ↓wS_app, ↓wS_ext, ↓wS_aug, ownK_eq, lstD_eq, augK_add, augK_sub, ↓wSs_nil, ↓wSs_cons, ↓whl_eq, ↓fr_eq, b_add, b_sub, b_mul, b_div, b_mod, b_pow, b_addT, b_addL, c_lt, c_le, c_gt, c_ge, c_eq, c_ne, f_abs, f_int, f_min, f_len, f_list, f_tuple, set_mk, sl_d, sl_own, sl_tp, dat_d, dat_own, dat_tp, it_tupW, it_lst, it_scr, items_tab, items_wh, is_own, is_tup, is_lst, is_scr, is_cell, is_tab, is_wh, ln_own, ln_tup, ln_lst, ln_scr, ln_dk, ln_tab, ln_wh, set_d, set_own, set_dk, set_tp, hide1, hide2, putT1, putT2, putT3, sl1, sl2, back1, back2, gone_unW, gone_dW, gone_ownW, setA0, setA1, List.map_cons, List.map_nil, List.length_cons, List.length_nil, List.cons_append, List.nil_append, List.getElem?_cons_zero, List.getElem?_cons_succ, List.replicate_succ, List.replicate_zero, List.set_cons_zero, List.set_cons_succ, exists_eq_left, exists_eq_left', Option.some.injEq, Sl.own.injEq, exists_eq', and_true, true_and, Nat.reduceAdd, Nat.reduceSub, Nat.zero_add])
  exact h
theorem r_5 (S : SigR Sg) (hT : TT T) {s5 : Sl} (h : ∀ m : Nat, Least T m → N.nx ⟨env1 T O s5 (.d (.int (LC.cyc T : Nat))) (.d (.int m)) .un .un, c⟩) : wpS Sg rs5 N ⟨env1 T O s5 .un .un .un .un, c⟩ := by
  have l1 := hT.len
  have t1 := mk_tb hT.md (by omega) (by omega) (by omega)
  unfold rs5
  (try simp -dsimp only [kK_eq, optK_some, blK_eq, intK_eq, strK_eq, iteK_t, iteK_f, andK_t, sK_some, valS_d, valS_own, valS_tp, ↓wE_v, ↓wE_k, ↓wE_bin, ↓wE_neg, ↓wE_no, ↓wE_cmp, ↓wE_chn, ↓wE_isN, ↓wE_ntN, ↓wE_and, ↓wE_or, ↓wE_orT, ↓wE_ite, ↓wE_call, ↓wE_callk, ↓wE_refused, ↓wE_callc, ↓wE_bi, ↓wE_isi, ↓wE_lenv, ↓wE_ixv, ↓wE_ix, ↓wE_sl, ↓wE_rev, ↓wE_tup, ↓wE_tpl, ↓wE_lst, ↓wE_vtp, ↓wE_index, ↓wE_lrng, ↓wE_sset, ↓comp_eq, ↓allg_eq, lstK_eq, cutK_tup, cutK_lst, cutK_scr, revK_tup, revK_lst, vtpK_tp, ↓wEs_nil, ↓wEs_cons, ↓wVs_nil, ↓wVs_cons, ↓wO_no, ↓wO_yes, ↓wC_no, ↓wC_yes, ↓wI_it, ↓wI_r1, ↓wI_r2, r2K_eq, ↓wI_r3, ↓wI_zip, ↓wS_asg, ↓wS_par, ↓wS_unp, ↓wS_setv, ↓wS_swp, ↓wS_ex, ↓wS_ret, ↓wS_iff, ↓wS_brk, ↓wS_rais, ↓wS_newd, ↓wS_skip, ↓wS_app, ↓wS_ext, ↓wS_aug, ownK_eq, lstD_eq, augK_add, augK_sub, ↓wSs_nil, ↓wSs_cons, ↓whl_eq, ↓fr_eq, b_add, b_sub, b_mul, b_div, b_mod, b_pow, b_addT, b_addL, c_lt, c_le, c_gt, c_ge, c_eq, c_ne, f_abs, f_int, f_min, f_len, f_list, f_tuple, set_mk, sl_d, sl_own, sl_tp, dat_d, dat_own, dat_tp, it_tupW, it_lst, it_scr, items_tab, items_wh, is_own, is_tup, is_lst, is_scr, is_cell, is_tab, is_wh, ln_own, ln_tup, ln_lst, ln_scr, ln_dk, ln_tab, ln_wh, set_d, set_own, set_dk, set_tp, hide1, hide2, putT1, putT2, putT3, sl1, sl2, back1, back2, gone_unW, gone_dW, gone_ownW, setA0, setA1, List.map_cons, List.map_nil, List.length_cons, List.length_nil, List.cons_append, List.nil_append, List.getElem?_cons_zero, List.getElem?_cons_succ, List.replicate_succ, List.replicate_zero, List.set_cons_zero, List.set_cons_succ, exists_eq_left, exists_eq_left', Option.some.injEq, Sl.own.injEq, exists_eq', and_true, true_and, Nat.reduceAdd, Nat.reduceSub, Nat.zero_add])
  refine call_of S.lcyc ⟨T, rfl, ⟨by omega, fun w hw => by have := hT.m8 w hw; omega⟩, ?_⟩
  (try simp -dsimp only [kK_eq, optK_some, blK_eq, intK_eq, strK_eq, iteK_t, iteK_f, andK_t, sK_some, valS_d, valS_own, valS_tp, ↓wE_v, ↓wE_k, ↓wE_bin, ↓wE_neg, ↓wE_no, ↓wE_cmp, ↓wE_chn, ↓wE_isN, ↓wE_ntN, ↓wE_and, ↓wE_or, ↓wE_orT, ↓wE_ite, ↓wE_call, ↓wE_callk, ↓wE_refused, ↓wE_callc, ↓wE_bi, ↓wE_isi, ↓wE_lenv, ↓wE_ixv, ↓wE_ix, ↓wE_sl, ↓wE_rev, ↓wE_tup, ↓wE_tpl, ↓wE_lst, ↓wE_vtp, ↓wE_index, ↓wE_lrng, ↓wE_sset, ↓comp_eq, ↓allg_eq, lstK_eq, cutK_tup, cutK_lst, cutK_scr, revK_tup, revK_lst, vtpK_tp, ↓wEs_nil, ↓wEs_cons, ↓wVs_nil, ↓wVs_cons, ↓wO_no, ↓wO_yes, ↓wC_no, ↓wC_yes, ↓wI_it, ↓wI_r1, ↓wI_r2, r2K_eq, ↓wI_r3, ↓wI_zip, ↓wS_asg, ↓wS_par, ↓wS_unp, ↓wS_setv, ↓wS_swp, ↓wS_ex, ↓wS_ret, ↓wS_iff, ↓wS_brk, ↓wS_rais, ↓wS_newd, ↓wS_skip, ↓wS_app, ↓wS_ext, ↓wS_aug, ownK_eq, lstD_eq, augK_add, augK_sub, ↓wSs_nil, ↓wSs_cons, ↓whl_eq, ↓fr_eq, b_add, b_sub, b_mul, b_div, b_mod, b_pow, b_addT, b_addL, c_lt, c_le, c_gt, c_ge, c_eq, c_ne, f_abs, f_int, f_min, f_len, f_list, f_tuple, set_mk, sl_d, sl_own, sl_tp, dat_d, dat_own, dat_tp, it_tupW, it_lst, it_scr, items_tab, items_wh, is_own, is_tup, is_lst, is_scr, is_cell, is_tab, is_wh, ln_own, ln_tup, ln_lst, ln_scr, ln_dk, ln_tab, ln_wh, set_d, set_own, set_dk, set_tp, hide1, hide2, putT1, putT2, putT3, sl1, sl2, back1, back2, gone_unW, gone_dW, gone_ownW, setA0, setA1, List.map_cons, List.map_nil, List.length_cons, List.length_nil, List.cons_append, List.nil_append, List.getElem?_cons_zero, List.getElem?_cons_succ, List.replicate_succ, List.replicate_zero, List.set_cons_zero, List.set_cons_succ, exists_eq_left, exists_eq_left', Option.some.injEq, Sl.own.injEq, exists_eq', and_true, true_and, Nat.reduceAdd, Nat.reduceSub, Nat.zero_add])
  refine call_of S.least ⟨tabD T, rfl, (sh_tab _).pl, ?_⟩
  rw [if_pos t1, unT_tab]
  refine ⟨hT.md.sz (by omega), fun m hm => ?_⟩
  (try simp -dsimp only [kK_eq, optK_some, blK_eq, intK_eq, strK_eq, iteK_t, iteK_f, andK_t, sK_some, valS_d, valS_own, valS_tp, ↓wE_v, ↓wE_k, ↓wE_bin, ↓wE_neg, ↓wE_no, ↓wE_cmp, ↓wE_chn, ↓wE_isN, ↓wE_ntN, ↓wE_and, ↓wE_or, ↓wE_orT, ↓wE_ite, ↓wE_call, ↓wE_callk, ↓wE_refused, ↓wE_callc, ↓wE_bi, ↓wE_isi, ↓wE_lenv, ↓wE_ixv, ↓wE_ix, ↓wE_sl, ↓wE_rev, ↓wE_tup, ↓wE_tpl, ↓wE_lst, ↓wE_vtp, ↓wE_index, ↓wE_lrng, ↓wE_sset, ↓comp_eq, ↓allg_eq, lstK_eq, cutK_tup, cutK_lst, cutK_scr, revK_tup, revK_lst, vtpK_tp, ↓wEs_nil, ↓wEs_cons, ↓wVs_nil, ↓wVs_cons, ↓wO_no, ↓wO_yes, ↓wC_no, ↓wC_yes, ↓wI_it, ↓wI_r1, ↓wI_r2, r2K_eq, ↓wI_r3, ↓wI_zip, ↓wS_asg, ↓wS_par, ↓wS_unp, ↓wS_setv, ↓wS_swp, ↓wS_ex, ↓wS_ret, ↓wS_iff, ↓wS_brk, ↓wS_rais, ↓wS_newd, ↓wS_skip, ↓wS_app, ↓wS_ext, ↓wS_aug, ownK_eq, lstD_eq, augK_add, augK_sub, ↓wSs_nil, ↓wSs_cons, ↓whl_eq, ↓fr_eq, b_add, b_sub, b_mul, b_div, b_mod, b_pow, b_addT, b_addL, c_lt, c_le, c_gt, c_ge, c_eq, c_ne, f_abs, f_int, f_min, f_len, f_list, f_tuple, set_mk, sl_d, sl_own, sl_tp, dat_d, dat_own, dat_tp, it_tupW, it_lst, it_scr, items_tab, items_wh, is_own, is_tup, is_lst, is_scr, is_cell, is_tab, is_wh, ln_own, ln_tup, ln_lst, ln_scr, ln_dk, ln_tab, ln_wh, set_d, set_own, set_dk, set_tp, hide1, hide2, putT1, putT2, putT3, sl1, sl2, back1, back2, gone_unW, gone_dW, gone_ownW, setA0, setA1, List.map_cons, List.map_nil, List.length_cons, List.length_nil, List.cons_append, List.nil_append, List.getElem?_cons_zero, List.getElem?_cons_succ, List.replicate_succ, List.replicate_zero, List.set_cons_zero, List.set_cons_succ, exists_eq_left, exists_eq_left', Option.some.injEq, Sl.own.injEq, exists_eq', and_true, true_and, Nat.reduceAdd, Nat.reduceSub, Nat.zero_add])
  exact h m hm
theorem tt_cyc (hT : TT T) : 0 < LC.cyc T ∧ LC.cyc T ≤ 512 := by
  refine ⟨cyc_pos fun w hw => (hT.m8 w hw).1, Nat.le_trans (cyc_le hT.m8) ?_⟩
  exact Nat.le_trans (Nat.pow_le_pow_right (by decide) hT.len) (by decide)
theorem comes_call (S : SigR Sg) (hT : TT T) {m : Nat} {Q : Vl → List Int → Prop} {E : Str → List Int → Prop} (h : ∀ b : Bool, (b = true ↔ Per T m) → Q (.d (.bl b)) c) : cK Sg "_law_comes" [tabD T, .int m, .int (LC.cyc T : Nat)] c Q E := by
  have hc := tt_cyc hT
  have l1 := hT.len
  refine call_of S.comes ⟨T, m, LC.cyc T, rfl, mk_tok hT.md (by omega) (by omega), by omega, fun b hb => h b ?_⟩
  rw [hb]
  exact per_walk hc.1
theorem r_6 (S : SigR Sg) (hT : TT T) {m : Nat} (hm : Least T m) {s5 : Sl} (h : N.nx ⟨env1 T O s5 (.d (.int (LC.cyc T : Nat))) (.d (.int m)) .un .un, c⟩) : wpS Sg rs6 N ⟨env1 T O s5 (.d (.int (LC.cyc T : Nat))) (.d (.int m)) .un .un, c⟩ := by
  have hc := tt_cyc hT
  have h1 := Nat.le_of_dvd hc.1 (least_dvd hm)
  have h2 := hm.1
  unfold rs6
  (try simp -dsimp only [kK_eq, optK_some, blK_eq, intK_eq, strK_eq, iteK_t, iteK_f, andK_t, sK_some, valS_d, valS_own, valS_tp, ↓wE_v, ↓wE_k, ↓wE_bin, ↓wE_neg, ↓wE_no, ↓wE_cmp, ↓wE_chn, ↓wE_isN, ↓wE_ntN, ↓wE_and, ↓wE_or, ↓wE_orT, ↓wE_ite, ↓wE_call, ↓wE_callk, ↓wE_refused, ↓wE_callc, ↓wE_bi, ↓wE_isi, ↓wE_lenv, ↓wE_ixv, ↓wE_ix, ↓wE_sl, ↓wE_rev, ↓wE_tup, ↓wE_tpl, ↓wE_lst, ↓wE_vtp, ↓wE_index, ↓wE_lrng, ↓wE_sset, ↓comp_eq, ↓allg_eq, lstK_eq, cutK_tup, cutK_lst, cutK_scr, revK_tup, revK_lst, vtpK_tp, ↓wEs_nil, ↓wEs_cons, ↓wVs_nil, ↓wVs_cons, ↓wO_no, ↓wO_yes, ↓wC_no, ↓wC_yes, ↓wI_it, ↓wI_r1, ↓wI_r2, r2K_eq, ↓wI_r3, ↓wI_zip, ↓wS_asg, ↓wS_par, ↓wS_unp, ↓wS_setv, ↓wS_swp, ↓wS_ex, ↓wS_ret, ↓wS_iff, ↓wS_brk, ↓wS_rais, ↓wS_newd, ↓wS_skip, ↓wS_app, ↓wS_ext, ↓wS_aug, ownK_eq, lstD_eq, augK_add, augK_sub, ↓wSs_nil, ↓wSs_cons, ↓whl_eq, ↓fr_eq, b_add, b_sub, b_mul, b_div, b_mod, b_pow, b_addT, b_addL, c_lt, c_le, c_gt, c_ge, c_eq, c_ne, f_abs, f_int, f_min, f_len, f_list, f_tuple, set_mk, sl_d, sl_own, sl_tp, dat_d, dat_own, dat_tp, it_tupW, it_lst, it_scr, items_tab, items_wh, is_own, is_tup, is_lst, is_scr, is_cell, is_tab, is_wh, ln_own, ln_tup, ln_lst, ln_scr, ln_dk, ln_tab, ln_wh, set_d, set_own, set_dk, set_tp, hide1, hide2, putT1, putT2, putT3, sl1, sl2, back1, back2, gone_unW, gone_dW, gone_ownW, setA0, setA1, List.map_cons, List.map_nil, List.length_cons, List.length_nil, List.cons_append, List.nil_append, List.getElem?_cons_zero, List.getElem?_cons_succ, List.replicate_succ, List.replicate_zero, List.set_cons_zero, List.set_cons_succ, exists_eq_left, exists_eq_left', Option.some.injEq, Sl.own.injEq, exists_eq', and_true, true_and, Nat.reduceAdd, Nat.reduceSub, Nat.zero_add])
  refine ite_y (decide_eq_true (by omega)) ?_
  (try simp -dsimp only [kK_eq, optK_some, blK_eq, intK_eq, strK_eq, iteK_t, iteK_f, andK_t, sK_some, valS_d, valS_own, valS_tp, ↓wE_v, ↓wE_k, ↓wE_bin, ↓wE_neg, ↓wE_no, ↓wE_cmp, ↓wE_chn, ↓wE_isN, ↓wE_ntN, ↓wE_and, ↓wE_or, ↓wE_orT, ↓wE_ite, ↓wE_call, ↓wE_callk, ↓wE_refused, ↓wE_callc, ↓wE_bi, ↓wE_isi, ↓wE_lenv, ↓wE_ixv, ↓wE_ix, ↓wE_sl, ↓wE_rev, ↓wE_tup, ↓wE_tpl, ↓wE_lst, ↓wE_vtp, ↓wE_index, ↓wE_lrng, ↓wE_sset, ↓comp_eq, ↓allg_eq, lstK_eq, cutK_tup, cutK_lst, cutK_scr, revK_tup, revK_lst, vtpK_tp, ↓wEs_nil, ↓wEs_cons, ↓wVs_nil, ↓wVs_cons, ↓wO_no, ↓wO_yes, ↓wC_no, ↓wC_yes, ↓wI_it, ↓wI_r1, ↓wI_r2, r2K_eq, ↓wI_r3, ↓wI_zip, ↓wS_asg, ↓wS_par, ↓wS_unp, ↓wS_setv, ↓wS_swp, ↓wS_ex, ↓wS_ret, ↓wS_iff, ↓wS_brk, ↓wS_rais, ↓wS_newd, ↓wS_skip, ↓wS_app, ↓wS_ext, ↓wS_aug, ownK_eq, lstD_eq, augK_add, augK_sub, ↓wSs_nil, ↓wSs_cons, ↓whl_eq, ↓fr_eq, b_add, b_sub, b_mul, b_div, b_mod, b_pow, b_addT, b_addL, c_lt, c_le, c_gt, c_ge, c_eq, c_ne, f_abs, f_int, f_min, f_len, f_list, f_tuple, set_mk, sl_d, sl_own, sl_tp, dat_d, dat_own, dat_tp, it_tupW, it_lst, it_scr, items_tab, items_wh, is_own, is_tup, is_lst, is_scr, is_cell, is_tab, is_wh, ln_own, ln_tup, ln_lst, ln_scr, ln_dk, ln_tab, ln_wh, set_d, set_own, set_dk, set_tp, hide1, hide2, putT1, putT2, putT3, sl1, sl2, back1, back2, gone_unW, gone_dW, gone_ownW, setA0, setA1, List.map_cons, List.map_nil, List.length_cons, List.length_nil, List.cons_append, List.nil_append, List.getElem?_cons_zero, List.getElem?_cons_succ, List.replicate_succ, List.replicate_zero, List.set_cons_zero, List.set_cons_succ, exists_eq_left, exists_eq_left', Option.some.injEq, Sl.own.injEq, exists_eq', and_true, true_and, Nat.reduceAdd, Nat.reduceSub, Nat.zero_add])
  refine ite_n (by rw [decide_eq_true (show (m : Int) ≤ (LC.cyc T : Nat) by omega)]; rfl) ?_
  (try simp -dsimp only [kK_eq, optK_some, blK_eq, intK_eq, strK_eq, iteK_t, iteK_f, andK_t, sK_some, valS_d, valS_own, valS_tp, ↓wE_v, ↓wE_k, ↓wE_bin, ↓wE_neg, ↓wE_no, ↓wE_cmp, ↓wE_chn, ↓wE_isN, ↓wE_ntN, ↓wE_and, ↓wE_or, ↓wE_orT, ↓wE_ite, ↓wE_call, ↓wE_callk, ↓wE_refused, ↓wE_callc, ↓wE_bi, ↓wE_isi, ↓wE_lenv, ↓wE_ixv, ↓wE_ix, ↓wE_sl, ↓wE_rev, ↓wE_tup, ↓wE_tpl, ↓wE_lst, ↓wE_vtp, ↓wE_index, ↓wE_lrng, ↓wE_sset, ↓comp_eq, ↓allg_eq, lstK_eq, cutK_tup, cutK_lst, cutK_scr, revK_tup, revK_lst, vtpK_tp, ↓wEs_nil, ↓wEs_cons, ↓wVs_nil, ↓wVs_cons, ↓wO_no, ↓wO_yes, ↓wC_no, ↓wC_yes, ↓wI_it, ↓wI_r1, ↓wI_r2, r2K_eq, ↓wI_r3, ↓wI_zip, ↓wS_asg, ↓wS_par, ↓wS_unp, ↓wS_setv, ↓wS_swp, ↓wS_ex, ↓wS_ret, ↓wS_iff, ↓wS_brk, ↓wS_rais, ↓wS_newd, ↓wS_skip, ↓wS_app, ↓wS_ext, ↓wS_aug, ownK_eq, lstD_eq, augK_add, augK_sub, ↓wSs_nil, ↓wSs_cons, ↓whl_eq, ↓fr_eq, b_add, b_sub, b_mul, b_div, b_mod, b_pow, b_addT, b_addL, c_lt, c_le, c_gt, c_ge, c_eq, c_ne, f_abs, f_int, f_min, f_len, f_list, f_tuple, set_mk, sl_d, sl_own, sl_tp, dat_d, dat_own, dat_tp, it_tupW, it_lst, it_scr, items_tab, items_wh, is_own, is_tup, is_lst, is_scr, is_cell, is_tab, is_wh, ln_own, ln_tup, ln_lst, ln_scr, ln_dk, ln_tab, ln_wh, set_d, set_own, set_dk, set_tp, hide1, hide2, putT1, putT2, putT3, sl1, sl2, back1, back2, gone_unW, gone_dW, gone_ownW, setA0, setA1, List.map_cons, List.map_nil, List.length_cons, List.length_nil, List.cons_append, List.nil_append, List.getElem?_cons_zero, List.getElem?_cons_succ, List.replicate_succ, List.replicate_zero, List.set_cons_zero, List.set_cons_succ, exists_eq_left, exists_eq_left', Option.some.injEq, Sl.own.injEq, exists_eq', and_true, true_and, Nat.reduceAdd, Nat.reduceSub, Nat.zero_add])
  refine comes_call S hT fun b hb => ?_
  rw [hb.mpr hm.2.1]
  (try simp -dsimp only [kK_eq, optK_some, blK_eq, intK_eq, strK_eq, iteK_t, iteK_f, andK_t, sK_some, valS_d, valS_own, valS_tp, ↓wE_v, ↓wE_k, ↓wE_bin, ↓wE_neg, ↓wE_no, ↓wE_cmp, ↓wE_chn, ↓wE_isN, ↓wE_ntN, ↓wE_and, ↓wE_or, ↓wE_orT, ↓wE_ite, ↓wE_call, ↓wE_callk, ↓wE_refused, ↓wE_callc, ↓wE_bi, ↓wE_isi, ↓wE_lenv, ↓wE_ixv, ↓wE_ix, ↓wE_sl, ↓wE_rev, ↓wE_tup, ↓wE_tpl, ↓wE_lst, ↓wE_vtp, ↓wE_index, ↓wE_lrng, ↓wE_sset, ↓comp_eq, ↓allg_eq, lstK_eq, cutK_tup, cutK_lst, cutK_scr, revK_tup, revK_lst, vtpK_tp, ↓wEs_nil, ↓wEs_cons, ↓wVs_nil, ↓wVs_cons, ↓wO_no, ↓wO_yes, ↓wC_no, ↓wC_yes, ↓wI_it, ↓wI_r1, ↓wI_r2, r2K_eq, ↓wI_r3, ↓wI_zip, ↓wS_asg, ↓wS_par, ↓wS_unp, ↓wS_setv, ↓wS_swp, ↓wS_ex, ↓wS_ret, ↓wS_iff, ↓wS_brk, ↓wS_rais, ↓wS_newd, ↓wS_skip, ↓wS_app, ↓wS_ext, ↓wS_aug, ownK_eq, lstD_eq, augK_add, augK_sub, ↓wSs_nil, ↓wSs_cons, ↓whl_eq, ↓fr_eq, b_add, b_sub, b_mul, b_div, b_mod, b_pow, b_addT, b_addL, c_lt, c_le, c_gt, c_ge, c_eq, c_ne, f_abs, f_int, f_min, f_len, f_list, f_tuple, set_mk, sl_d, sl_own, sl_tp, dat_d, dat_own, dat_tp, it_tupW, it_lst, it_scr, items_tab, items_wh, is_own, is_tup, is_lst, is_scr, is_cell, is_tab, is_wh, ln_own, ln_tup, ln_lst, ln_scr, ln_dk, ln_tab, ln_wh, set_d, set_own, set_dk, set_tp, hide1, hide2, putT1, putT2, putT3, sl1, sl2, back1, back2, gone_unW, gone_dW, gone_ownW, setA0, setA1, List.map_cons, List.map_nil, List.length_cons, List.length_nil, List.cons_append, List.nil_append, List.getElem?_cons_zero, List.getElem?_cons_succ, List.replicate_succ, List.replicate_zero, List.set_cons_zero, List.set_cons_succ, exists_eq_left, exists_eq_left', Option.some.injEq, Sl.own.injEq, exists_eq', and_true, true_and, Nat.reduceAdd, Nat.reduceSub, Nat.zero_add, Bool.not_true])
  exact h
theorem r_7 (S : SigR Sg) (hT : TT T) {m : Nat} (hm : Least T m) {s5 s9 : Sl} (h : ∀ s8, N.nx ⟨env1 T O s5 (.d (.int (LC.cyc T : Nat))) (.d (.int m)) s8 s9, c⟩) : wpS Sg rs7 N ⟨env1 T O s5 (.d (.int (LC.cyc T : Nat))) (.d (.int m)) .un s9, c⟩ := by
  have hc := tt_cyc hT
  have h1 := Nat.le_of_dvd hc.1 (least_dvd hm)
  have h2 := hm.1
  unfold rs7
  (try simp -dsimp only [kK_eq, optK_some, blK_eq, intK_eq, strK_eq, iteK_t, iteK_f, andK_t, sK_some, valS_d, valS_own, valS_tp, ↓wE_v, ↓wE_k, ↓wE_bin, ↓wE_neg, ↓wE_no, ↓wE_cmp, ↓wE_chn, ↓wE_isN, ↓wE_ntN, ↓wE_and, ↓wE_or, ↓wE_orT, ↓wE_ite, ↓wE_call, ↓wE_callk, ↓wE_refused, ↓wE_callc, ↓wE_bi, ↓wE_isi, ↓wE_lenv, ↓wE_ixv, ↓wE_ix, ↓wE_sl, ↓wE_rev, ↓wE_tup, ↓wE_tpl, ↓wE_lst, ↓wE_vtp, ↓wE_index, ↓wE_lrng, ↓wE_sset, ↓comp_eq, ↓allg_eq, lstK_eq, cutK_tup, cutK_lst, cutK_scr, revK_tup, revK_lst, vtpK_tp, ↓wEs_nil, ↓wEs_cons, ↓wVs_nil, ↓wVs_cons, ↓wO_no, ↓wO_yes, ↓wC_no, ↓wC_yes, ↓wI_it, ↓wI_r1, ↓wI_r2, r2K_eq, ↓wI_r3, ↓wI_zip, ↓wS_asg, ↓wS_par, ↓wS_unp, ↓wS_setv, ↓wS_swp, ↓wS_ex, ↓wS_ret, ↓wS_iff, ↓wS_brk, ↓wS_rais, ↓wS_newd, ↓wS_skip, ↓wS_app, ↓wS_ext, ↓wS_aug, ownK_eq, lstD_eq, augK_add, augK_sub, ↓wSs_nil, ↓wSs_cons, ↓whl_eq, ↓fr_eq, b_add, b_sub, b_mul, b_div, b_mod, b_pow, b_addT, b_addL, c_lt, c_le, c_gt, c_ge, c_eq, c_ne, f_abs, f_int, f_min, f_len, f_list, f_tuple, set_mk, sl_d, sl_own, sl_tp, dat_d, dat_own, dat_tp, it_tupW, it_lst, it_scr, items_tab, items_wh, is_own, is_tup, is_lst, is_scr, is_cell, is_tab, is_wh, ln_own, ln_tup, ln_lst, ln_scr, ln_dk, ln_tab, ln_wh, set_d, set_own, set_dk, set_tp, hide1, hide2, putT1, putT2, putT3, sl1, sl2, back1, back2, gone_unW, gone_dW, gone_ownW, setA0, setA1, List.map_cons, List.map_nil, List.length_cons, List.length_nil, List.cons_append, List.nil_append, List.getElem?_cons_zero, List.getElem?_cons_succ, List.replicate_succ, List.replicate_zero, List.set_cons_zero, List.set_cons_succ, exists_eq_left, exists_eq_left', Option.some.injEq, Sl.own.injEq, exists_eq', and_true, true_and, Nat.reduceAdd, Nat.reduceSub, Nat.zero_add])
  refine ⟨by unfold rngOk; omega, ?_⟩
  refine for_ind (fun xs st => ∃ (a k : Nat) (s : Sl), 0 < a ∧ a + k = m ∧ xs = rngD a 1 k ∧ st = ⟨env1 T O s5 (.d (.int (LC.cyc T : Nat))) (.d (.int m)) s s9, c⟩) (fun x xs st hI => ?_) (fun st hI => ?_) ⟨1, ((m : Int) - 1).toNat, .un, by omega, by omega, rfl, rfl⟩
  · obtain ⟨a, k, s, ha0, ha, hx, rfl⟩ := hI
    cases k with
    | zero => cases hx
    | succ k =>
      rw [rngD_succ] at hx
      cases hx
      refine ⟨_, rfl, fun nx n1 => ?_⟩
      have go : nx ⟨env1 T O s5 (.d (.int (LC.cyc T : Nat))) (.d (.int m)) (.d (.int a)) s9, c⟩ := n1 _ ⟨a + 1, k, _, by omega, by omega, by simp, rfl⟩
      (try simp -dsimp only [kK_eq, optK_some, blK_eq, intK_eq, strK_eq, iteK_t, iteK_f, andK_t, sK_some, valS_d, valS_own, valS_tp, ↓wE_v, ↓wE_k, ↓wE_bin, ↓wE_neg, ↓wE_no, ↓wE_cmp, ↓wE_chn, ↓wE_isN, ↓wE_ntN, ↓wE_and, ↓wE_or, ↓wE_orT, ↓wE_ite, ↓wE_call, ↓wE_callk, ↓wE_refused, ↓wE_callc, ↓wE_bi, ↓wE_isi, ↓wE_lenv, ↓wE_ixv, ↓wE_ix, ↓wE_sl, ↓wE_rev, ↓wE_tup, ↓wE_tpl, ↓wE_lst, ↓wE_vtp, ↓wE_index, ↓wE_lrng, ↓wE_sset, ↓comp_eq, ↓allg_eq, lstK_eq, cutK_tup, cutK_lst, cutK_scr, revK_tup, revK_lst, vtpK_tp, ↓wEs_nil, ↓wEs_cons, ↓wVs_nil, ↓wVs_cons, ↓wO_no, ↓wO_yes, ↓wC_no, ↓wC_yes, ↓wI_it, ↓wI_r1, ↓wI_r2, r2K_eq, ↓wI_r3, ↓wI_zip, ↓wS_asg, ↓wS_par, ↓wS_unp, ↓wS_setv, ↓wS_swp, ↓wS_ex, ↓wS_ret, ↓wS_iff, ↓wS_brk, ↓wS_rais, ↓wS_newd, ↓wS_skip, ↓wS_app, ↓wS_ext, ↓wS_aug, ownK_eq, lstD_eq, augK_add, augK_sub, ↓wSs_nil, ↓wSs_cons, ↓whl_eq, ↓fr_eq, b_add, b_sub, b_mul, b_div, b_mod, b_pow, b_addT, b_addL, c_lt, c_le, c_gt, c_ge, c_eq, c_ne, f_abs, f_int, f_min, f_len, f_list, f_tuple, set_mk, sl_d, sl_own, sl_tp, dat_d, dat_own, dat_tp, it_tupW, it_lst, it_scr, items_tab, items_wh, is_own, is_tup, is_lst, is_scr, is_cell, is_tab, is_wh, ln_own, ln_tup, ln_lst, ln_scr, ln_dk, ln_tab, ln_wh, set_d, set_own, set_dk, set_tp, hide1, hide2, putT1, putT2, putT3, sl1, sl2, back1, back2, gone_unW, gone_dW, gone_ownW, setA0, setA1, List.map_cons, List.map_nil, List.length_cons, List.length_nil, List.cons_append, List.nil_append, List.getElem?_cons_zero, List.getElem?_cons_succ, List.replicate_succ, List.replicate_zero, List.set_cons_zero, List.set_cons_succ, exists_eq_left, exists_eq_left', Option.some.injEq, Sl.own.injEq, exists_eq', and_true, true_and, Nat.reduceAdd, Nat.reduceSub, Nat.zero_add])
      refine ⟨by omega, ?_⟩
      refine iteK_of (fun z => ?_) (fun z => ?_)
      · (try simp -dsimp only [kK_eq, optK_some, blK_eq, intK_eq, strK_eq, iteK_t, iteK_f, andK_t, sK_some, valS_d, valS_own, valS_tp, ↓wE_v, ↓wE_k, ↓wE_bin, ↓wE_neg, ↓wE_no, ↓wE_cmp, ↓wE_chn, ↓wE_isN, ↓wE_ntN, ↓wE_and, ↓wE_or, ↓wE_orT, ↓wE_ite, ↓wE_call, ↓wE_callk, ↓wE_refused, ↓wE_callc, ↓wE_bi, ↓wE_isi, ↓wE_lenv, ↓wE_ixv, ↓wE_ix, ↓wE_sl, ↓wE_rev, ↓wE_tup, ↓wE_tpl, ↓wE_lst, ↓wE_vtp, ↓wE_index, ↓wE_lrng, ↓wE_sset, ↓comp_eq, ↓allg_eq, lstK_eq, cutK_tup, cutK_lst, cutK_scr, revK_tup, revK_lst, vtpK_tp, ↓wEs_nil, ↓wEs_cons, ↓wVs_nil, ↓wVs_cons, ↓wO_no, ↓wO_yes, ↓wC_no, ↓wC_yes, ↓wI_it, ↓wI_r1, ↓wI_r2, r2K_eq, ↓wI_r3, ↓wI_zip, ↓wS_asg, ↓wS_par, ↓wS_unp, ↓wS_setv, ↓wS_swp, ↓wS_ex, ↓wS_ret, ↓wS_iff, ↓wS_brk, ↓wS_rais, ↓wS_newd, ↓wS_skip, ↓wS_app, ↓wS_ext, ↓wS_aug, ownK_eq, lstD_eq, augK_add, augK_sub, ↓wSs_nil, ↓wSs_cons, ↓whl_eq, ↓fr_eq, b_add, b_sub, b_mul, b_div, b_mod, b_pow, b_addT, b_addL, c_lt, c_le, c_gt, c_ge, c_eq, c_ne, f_abs, f_int, f_min, f_len, f_list, f_tuple, set_mk, sl_d, sl_own, sl_tp, dat_d, dat_own, dat_tp, it_tupW, it_lst, it_scr, items_tab, items_wh, is_own, is_tup, is_lst, is_scr, is_cell, is_tab, is_wh, ln_own, ln_tup, ln_lst, ln_scr, ln_dk, ln_tab, ln_wh, set_d, set_own, set_dk, set_tp, hide1, hide2, putT1, putT2, putT3, sl1, sl2, back1, back2, gone_unW, gone_dW, gone_ownW, setA0, setA1, List.map_cons, List.map_nil, List.length_cons, List.length_nil, List.cons_append, List.nil_append, List.getElem?_cons_zero, List.getElem?_cons_succ, List.replicate_succ, List.replicate_zero, List.set_cons_zero, List.set_cons_succ, exists_eq_left, exists_eq_left', Option.some.injEq, Sl.own.injEq, exists_eq', and_true, true_and, Nat.reduceAdd, Nat.reduceSub, Nat.zero_add])
        refine comes_call S hT fun b hb => ?_
        have : b = false := by
          cases b with
          | false => rfl
          | true =>
            have := hm.2.2 a ha0 (hb.mp rfl)
            omega
        subst this
        (try simp -dsimp only [kK_eq, optK_some, blK_eq, intK_eq, strK_eq, iteK_t, iteK_f, andK_t, sK_some, valS_d, valS_own, valS_tp, ↓wE_v, ↓wE_k, ↓wE_bin, ↓wE_neg, ↓wE_no, ↓wE_cmp, ↓wE_chn, ↓wE_isN, ↓wE_ntN, ↓wE_and, ↓wE_or, ↓wE_orT, ↓wE_ite, ↓wE_call, ↓wE_callk, ↓wE_refused, ↓wE_callc, ↓wE_bi, ↓wE_isi, ↓wE_lenv, ↓wE_ixv, ↓wE_ix, ↓wE_sl, ↓wE_rev, ↓wE_tup, ↓wE_tpl, ↓wE_lst, ↓wE_vtp, ↓wE_index, ↓wE_lrng, ↓wE_sset, ↓comp_eq, ↓allg_eq, lstK_eq, cutK_tup, cutK_lst, cutK_scr, revK_tup, revK_lst, vtpK_tp, ↓wEs_nil, ↓wEs_cons, ↓wVs_nil, ↓wVs_cons, ↓wO_no, ↓wO_yes, ↓wC_no, ↓wC_yes, ↓wI_it, ↓wI_r1, ↓wI_r2, r2K_eq, ↓wI_r3, ↓wI_zip, ↓wS_asg, ↓wS_par, ↓wS_unp, ↓wS_setv, ↓wS_swp, ↓wS_ex, ↓wS_ret, ↓wS_iff, ↓wS_brk, ↓wS_rais, ↓wS_newd, ↓wS_skip, ↓wS_app, ↓wS_ext, ↓wS_aug, ownK_eq, lstD_eq, augK_add, augK_sub, ↓wSs_nil, ↓wSs_cons, ↓whl_eq, ↓fr_eq, b_add, b_sub, b_mul, b_div, b_mod, b_pow, b_addT, b_addL, c_lt, c_le, c_gt, c_ge, c_eq, c_ne, f_abs, f_int, f_min, f_len, f_list, f_tuple, set_mk, sl_d, sl_own, sl_tp, dat_d, dat_own, dat_tp, it_tupW, it_lst, it_scr, items_tab, items_wh, is_own, is_tup, is_lst, is_scr, is_cell, is_tab, is_wh, ln_own, ln_tup, ln_lst, ln_scr, ln_dk, ln_tab, ln_wh, set_d, set_own, set_dk, set_tp, hide1, hide2, putT1, putT2, putT3, sl1, sl2, back1, back2, gone_unW, gone_dW, gone_ownW, setA0, setA1, List.map_cons, List.map_nil, List.length_cons, List.length_nil, List.cons_append, List.nil_append, List.getElem?_cons_zero, List.getElem?_cons_succ, List.replicate_succ, List.replicate_zero, List.set_cons_zero, List.set_cons_succ, exists_eq_left, exists_eq_left', Option.some.injEq, Sl.own.injEq, exists_eq', and_true, true_and, Nat.reduceAdd, Nat.reduceSub, Nat.zero_add])
        exact go
      · (try simp -dsimp only [kK_eq, optK_some, blK_eq, intK_eq, strK_eq, iteK_t, iteK_f, andK_t, sK_some, valS_d, valS_own, valS_tp, ↓wE_v, ↓wE_k, ↓wE_bin, ↓wE_neg, ↓wE_no, ↓wE_cmp, ↓wE_chn, ↓wE_isN, ↓wE_ntN, ↓wE_and, ↓wE_or, ↓wE_orT, ↓wE_ite, ↓wE_call, ↓wE_callk, ↓wE_refused, ↓wE_callc, ↓wE_bi, ↓wE_isi, ↓wE_lenv, ↓wE_ixv, ↓wE_ix, ↓wE_sl, ↓wE_rev, ↓wE_tup, ↓wE_tpl, ↓wE_lst, ↓wE_vtp, ↓wE_index, ↓wE_lrng, ↓wE_sset, ↓comp_eq, ↓allg_eq, lstK_eq, cutK_tup, cutK_lst, cutK_scr, revK_tup, revK_lst, vtpK_tp, ↓wEs_nil, ↓wEs_cons, ↓wVs_nil, ↓wVs_cons, ↓wO_no, ↓wO_yes, ↓wC_no, ↓wC_yes, ↓wI_it, ↓wI_r1, ↓wI_r2, r2K_eq, ↓wI_r3, ↓wI_zip, ↓wS_asg, ↓wS_par, ↓wS_unp, ↓wS_setv, ↓wS_swp, ↓wS_ex, ↓wS_ret, ↓wS_iff, ↓wS_brk, ↓wS_rais, ↓wS_newd, ↓wS_skip, ↓wS_app, ↓wS_ext, ↓wS_aug, ownK_eq, lstD_eq, augK_add, augK_sub, ↓wSs_nil, ↓wSs_cons, ↓whl_eq, ↓fr_eq, b_add, b_sub, b_mul, b_div, b_mod, b_pow, b_addT, b_addL, c_lt, c_le, c_gt, c_ge, c_eq, c_ne, f_abs, f_int, f_min, f_len, f_list, f_tuple, set_mk, sl_d, sl_own, sl_tp, dat_d, dat_own, dat_tp, it_tupW, it_lst, it_scr, items_tab, items_wh, is_own, is_tup, is_lst, is_scr, is_cell, is_tab, is_wh, ln_own, ln_tup, ln_lst, ln_scr, ln_dk, ln_tab, ln_wh, set_d, set_own, set_dk, set_tp, hide1, hide2, putT1, putT2, putT3, sl1, sl2, back1, back2, gone_unW, gone_dW, gone_ownW, setA0, setA1, List.map_cons, List.map_nil, List.length_cons, List.length_nil, List.cons_append, List.nil_append, List.getElem?_cons_zero, List.getElem?_cons_succ, List.replicate_succ, List.replicate_zero, List.set_cons_zero, List.set_cons_succ, exists_eq_left, exists_eq_left', Option.some.injEq, Sl.own.injEq, exists_eq', and_true, true_and, Nat.reduceAdd, Nat.reduceSub, Nat.zero_add])
        exact go
  · obtain ⟨a, k, s, ha0, ha, hx, rfl⟩ := hI
    cases k with
    | succ k =>
      rw [rngD_succ] at hx
      cases hx
    | zero => exact h s
def toldD : List D := [.str "one", .str "other", .str "other", .str "table"]
theorem r_8 (S : SigR Sg) (hT : TT T) {s5 s6 s7 s8 : Sl} (h : N.nx ⟨env1 T O s5 s6 s7 s8 (.own toldD), c⟩) : wpS Sg rs8 N ⟨env1 T O s5 s6 s7 s8 .un, c⟩ := by
  have l1 := hT.len
  have t1 := mk_tb hT.md (by omega) (by omega) (by omega)
  unfold rs8
  (try simp -dsimp only [kK_eq, optK_some, blK_eq, intK_eq, strK_eq, iteK_t, iteK_f, andK_t, sK_some, valS_d, valS_own, valS_tp, ↓wE_v, ↓wE_k, ↓wE_bin, ↓wE_neg, ↓wE_no, ↓wE_cmp, ↓wE_chn, ↓wE_isN, ↓wE_ntN, ↓wE_and, ↓wE_or, ↓wE_orT, ↓wE_ite, ↓wE_call, ↓wE_callk, ↓wE_refused, ↓wE_callc, ↓wE_bi, ↓wE_isi, ↓wE_lenv, ↓wE_ixv, ↓wE_ix, ↓wE_sl, ↓wE_rev, ↓wE_tup, ↓wE_tpl, ↓wE_lst, ↓wE_vtp, ↓wE_index, ↓wE_lrng, ↓wE_sset, ↓comp_eq, ↓allg_eq, lstK_eq, cutK_tup, cutK_lst, cutK_scr, revK_tup, revK_lst, vtpK_tp, ↓wEs_nil, ↓wEs_cons, ↓wVs_nil, ↓wVs_cons, ↓wO_no, ↓wO_yes, ↓wC_no, ↓wC_yes, ↓wI_it, ↓wI_r1, ↓wI_r2, r2K_eq, ↓wI_r3, ↓wI_zip, ↓wS_asg, ↓wS_par, ↓wS_unp, ↓wS_setv, ↓wS_swp, ↓wS_ex, ↓wS_ret, ↓wS_iff, ↓wS_brk, ↓wS_rais, ↓wS_newd, ↓wS_skip, ↓wS_app, ↓wS_ext, ↓wS_aug, ownK_eq, lstD_eq, augK_add, augK_sub, ↓wSs_nil, ↓wSs_cons, ↓whl_eq, ↓fr_eq, b_add, b_sub, b_mul, b_div, b_mod, b_pow, b_addT, b_addL, c_lt, c_le, c_gt, c_ge, c_eq, c_ne, f_abs, f_int, f_min, f_len, f_list, f_tuple, set_mk, sl_d, sl_own, sl_tp, dat_d, dat_own, dat_tp, it_tupW, it_lst, it_scr, items_tab, items_wh, is_own, is_tup, is_lst, is_scr, is_cell, is_tab, is_wh, ln_own, ln_tup, ln_lst, ln_scr, ln_dk, ln_tab, ln_wh, set_d, set_own, set_dk, set_tp, hide1, hide2, putT1, putT2, putT3, sl1, sl2, back1, back2, gone_unW, gone_dW, gone_ownW, setA0, setA1, List.map_cons, List.map_nil, List.length_cons, List.length_nil, List.cons_append, List.nil_append, List.getElem?_cons_zero, List.getElem?_cons_succ, List.replicate_succ, List.replicate_zero, List.set_cons_zero, List.set_cons_succ, exists_eq_left, exists_eq_left', Option.some.injEq, Sl.own.injEq, exists_eq', and_true, true_and, Nat.reduceAdd, Nat.reduceSub, Nat.zero_add])
  refine call_of S.unlike ⟨.non, .non, rfl, rfl, rfl, ?_⟩
  rw [if_neg (show ¬ isTb .non = true by decide)]
  (try simp -dsimp only [kK_eq, optK_some, blK_eq, intK_eq, strK_eq, iteK_t, iteK_f, andK_t, sK_some, valS_d, valS_own, valS_tp, ↓wE_v, ↓wE_k, ↓wE_bin, ↓wE_neg, ↓wE_no, ↓wE_cmp, ↓wE_chn, ↓wE_isN, ↓wE_ntN, ↓wE_and, ↓wE_or, ↓wE_orT, ↓wE_ite, ↓wE_call, ↓wE_callk, ↓wE_refused, ↓wE_callc, ↓wE_bi, ↓wE_isi, ↓wE_lenv, ↓wE_ixv, ↓wE_ix, ↓wE_sl, ↓wE_rev, ↓wE_tup, ↓wE_tpl, ↓wE_lst, ↓wE_vtp, ↓wE_index, ↓wE_lrng, ↓wE_sset, ↓comp_eq, ↓allg_eq, lstK_eq, cutK_tup, cutK_lst, cutK_scr, revK_tup, revK_lst, vtpK_tp, ↓wEs_nil, ↓wEs_cons, ↓wVs_nil, ↓wVs_cons, ↓wO_no, ↓wO_yes, ↓wC_no, ↓wC_yes, ↓wI_it, ↓wI_r1, ↓wI_r2, r2K_eq, ↓wI_r3, ↓wI_zip, ↓wS_asg, ↓wS_par, ↓wS_unp, ↓wS_setv, ↓wS_swp, ↓wS_ex, ↓wS_ret, ↓wS_iff, ↓wS_brk, ↓wS_rais, ↓wS_newd, ↓wS_skip, ↓wS_app, ↓wS_ext, ↓wS_aug, ownK_eq, lstD_eq, augK_add, augK_sub, ↓wSs_nil, ↓wSs_cons, ↓whl_eq, ↓fr_eq, b_add, b_sub, b_mul, b_div, b_mod, b_pow, b_addT, b_addL, c_lt, c_le, c_gt, c_ge, c_eq, c_ne, f_abs, f_int, f_min, f_len, f_list, f_tuple, set_mk, sl_d, sl_own, sl_tp, dat_d, dat_own, dat_tp, it_tupW, it_lst, it_scr, items_tab, items_wh, is_own, is_tup, is_lst, is_scr, is_cell, is_tab, is_wh, ln_own, ln_tup, ln_lst, ln_scr, ln_dk, ln_tab, ln_wh, set_d, set_own, set_dk, set_tp, hide1, hide2, putT1, putT2, putT3, sl1, sl2, back1, back2, gone_unW, gone_dW, gone_ownW, setA0, setA1, List.map_cons, List.map_nil, List.length_cons, List.length_nil, List.cons_append, List.nil_append, List.getElem?_cons_zero, List.getElem?_cons_succ, List.replicate_succ, List.replicate_zero, List.set_cons_zero, List.set_cons_succ, exists_eq_left, exists_eq_left', Option.some.injEq, Sl.own.injEq, exists_eq', and_true, true_and, Nat.reduceAdd, Nat.reduceSub, Nat.zero_add])
  refine call_of S.unlike ⟨tabD T, .lst [], rfl, (sh_tab _).pl, rfl, ?_⟩
  rw [if_pos t1, if_neg (show ¬ isTb (.lst []) = true by decide)]
  (try simp -dsimp only [kK_eq, optK_some, blK_eq, intK_eq, strK_eq, iteK_t, iteK_f, andK_t, sK_some, valS_d, valS_own, valS_tp, ↓wE_v, ↓wE_k, ↓wE_bin, ↓wE_neg, ↓wE_no, ↓wE_cmp, ↓wE_chn, ↓wE_isN, ↓wE_ntN, ↓wE_and, ↓wE_or, ↓wE_orT, ↓wE_ite, ↓wE_call, ↓wE_callk, ↓wE_refused, ↓wE_callc, ↓wE_bi, ↓wE_isi, ↓wE_lenv, ↓wE_ixv, ↓wE_ix, ↓wE_sl, ↓wE_rev, ↓wE_tup, ↓wE_tpl, ↓wE_lst, ↓wE_vtp, ↓wE_index, ↓wE_lrng, ↓wE_sset, ↓comp_eq, ↓allg_eq, lstK_eq, cutK_tup, cutK_lst, cutK_scr, revK_tup, revK_lst, vtpK_tp, ↓wEs_nil, ↓wEs_cons, ↓wVs_nil, ↓wVs_cons, ↓wO_no, ↓wO_yes, ↓wC_no, ↓wC_yes, ↓wI_it, ↓wI_r1, ↓wI_r2, r2K_eq, ↓wI_r3, ↓wI_zip, ↓wS_asg, ↓wS_par, ↓wS_unp, ↓wS_setv, ↓wS_swp, ↓wS_ex, ↓wS_ret, ↓wS_iff, ↓wS_brk, ↓wS_rais, ↓wS_newd, ↓wS_skip, ↓wS_app, ↓wS_ext, ↓wS_aug, ownK_eq, lstD_eq, augK_add, augK_sub, ↓wSs_nil, ↓wSs_cons, ↓whl_eq, ↓fr_eq, b_add, b_sub, b_mul, b_div, b_mod, b_pow, b_addT, b_addL, c_lt, c_le, c_gt, c_ge, c_eq, c_ne, f_abs, f_int, f_min, f_len, f_list, f_tuple, set_mk, sl_d, sl_own, sl_tp, dat_d, dat_own, dat_tp, it_tupW, it_lst, it_scr, items_tab, items_wh, is_own, is_tup, is_lst, is_scr, is_cell, is_tab, is_wh, ln_own, ln_tup, ln_lst, ln_scr, ln_dk, ln_tab, ln_wh, set_d, set_own, set_dk, set_tp, hide1, hide2, putT1, putT2, putT3, sl1, sl2, back1, back2, gone_unW, gone_dW, gone_ownW, setA0, setA1, List.map_cons, List.map_nil, List.length_cons, List.length_nil, List.cons_append, List.nil_append, List.getElem?_cons_zero, List.getElem?_cons_succ, List.replicate_succ, List.replicate_zero, List.set_cons_zero, List.set_cons_succ, exists_eq_left, exists_eq_left', Option.some.injEq, Sl.own.injEq, exists_eq', and_true, true_and, Nat.reduceAdd, Nat.reduceSub, Nat.zero_add])
  refine call_of S.same ⟨tabD T, .tup [.tup []], rfl, (sh_tab _).pl, rfl, ?_⟩
  rw [if_pos t1, if_neg (show ¬ isTb (.tup [.tup []]) = true by decide)]
  (try simp -dsimp only [kK_eq, optK_some, blK_eq, intK_eq, strK_eq, iteK_t, iteK_f, andK_t, sK_some, valS_d, valS_own, valS_tp, ↓wE_v, ↓wE_k, ↓wE_bin, ↓wE_neg, ↓wE_no, ↓wE_cmp, ↓wE_chn, ↓wE_isN, ↓wE_ntN, ↓wE_and, ↓wE_or, ↓wE_orT, ↓wE_ite, ↓wE_call, ↓wE_callk, ↓wE_refused, ↓wE_callc, ↓wE_bi, ↓wE_isi, ↓wE_lenv, ↓wE_ixv, ↓wE_ix, ↓wE_sl, ↓wE_rev, ↓wE_tup, ↓wE_tpl, ↓wE_lst, ↓wE_vtp, ↓wE_index, ↓wE_lrng, ↓wE_sset, ↓comp_eq, ↓allg_eq, lstK_eq, cutK_tup, cutK_lst, cutK_scr, revK_tup, revK_lst, vtpK_tp, ↓wEs_nil, ↓wEs_cons, ↓wVs_nil, ↓wVs_cons, ↓wO_no, ↓wO_yes, ↓wC_no, ↓wC_yes, ↓wI_it, ↓wI_r1, ↓wI_r2, r2K_eq, ↓wI_r3, ↓wI_zip, ↓wS_asg, ↓wS_par, ↓wS_unp, ↓wS_setv, ↓wS_swp, ↓wS_ex, ↓wS_ret, ↓wS_iff, ↓wS_brk, ↓wS_rais, ↓wS_newd, ↓wS_skip, ↓wS_app, ↓wS_ext, ↓wS_aug, ownK_eq, lstD_eq, augK_add, augK_sub, ↓wSs_nil, ↓wSs_cons, ↓whl_eq, ↓fr_eq, b_add, b_sub, b_mul, b_div, b_mod, b_pow, b_addT, b_addL, c_lt, c_le, c_gt, c_ge, c_eq, c_ne, f_abs, f_int, f_min, f_len, f_list, f_tuple, set_mk, sl_d, sl_own, sl_tp, dat_d, dat_own, dat_tp, it_tupW, it_lst, it_scr, items_tab, items_wh, is_own, is_tup, is_lst, is_scr, is_cell, is_tab, is_wh, ln_own, ln_tup, ln_lst, ln_scr, ln_dk, ln_tab, ln_wh, set_d, set_own, set_dk, set_tp, hide1, hide2, putT1, putT2, putT3, sl1, sl2, back1, back2, gone_unW, gone_dW, gone_ownW, setA0, setA1, List.map_cons, List.map_nil, List.length_cons, List.length_nil, List.cons_append, List.nil_append, List.getElem?_cons_zero, List.getElem?_cons_succ, List.replicate_succ, List.replicate_zero, List.set_cons_zero, List.set_cons_succ, exists_eq_left, exists_eq_left', Option.some.injEq, Sl.own.injEq, exists_eq', and_true, true_and, Nat.reduceAdd, Nat.reduceSub, Nat.zero_add])
  refine call_of S.least ⟨.tup [.int 1], rfl, rfl, ?_⟩
  rw [if_neg (show ¬ isTb (.tup [.int 1]) = true by decide)]
  (try simp -dsimp only [kK_eq, optK_some, blK_eq, intK_eq, strK_eq, iteK_t, iteK_f, andK_t, sK_some, valS_d, valS_own, valS_tp, ↓wE_v, ↓wE_k, ↓wE_bin, ↓wE_neg, ↓wE_no, ↓wE_cmp, ↓wE_chn, ↓wE_isN, ↓wE_ntN, ↓wE_and, ↓wE_or, ↓wE_orT, ↓wE_ite, ↓wE_call, ↓wE_callk, ↓wE_refused, ↓wE_callc, ↓wE_bi, ↓wE_isi, ↓wE_lenv, ↓wE_ixv, ↓wE_ix, ↓wE_sl, ↓wE_rev, ↓wE_tup, ↓wE_tpl, ↓wE_lst, ↓wE_vtp, ↓wE_index, ↓wE_lrng, ↓wE_sset, ↓comp_eq, ↓allg_eq, lstK_eq, cutK_tup, cutK_lst, cutK_scr, revK_tup, revK_lst, vtpK_tp, ↓wEs_nil, ↓wEs_cons, ↓wVs_nil, ↓wVs_cons, ↓wO_no, ↓wO_yes, ↓wC_no, ↓wC_yes, ↓wI_it, ↓wI_r1, ↓wI_r2, r2K_eq, ↓wI_r3, ↓wI_zip, ↓wS_asg, ↓wS_par, ↓wS_unp, ↓wS_setv, ↓wS_swp, ↓wS_ex, ↓wS_ret, ↓wS_iff, ↓wS_brk, ↓wS_rais, ↓wS_newd, ↓wS_skip, ↓wS_app, ↓wS_ext, ↓wS_aug, ownK_eq, lstD_eq, augK_add, augK_sub, ↓wSs_nil, ↓wSs_cons, ↓whl_eq, ↓fr_eq, b_add, b_sub, b_mul, b_div, b_mod, b_pow, b_addT, b_addL, c_lt, c_le, c_gt, c_ge, c_eq, c_ne, f_abs, f_int, f_min, f_len, f_list, f_tuple, set_mk, sl_d, sl_own, sl_tp, dat_d, dat_own, dat_tp, it_tupW, it_lst, it_scr, items_tab, items_wh, is_own, is_tup, is_lst, is_scr, is_cell, is_tab, is_wh, ln_own, ln_tup, ln_lst, ln_scr, ln_dk, ln_tab, ln_wh, set_d, set_own, set_dk, set_tp, hide1, hide2, putT1, putT2, putT3, sl1, sl2, back1, back2, gone_unW, gone_dW, gone_ownW, setA0, setA1, List.map_cons, List.map_nil, List.length_cons, List.length_nil, List.cons_append, List.nil_append, List.getElem?_cons_zero, List.getElem?_cons_succ, List.replicate_succ, List.replicate_zero, List.set_cons_zero, List.set_cons_succ, exists_eq_left, exists_eq_left', Option.some.injEq, Sl.own.injEq, exists_eq', and_true, true_and, Nat.reduceAdd, Nat.reduceSub, Nat.zero_add])
  exact h
theorem told_shp : (D.lst toldD).shp = true := by decide +kernel
theorem r_9 {Q : Vl → DS → Prop} {s5 s6 s7 s8 : Sl} (hN : N.rt = Q) (h : ∀ st, Q (.d (.bl true)) st) : wpS Sg rs9 N ⟨env1 T O s5 s6 s7 s8 (.own toldD), c⟩ := by
  unfold rs9
  (try simp -dsimp only [kK_eq, optK_some, blK_eq, intK_eq, strK_eq, iteK_t, iteK_f, andK_t, sK_some, valS_d, valS_own, valS_tp, ↓wE_v, ↓wE_k, ↓wE_bin, ↓wE_neg, ↓wE_no, ↓wE_cmp, ↓wE_chn, ↓wE_isN, ↓wE_ntN, ↓wE_and, ↓wE_or, ↓wE_orT, ↓wE_ite, ↓wE_call, ↓wE_callk, ↓wE_refused, ↓wE_callc, ↓wE_bi, ↓wE_isi, ↓wE_lenv, ↓wE_ixv, ↓wE_ix, ↓wE_sl, ↓wE_rev, ↓wE_tup, ↓wE_tpl, ↓wE_lst, ↓wE_vtp, ↓wE_index, ↓wE_lrng, ↓wE_sset, ↓comp_eq, ↓allg_eq, lstK_eq, cutK_tup, cutK_lst, cutK_scr, revK_tup, revK_lst, vtpK_tp, ↓wEs_nil, ↓wEs_cons, ↓wVs_nil, ↓wVs_cons, ↓wO_no, ↓wO_yes, ↓wC_no, ↓wC_yes, ↓wI_it, ↓wI_r1, ↓wI_r2, r2K_eq, ↓wI_r3, ↓wI_zip, ↓wS_asg, ↓wS_par, ↓wS_unp, ↓wS_setv, ↓wS_swp, ↓wS_ex, ↓wS_ret, ↓wS_iff, ↓wS_brk, ↓wS_rais, ↓wS_newd, ↓wS_skip, ↓wS_app, ↓wS_ext, ↓wS_aug, ownK_eq, lstD_eq, augK_add, augK_sub, ↓wSs_nil, ↓wSs_cons, ↓whl_eq, ↓fr_eq, b_add, b_sub, b_mul, b_div, b_mod, b_pow, b_addT, b_addL, c_lt, c_le, c_gt, c_ge, c_eq, c_ne, f_abs, f_int, f_min, f_len, f_list, f_tuple, set_mk, sl_d, sl_own, sl_tp, dat_d, dat_own, dat_tp, it_tupW, it_lst, it_scr, items_tab, items_wh, is_own, is_tup, is_lst, is_scr, is_cell, is_tab, is_wh, ln_own, ln_tup, ln_lst, ln_scr, ln_dk, ln_tab, ln_wh, set_d, set_own, set_dk, set_tp, hide1, hide2, putT1, putT2, putT3, sl1, sl2, back1, back2, gone_unW, gone_dW, gone_ownW, setA0, setA1, List.map_cons, List.map_nil, List.length_cons, List.length_nil, List.cons_append, List.nil_append, List.getElem?_cons_zero, List.getElem?_cons_succ, List.replicate_succ, List.replicate_zero, List.set_cons_zero, List.set_cons_succ, exists_eq_left, exists_eq_left', Option.some.injEq, Sl.own.injEq, exists_eq', and_true, true_and, Nat.reduceAdd, Nat.reduceSub, Nat.zero_add])
  show cmpK .Eq (.lst toldD) (.lst toldD) _
  refine ⟨told_shp, told_shp, ?_⟩
  have e : (D.lst toldD).eqv (.lst toldD) = true := eqv_self _
  rw [e, hN]
  exact h _
end
def sp_right : Spec := fun ds c Q E => ds = [.cell] ∧ DI 0 c ∧ ∀ c', Q (.d (.bl true)) c'
theorem k_right (S : SigR Sg) : Keeps Sg 10 b__law_right sp_right := by
  rintro ds c Q E ⟨rfl, hd, hq⟩
  rw [rb]
  unfold rt0
  rw [wSs_cons]
  refine r_0 S hd fun T c1 hT hd1 => ?_
  unfold rt1
  show wpSs Sg _ _ _
  rw [wSs_cons]
  refine r_1 S hT hd1 fun O c2 h1 h2 hd2 => ?_
  unfold rt2
  show wpSs Sg _ _ _
  rw [wSs_cons]
  refine r_2 S h1 h2 hd2 fun O c3 hO => ?_
  unfold rt3
  show wpSs Sg _ _ _
  rw [wSs_cons]
  refine r_3 S hT hO ?_
  unfold rt4
  show wpSs Sg _ _ _
  rw [wSs_cons]
  refine r_4 S hT hO ?_
  unfold rt5
  show wpSs Sg _ _ _
  rw [wSs_cons]
  refine r_5 S hT fun m hm => ?_
  unfold rt6
  show wpSs Sg _ _ _
  rw [wSs_cons]
  refine r_6 S hT hm ?_
  unfold rt7
  show wpSs Sg _ _ _
  rw [wSs_cons]
  refine r_7 S hT hm fun s8 => ?_
  unfold rt8
  show wpSs Sg _ _ _
  rw [wSs_cons]
  refine r_8 S hT ?_
  unfold rt9
  show wpSs Sg _ _ _
  rw [wSs_cons]
  refine r_9 rfl fun st => ?_
  exact hq _
def sp_law : Spec := fun ds c Q E => ∃ ns : List Int, ds = [.scr ns] ∧ ns.length ≤ 1000 ∧ Q (.d (.bl true)) c
theorem f_max (i j : Int) (Q : Vl → Prop) (h : Q (.d (.int (if j > i then j else i)))) : biK .max [.int i, .int j] Q := .inl ⟨i, j, rfl, h⟩
theorem k_law (h1 : Sg "_law_right" = sp_right) (h2 : Sg "_law_dice" = sp_dice) : Keeps Sg 2 b_law sp_law := by
  rintro ds c Q E ⟨ns, rfl, hl, hq⟩
  unfold b_law
  (try simp -dsimp only [kK_eq, optK_some, blK_eq, intK_eq, strK_eq, iteK_t, iteK_f, andK_t, sK_some, valS_d, valS_own, valS_tp, ↓wE_v, ↓wE_k, ↓wE_bin, ↓wE_neg, ↓wE_no, ↓wE_cmp, ↓wE_chn, ↓wE_isN, ↓wE_ntN, ↓wE_and, ↓wE_or, ↓wE_orT, ↓wE_ite, ↓wE_call, ↓wE_callk, ↓wE_refused, ↓wE_callc, ↓wE_bi, ↓wE_isi, ↓wE_lenv, ↓wE_ixv, ↓wE_ix, ↓wE_sl, ↓wE_rev, ↓wE_tup, ↓wE_tpl, ↓wE_lst, ↓wE_vtp, ↓wE_index, ↓wE_lrng, ↓wE_sset, ↓comp_eq, ↓allg_eq, lstK_eq, cutK_tup, cutK_lst, cutK_scr, revK_tup, revK_lst, vtpK_tp, ↓wEs_nil, ↓wEs_cons, ↓wVs_nil, ↓wVs_cons, ↓wO_no, ↓wO_yes, ↓wC_no, ↓wC_yes, ↓wI_it, ↓wI_r1, ↓wI_r2, r2K_eq, ↓wI_r3, ↓wI_zip, ↓wS_asg, ↓wS_par, ↓wS_unp, ↓wS_setv, ↓wS_swp, ↓wS_ex, ↓wS_ret, ↓wS_iff, ↓wS_brk, ↓wS_rais, ↓wS_newd, ↓wS_skip, ↓wS_app, ↓wS_ext, ↓wS_aug, ownK_eq, lstD_eq, augK_add, augK_sub, ↓wSs_nil, ↓wSs_cons, ↓whl_eq, ↓fr_eq, b_add, b_sub, b_mul, b_div, b_mod, b_pow, b_addT, b_addL, c_lt, c_le, c_gt, c_ge, c_eq, c_ne, f_abs, f_int, f_min, f_len, f_list, f_tuple, set_mk, sl_d, sl_own, sl_tp, dat_d, dat_own, dat_tp, it_tupW, it_lst, it_scr, items_tab, items_wh, is_own, is_tup, is_lst, is_scr, is_cell, is_tab, is_wh, ln_own, ln_tup, ln_lst, ln_scr, ln_dk, ln_tab, ln_wh, set_d, set_own, set_dk, set_tp, hide1, hide2, putT1, putT2, putT3, sl1, sl2, back1, back2, gone_unW, gone_dW, gone_ownW, setA0, setA1, List.map_cons, List.map_nil, List.length_cons, List.length_nil, List.cons_append, List.nil_append, List.getElem?_cons_zero, List.getElem?_cons_succ, List.replicate_succ, List.replicate_zero, List.set_cons_zero, List.set_cons_succ, exists_eq_left, exists_eq_left', Option.some.injEq, Sl.own.injEq, exists_eq', and_true, true_and, Nat.reduceAdd, Nat.reduceSub, Nat.zero_add])
  refine f_max _ _ _ ?_
  (try simp -dsimp only [kK_eq, optK_some, blK_eq, intK_eq, strK_eq, iteK_t, iteK_f, andK_t, sK_some, valS_d, valS_own, valS_tp, ↓wE_v, ↓wE_k, ↓wE_bin, ↓wE_neg, ↓wE_no, ↓wE_cmp, ↓wE_chn, ↓wE_isN, ↓wE_ntN, ↓wE_and, ↓wE_or, ↓wE_orT, ↓wE_ite, ↓wE_call, ↓wE_callk, ↓wE_refused, ↓wE_callc, ↓wE_bi, ↓wE_isi, ↓wE_lenv, ↓wE_ixv, ↓wE_ix, ↓wE_sl, ↓wE_rev, ↓wE_tup, ↓wE_tpl, ↓wE_lst, ↓wE_vtp, ↓wE_index, ↓wE_lrng, ↓wE_sset, ↓comp_eq, ↓allg_eq, lstK_eq, cutK_tup, cutK_lst, cutK_scr, revK_tup, revK_lst, vtpK_tp, ↓wEs_nil, ↓wEs_cons, ↓wVs_nil, ↓wVs_cons, ↓wO_no, ↓wO_yes, ↓wC_no, ↓wC_yes, ↓wI_it, ↓wI_r1, ↓wI_r2, r2K_eq, ↓wI_r3, ↓wI_zip, ↓wS_asg, ↓wS_par, ↓wS_unp, ↓wS_setv, ↓wS_swp, ↓wS_ex, ↓wS_ret, ↓wS_iff, ↓wS_brk, ↓wS_rais, ↓wS_newd, ↓wS_skip, ↓wS_app, ↓wS_ext, ↓wS_aug, ownK_eq, lstD_eq, augK_add, augK_sub, ↓wSs_nil, ↓wSs_cons, ↓whl_eq, ↓fr_eq, b_add, b_sub, b_mul, b_div, b_mod, b_pow, b_addT, b_addL, c_lt, c_le, c_gt, c_ge, c_eq, c_ne, f_abs, f_int, f_min, f_len, f_list, f_tuple, set_mk, sl_d, sl_own, sl_tp, dat_d, dat_own, dat_tp, it_tupW, it_lst, it_scr, items_tab, items_wh, is_own, is_tup, is_lst, is_scr, is_cell, is_tab, is_wh, ln_own, ln_tup, ln_lst, ln_scr, ln_dk, ln_tab, ln_wh, set_d, set_own, set_dk, set_tp, hide1, hide2, putT1, putT2, putT3, sl1, sl2, back1, back2, gone_unW, gone_dW, gone_ownW, setA0, setA1, List.map_cons, List.map_nil, List.length_cons, List.length_nil, List.cons_append, List.nil_append, List.getElem?_cons_zero, List.getElem?_cons_succ, List.replicate_succ, List.replicate_zero, List.set_cons_zero, List.set_cons_succ, exists_eq_left, exists_eq_left', Option.some.injEq, Sl.own.injEq, exists_eq', and_true, true_and, Nat.reduceAdd, Nat.reduceSub, Nat.zero_add])
  generalize hM : (if (if (ns.length : Int) < 4 then (ns.length : Int) else 4) > 1 then (if (ns.length : Int) < 4 then (ns.length : Int) else 4) else 1) = M
  have hM1 : 0 ≤ M ∧ M ≤ 4 := by
    rw [← hM]
    split <;> split <;> omega
  refine ⟨by unfold rngOk; omega, ?_⟩
  refine for_ind (fun xs st => ∃ (m k : Nat) (s : Sl), m + k ≤ 4 ∧ xs = rngD m 1 k ∧ st = ⟨[.d (.scr ns), s], c⟩) (fun x xs st hI => ?_) (fun st hI => ?_) ⟨0, M.toNat, _, by omega, rfl, rfl⟩
  · obtain ⟨m, k, s, hm, hx, rfl⟩ := hI
    cases k with
    | zero => cases hx
    | succ k =>
      rw [rngD_succ] at hx
      cases hx
      refine ⟨_, rfl, fun nx n1 => ?_⟩
      (try simp -dsimp only [kK_eq, optK_some, blK_eq, intK_eq, strK_eq, iteK_t, iteK_f, andK_t, sK_some, valS_d, valS_own, valS_tp, ↓wE_v, ↓wE_k, ↓wE_bin, ↓wE_neg, ↓wE_no, ↓wE_cmp, ↓wE_chn, ↓wE_isN, ↓wE_ntN, ↓wE_and, ↓wE_or, ↓wE_orT, ↓wE_ite, ↓wE_call, ↓wE_callk, ↓wE_refused, ↓wE_callc, ↓wE_bi, ↓wE_isi, ↓wE_lenv, ↓wE_ixv, ↓wE_ix, ↓wE_sl, ↓wE_rev, ↓wE_tup, ↓wE_tpl, ↓wE_lst, ↓wE_vtp, ↓wE_index, ↓wE_lrng, ↓wE_sset, ↓comp_eq, ↓allg_eq, lstK_eq, cutK_tup, cutK_lst, cutK_scr, revK_tup, revK_lst, vtpK_tp, ↓wEs_nil, ↓wEs_cons, ↓wVs_nil, ↓wVs_cons, ↓wO_no, ↓wO_yes, ↓wC_no, ↓wC_yes, ↓wI_it, ↓wI_r1, ↓wI_r2, r2K_eq, ↓wI_r3, ↓wI_zip, ↓wS_asg, ↓wS_par, ↓wS_unp, ↓wS_setv, ↓wS_swp, ↓wS_ex, ↓wS_ret, ↓wS_iff, ↓wS_brk, ↓wS_rais, ↓wS_newd, ↓wS_skip, ↓wS_app, ↓wS_ext, ↓wS_aug, ownK_eq, lstD_eq, augK_add, augK_sub, ↓wSs_nil, ↓wSs_cons, ↓whl_eq, ↓fr_eq, b_add, b_sub, b_mul, b_div, b_mod, b_pow, b_addT, b_addL, c_lt, c_le, c_gt, c_ge, c_eq, c_ne, f_abs, f_int, f_min, f_len, f_list, f_tuple, set_mk, sl_d, sl_own, sl_tp, dat_d, dat_own, dat_tp, it_tupW, it_lst, it_scr, items_tab, items_wh, is_own, is_tup, is_lst, is_scr, is_cell, is_tab, is_wh, ln_own, ln_tup, ln_lst, ln_scr, ln_dk, ln_tab, ln_wh, set_d, set_own, set_dk, set_tp, hide1, hide2, putT1, putT2, putT3, sl1, sl2, back1, back2, gone_unW, gone_dW, gone_ownW, setA0, setA1, List.map_cons, List.map_nil, List.length_cons, List.length_nil, List.cons_append, List.nil_append, List.getElem?_cons_zero, List.getElem?_cons_succ, List.replicate_succ, List.replicate_zero, List.set_cons_zero, List.set_cons_succ, exists_eq_left, exists_eq_left', Option.some.injEq, Sl.own.injEq, exists_eq', and_true, true_and, Nat.reduceAdd, Nat.reduceSub, Nat.zero_add])
      refine call_of h2 ⟨ns, m, rfl, by omega, hl, fun ns' hd => ⟨ns', rfl, call_of h1 ⟨rfl, hd, fun c' => ⟨true, rfl, ?_⟩⟩⟩⟩
      (try simp -dsimp only [kK_eq, optK_some, blK_eq, intK_eq, strK_eq, iteK_t, iteK_f, andK_t, sK_some, valS_d, valS_own, valS_tp, ↓wE_v, ↓wE_k, ↓wE_bin, ↓wE_neg, ↓wE_no, ↓wE_cmp, ↓wE_chn, ↓wE_isN, ↓wE_ntN, ↓wE_and, ↓wE_or, ↓wE_orT, ↓wE_ite, ↓wE_call, ↓wE_callk, ↓wE_refused, ↓wE_callc, ↓wE_bi, ↓wE_isi, ↓wE_lenv, ↓wE_ixv, ↓wE_ix, ↓wE_sl, ↓wE_rev, ↓wE_tup, ↓wE_tpl, ↓wE_lst, ↓wE_vtp, ↓wE_index, ↓wE_lrng, ↓wE_sset, ↓comp_eq, ↓allg_eq, lstK_eq, cutK_tup, cutK_lst, cutK_scr, revK_tup, revK_lst, vtpK_tp, ↓wEs_nil, ↓wEs_cons, ↓wVs_nil, ↓wVs_cons, ↓wO_no, ↓wO_yes, ↓wC_no, ↓wC_yes, ↓wI_it, ↓wI_r1, ↓wI_r2, r2K_eq, ↓wI_r3, ↓wI_zip, ↓wS_asg, ↓wS_par, ↓wS_unp, ↓wS_setv, ↓wS_swp, ↓wS_ex, ↓wS_ret, ↓wS_iff, ↓wS_brk, ↓wS_rais, ↓wS_newd, ↓wS_skip, ↓wS_app, ↓wS_ext, ↓wS_aug, ownK_eq, lstD_eq, augK_add, augK_sub, ↓wSs_nil, ↓wSs_cons, ↓whl_eq, ↓fr_eq, b_add, b_sub, b_mul, b_div, b_mod, b_pow, b_addT, b_addL, c_lt, c_le, c_gt, c_ge, c_eq, c_ne, f_abs, f_int, f_min, f_len, f_list, f_tuple, set_mk, sl_d, sl_own, sl_tp, dat_d, dat_own, dat_tp, it_tupW, it_lst, it_scr, items_tab, items_wh, is_own, is_tup, is_lst, is_scr, is_cell, is_tab, is_wh, ln_own, ln_tup, ln_lst, ln_scr, ln_dk, ln_tab, ln_wh, set_d, set_own, set_dk, set_tp, hide1, hide2, putT1, putT2, putT3, sl1, sl2, back1, back2, gone_unW, gone_dW, gone_ownW, setA0, setA1, List.map_cons, List.map_nil, List.length_cons, List.length_nil, List.cons_append, List.nil_append, List.getElem?_cons_zero, List.getElem?_cons_succ, List.replicate_succ, List.replicate_zero, List.set_cons_zero, List.set_cons_succ, exists_eq_left, exists_eq_left', Option.some.injEq, Sl.own.injEq, exists_eq', and_true, true_and, Nat.reduceAdd, Nat.reduceSub, Nat.zero_add, Bool.not_true])
      exact n1 _ ⟨m + 1, k, _, by omega, by simp, rfl⟩
  · obtain ⟨m, k, s, hm, hx, rfl⟩ := hI
    cases k with
    | succ k =>
      rw [rngD_succ] at hx
      cases hx
    | zero =>
      (try simp -dsimp only [kK_eq, optK_some, blK_eq, intK_eq, strK_eq, iteK_t, iteK_f, andK_t, sK_some, valS_d, valS_own, valS_tp, ↓wE_v, ↓wE_k, ↓wE_bin, ↓wE_neg, ↓wE_no, ↓wE_cmp, ↓wE_chn, ↓wE_isN, ↓wE_ntN, ↓wE_and, ↓wE_or, ↓wE_orT, ↓wE_ite, ↓wE_call, ↓wE_callk, ↓wE_refused, ↓wE_callc, ↓wE_bi, ↓wE_isi, ↓wE_lenv, ↓wE_ixv, ↓wE_ix, ↓wE_sl, ↓wE_rev, ↓wE_tup, ↓wE_tpl, ↓wE_lst, ↓wE_vtp, ↓wE_index, ↓wE_lrng, ↓wE_sset, ↓comp_eq, ↓allg_eq, lstK_eq, cutK_tup, cutK_lst, cutK_scr, revK_tup, revK_lst, vtpK_tp, ↓wEs_nil, ↓wEs_cons, ↓wVs_nil, ↓wVs_cons, ↓wO_no, ↓wO_yes, ↓wC_no, ↓wC_yes, ↓wI_it, ↓wI_r1, ↓wI_r2, r2K_eq, ↓wI_r3, ↓wI_zip, ↓wS_asg, ↓wS_par, ↓wS_unp, ↓wS_setv, ↓wS_swp, ↓wS_ex, ↓wS_ret, ↓wS_iff, ↓wS_brk, ↓wS_rais, ↓wS_newd, ↓wS_skip, ↓wS_app, ↓wS_ext, ↓wS_aug, ownK_eq, lstD_eq, augK_add, augK_sub, ↓wSs_nil, ↓wSs_cons, ↓whl_eq, ↓fr_eq, b_add, b_sub, b_mul, b_div, b_mod, b_pow, b_addT, b_addL, c_lt, c_le, c_gt, c_ge, c_eq, c_ne, f_abs, f_int, f_min, f_len, f_list, f_tuple, set_mk, sl_d, sl_own, sl_tp, dat_d, dat_own, dat_tp, it_tupW, it_lst, it_scr, items_tab, items_wh, is_own, is_tup, is_lst, is_scr, is_cell, is_tab, is_wh, ln_own, ln_tup, ln_lst, ln_scr, ln_dk, ln_tab, ln_wh, set_d, set_own, set_dk, set_tp, hide1, hide2, putT1, putT2, putT3, sl1, sl2, back1, back2, gone_unW, gone_dW, gone_ownW, setA0, setA1, List.map_cons, List.map_nil, List.length_cons, List.length_nil, List.cons_append, List.nil_append, List.getElem?_cons_zero, List.getElem?_cons_succ, List.replicate_succ, List.replicate_zero, List.set_cons_zero, List.set_cons_succ, exists_eq_left, exists_eq_left', Option.some.injEq, Sl.own.injEq, exists_eq', and_true, true_and, Nat.reduceAdd, Nat.reduceSub, Nat.zero_add])
      exact hq
end L01
end
section
namespace L01
open PySem (Str)
open DL LC
def tbl : List (Str × DL.Spec) := ([(Str.ofString "is_integer", LC.sp_is_integer), (Str.ofString "is_wheel", LC.sp_is_wheel), (Str.ofString "is_table", LC.sp_is_table), (Str.ofString "need_table", LC.sp_need_table), (Str.ofString "common", LC.sp_common), (Str.ofString "together", LC.sp_together), (Str.ofString "height_of", LC.sp_height_of), (Str.ofString "turned_by", L01.sp_turned_by)] : List (Str × DL.Spec)) ++ ([(Str.ofString "cycle_of", LC.sp_cycle_of), (Str.ofString "enough_times", L01.sp_enough), (Str.ofString "unlike_of", L01.sp_unlike_of), (Str.ofString "unlike_time", L01.sp_unlike_time), (Str.ofString "same_for_ever", L01.sp_same), (Str.ofString "returns_after", L01.sp_returns), (Str.ofString "least_period", L01.sp_least), (Str.ofString "_law_dice", LC.sp_dice)] : List (Str × DL.Spec)) ++ ([(Str.ofString "_law_roll", LC.sp_roll), (Str.ofString "_law_pick", LC.sp_pick), (Str.ofString "_law_gcd", LC.sp_gcd), (Str.ofString "_law_height", LC.sp_lheight), (Str.ofString "_law_cycle", LC.sp_lcycle), (Str.ofString "_law_other", L01.sp_lother), (Str.ofString "_law_first", L01.sp_lfirst), (Str.ofString "_law_comes", L01.sp_lcomes)] : List (Str × DL.Spec)) ++ ([(Str.ofString "_law_right", L01.sp_right), (Str.ofString "law", L01.sp_law)] : List (Str × DL.Spec))
def Sg : Tab := fun x => (tbl.lookup x).getD fun _ _ _ _ => False
theorem e_is_integer : Sg "is_integer" = LC.sp_is_integer := rfl
theorem e_is_wheel : Sg "is_wheel" = LC.sp_is_wheel := rfl
theorem e_is_table : Sg "is_table" = LC.sp_is_table := rfl
theorem e_need_table : Sg "need_table" = LC.sp_need_table := rfl
theorem e_common : Sg "common" = LC.sp_common := rfl
theorem e_together : Sg "together" = LC.sp_together := rfl
theorem e_height_of : Sg "height_of" = LC.sp_height_of := rfl
theorem e_turned_by : Sg "turned_by" = L01.sp_turned_by := rfl
theorem e_cycle_of : Sg "cycle_of" = LC.sp_cycle_of := rfl
theorem e_enough_times : Sg "enough_times" = L01.sp_enough := rfl
theorem e_unlike_of : Sg "unlike_of" = L01.sp_unlike_of := rfl
theorem e_unlike_time : Sg "unlike_time" = L01.sp_unlike_time := rfl
theorem e_same_for_ever : Sg "same_for_ever" = L01.sp_same := rfl
theorem e_returns_after : Sg "returns_after" = L01.sp_returns := rfl
theorem e_least_period : Sg "least_period" = L01.sp_least := rfl
theorem e__law_dice : Sg "_law_dice" = LC.sp_dice := rfl
theorem e__law_roll : Sg "_law_roll" = LC.sp_roll := rfl
theorem e__law_pick : Sg "_law_pick" = LC.sp_pick := rfl
theorem e__law_gcd : Sg "_law_gcd" = LC.sp_gcd := rfl
theorem e__law_height : Sg "_law_height" = LC.sp_lheight := rfl
theorem e__law_cycle : Sg "_law_cycle" = LC.sp_lcycle := rfl
theorem e__law_other : Sg "_law_other" = L01.sp_lother := rfl
theorem e__law_first : Sg "_law_first" = L01.sp_lfirst := rfl
theorem e__law_comes : Sg "_law_comes" = L01.sp_lcomes := rfl
theorem e__law_right : Sg "_law_right" = L01.sp_right := rfl
theorem e_law : Sg "law" = L01.sp_law := rfl
theorem q_is_integer : Keeps Sg 1 b_is_integer (Sg "is_integer") := LC.k_is_integer 
theorem q_is_wheel : Keeps Sg 2 b_is_wheel (Sg "is_wheel") := LC.k_is_wheel e_is_integer
theorem q_is_table : Keeps Sg 2 b_is_table (Sg "is_table") := LC.k_is_table e_is_wheel
theorem q_need_table : Keeps Sg 2 b_need_table (Sg "need_table") := LC.k_need_table e_is_table
theorem q_common : Keeps Sg 2 b_common (Sg "common") := LC.k_common 
theorem q_together : Keeps Sg 2 b_together (Sg "together") := LC.k_together e_common
theorem q_height_of : Keeps Sg 3 b_height_of (Sg "height_of") := LC.k_height_of 
theorem q_turned_by : Keeps Sg 3 b_turned_by (Sg "turned_by") := L01.k_turned_by 
theorem q_cycle_of : Keeps Sg 3 b_cycle_of (Sg "cycle_of") := LC.k_cycle_of e_together
theorem q_enough_times : Keeps Sg 5 b_enough_times (Sg "enough_times") := L01.k_enough e_common
theorem q_unlike_of : Keeps Sg 5 b_unlike_of (Sg "unlike_of") := L01.k_unlike_of e_enough_times e_height_of
theorem q_unlike_time : Keeps Sg 2 b_unlike_time (Sg "unlike_time") := L01.k_unlike_time e_need_table e_unlike_of
theorem q_same_for_ever : Keeps Sg 2 b_same_for_ever (Sg "same_for_ever") := L01.k_same e_need_table e_unlike_of
theorem q_returns_after : Keeps Sg 3 b_returns_after (Sg "returns_after") := L01.k_returns e_turned_by e_unlike_of
theorem q_least_period : Keeps Sg 3 b_least_period (Sg "least_period") := L01.k_least e_need_table e_cycle_of e_returns_after
theorem q__law_dice : Keeps Sg 5 b__law_dice (Sg "_law_dice") := LC.k_dice 
theorem q__law_roll : Keeps Sg 3 b__law_roll (Sg "_law_roll") := LC.k_roll 
theorem q__law_pick : Keeps Sg 2 b__law_pick (Sg "_law_pick") := LC.k_pick e__law_roll
theorem q__law_gcd : Keeps Sg 3 b__law_gcd (Sg "_law_gcd") := LC.k_gcd 
theorem q__law_height : Keeps Sg 4 b__law_height (Sg "_law_height") := LC.k_lheight 
theorem q__law_cycle : Keeps Sg 3 b__law_cycle (Sg "_law_cycle") := LC.k_lcycle e__law_gcd
theorem q__law_other : Keeps Sg 11 b__law_other (Sg "_law_other") := L01.k_lother e__law_roll e__law_pick
theorem q__law_first : Keeps Sg 4 b__law_first (Sg "_law_first") := L01.k_lfirst e__law_height
theorem q__law_comes : Keeps Sg 4 b__law_comes (Sg "_law_comes") := L01.k_lcomes e__law_height
theorem q__law_right : Keeps Sg 10 b__law_right (Sg "_law_right") := L01.k_right ⟨e__law_roll, e__law_other, e__law_first, e__law_comes, e__law_cycle, e_unlike_time, e_same_for_ever, e_least_period⟩
theorem q_law : Keeps Sg 2 b_law (Sg "law") := L01.k_law e__law_right e__law_dice
theorem sp_law_top (ns : List Int) (h1 : ns.length ≤ 63) (h2 : ∀ z ∈ ns, PySem.Builtin.Int.intBits z ≤ 1048576) : Sg "law" [.scr ns] [] (fun r _ => r = .d (.bl true)) (fun _ _ => False) := ⟨ns, rfl, by omega, rfl⟩
end L01
end
section
namespace L01
open PySem PySem.Spec PyProof.Rows L2 DL
def C_is_integer : CC := { N := ["value"], gk := [], gf := [], tab := none, rf := false }
theorem c_is_integer : cSs C_is_integer 40 (defScope s_is_integer) (defBody s_is_integer) = some b_is_integer := by kernel_rfl
theorem sc_is_integer : FnScope ["value"] ["value"] (defScope s_is_integer) := ⟨rfl, rfl, rfl, by decide +kernel, rfl, by decide +kernel, by decide +kernel⟩
theorem bd_is_integer : BindAll "is_integer" (defArgs s_is_integer) (defBody s_is_integer) (defScope s_is_integer) ["value"] := fun kV doc pm an cdv ct n us ws hn hu hw => match n, us, ws, hn, hu, hw with | 0, [], [a0], _, _, _ => rfl | 1, [a0], [], _, _, _ => rfl
def C_is_wheel : CC := { N := ["value", "height"], gk := [("MOST_SIZE", .int 60), ("MOST_HEIGHT", .int 1000000)], gf := [("is_integer", ["value"])], tab := some false, rf := false }
theorem c_is_wheel : cSs C_is_wheel 40 (defScope s_is_wheel) (defBody s_is_wheel) = some b_is_wheel := by kernel_rfl
theorem sc_is_wheel : FnScope ["value", "height"] ["value"] (defScope s_is_wheel) := ⟨rfl, rfl, rfl, by decide +kernel, rfl, by decide +kernel, by decide +kernel⟩
theorem bd_is_wheel : BindAll "is_wheel" (defArgs s_is_wheel) (defBody s_is_wheel) (defScope s_is_wheel) ["value"] := fun kV doc pm an cdv ct n us ws hn hu hw => match n, us, ws, hn, hu, hw with | 0, [], [a0], _, _, _ => rfl | 1, [a0], [], _, _, _ => rfl
def C_is_table : CC := { N := ["value", "wheel"], gk := [("MOST_WHEELS", .int 6)], gf := [("is_wheel", ["value"])], tab := some false, rf := false }
theorem c_is_table : cSs C_is_table 40 (defScope s_is_table) (defBody s_is_table) = some b_is_table := by kernel_rfl
theorem sc_is_table : FnScope ["value", "wheel"] ["value"] (defScope s_is_table) := ⟨rfl, rfl, rfl, by decide +kernel, rfl, by decide +kernel, by decide +kernel⟩
theorem bd_is_table : BindAll "is_table" (defArgs s_is_table) (defBody s_is_table) (defScope s_is_table) ["value"] := fun kV doc pm an cdv ct n us ws hn hu hw => match n, us, ws, hn, hu, hw with | 0, [], [a0], _, _, _ => rfl | 1, [a0], [], _, _, _ => rfl
def C_need_table : CC := { N := ["value", "name"], gk := [], gf := [("is_table", ["value"])], tab := none, rf := false }
theorem c_need_table : cSs C_need_table 40 (defScope s_need_table) (defBody s_need_table) = some b_need_table := by kernel_rfl
theorem sc_need_table : FnScope ["value", "name"] ["value", "name"] (defScope s_need_table) := ⟨rfl, rfl, rfl, by decide +kernel, rfl, by decide +kernel, by decide +kernel⟩
theorem bd_need_table : BindAll "need_table" (defArgs s_need_table) (defBody s_need_table) (defScope s_need_table) ["value", "name"] := fun kV doc pm an cdv ct n us ws hn hu hw => match n, us, ws, hn, hu, hw with | 0, [], [a0, a1], _, _, _ => rfl | 1, [a0], [a1], _, _, _ => rfl | 2, [a0, a1], [], _, _, _ => rfl
def C_common : CC := { N := ["one", "other"], gk := [], gf := [], tab := none, rf := false }
theorem c_common : cSs C_common 40 (defScope s_common) (defBody s_common) = some b_common := by kernel_rfl
theorem sc_common : FnScope ["one", "other"] ["one", "other"] (defScope s_common) := ⟨rfl, rfl, rfl, by decide +kernel, rfl, by decide +kernel, by decide +kernel⟩
theorem bd_common : BindAll "common" (defArgs s_common) (defBody s_common) (defScope s_common) ["one", "other"] := fun kV doc pm an cdv ct n us ws hn hu hw => match n, us, ws, hn, hu, hw with | 0, [], [a0, a1], _, _, _ => rfl | 1, [a0], [a1], _, _, _ => rfl | 2, [a0, a1], [], _, _, _ => rfl
def C_together : CC := { N := ["one", "other"], gk := [], gf := [("common", ["one", "other"])], tab := none, rf := false }
theorem c_together : cSs C_together 40 (defScope s_together) (defBody s_together) = some b_together := by kernel_rfl
theorem sc_together : FnScope ["one", "other"] ["one", "other"] (defScope s_together) := ⟨rfl, rfl, rfl, by decide +kernel, rfl, by decide +kernel, by decide +kernel⟩
theorem bd_together : BindAll "together" (defArgs s_together) (defBody s_together) (defScope s_together) ["one", "other"] := fun kV doc pm an cdv ct n us ws hn hu hw => match n, us, ws, hn, hu, hw with | 0, [], [a0, a1], _, _, _ => rfl | 1, [a0], [a1], _, _, _ => rfl | 2, [a0, a1], [], _, _, _ => rfl
def C_height_of : CC := { N := ["table", "time", "wheel"], gk := [], gf := [], tab := none, rf := false }
theorem c_height_of : cSs C_height_of 40 (defScope s_height_of) (defBody s_height_of) = some b_height_of := by kernel_rfl
theorem sc_height_of : FnScope ["table", "time", "wheel"] ["table", "time"] (defScope s_height_of) := ⟨rfl, rfl, rfl, by decide +kernel, rfl, by decide +kernel, by decide +kernel⟩
theorem bd_height_of : BindAll "height_of" (defArgs s_height_of) (defBody s_height_of) (defScope s_height_of) ["table", "time"] := fun kV doc pm an cdv ct n us ws hn hu hw => match n, us, ws, hn, hu, hw with | 0, [], [a0, a1], _, _, _ => rfl | 1, [a0], [a1], _, _, _ => rfl | 2, [a0, a1], [], _, _, _ => rfl
def C_turned_by : CC := { N := ["wheel", "many", "at"], gk := [], gf := [], tab := none, rf := false }
theorem c_turned_by : cSs C_turned_by 40 (defScope s_turned_by) (defBody s_turned_by) = some b_turned_by := by kernel_rfl
theorem sc_turned_by : FnScope ["wheel", "many", "at"] ["wheel", "many"] (defScope s_turned_by) := ⟨rfl, rfl, rfl, by decide +kernel, rfl, by decide +kernel, by decide +kernel⟩
theorem bd_turned_by : BindAll "turned_by" (defArgs s_turned_by) (defBody s_turned_by) (defScope s_turned_by) ["wheel", "many"] := fun kV doc pm an cdv ct n us ws hn hu hw => match n, us, ws, hn, hu, hw with | 0, [], [a0, a1], _, _, _ => rfl | 1, [a0], [a1], _, _, _ => rfl | 2, [a0, a1], [], _, _, _ => rfl
def C_cycle_of : CC := { N := ["table", "found", "wheel"], gk := [], gf := [("together", ["one", "other"])], tab := none, rf := false }
theorem c_cycle_of : cSs C_cycle_of 40 (defScope s_cycle_of) (defBody s_cycle_of) = some b_cycle_of := by kernel_rfl
theorem sc_cycle_of : FnScope ["table", "found", "wheel"] ["table"] (defScope s_cycle_of) := ⟨rfl, rfl, rfl, by decide +kernel, rfl, by decide +kernel, by decide +kernel⟩
theorem bd_cycle_of : BindAll "cycle_of" (defArgs s_cycle_of) (defBody s_cycle_of) (defScope s_cycle_of) ["table"] := fun kV doc pm an cdv ct n us ws hn hu hw => match n, us, ws, hn, hu, hw with | 0, [], [a0], _, _, _ => rfl | 1, [a0], [], _, _, _ => rfl
def C_enough_times : CC := { N := ["sizes", "known", "size", "at", "divisor"], gk := [], gf := [("common", ["one", "other"])], tab := none, rf := false, dks := ["known"] }
theorem c_enough_times : cSs C_enough_times 40 (defScope s_enough_times) (defBody s_enough_times) = some b_enough_times := by kernel_rfl
theorem sc_enough_times : FnScope ["sizes", "known", "size", "at", "divisor"] ["sizes"] (defScope s_enough_times) := ⟨rfl, rfl, rfl, by decide +kernel, rfl, by decide +kernel, by decide +kernel⟩
theorem bd_enough_times : BindAll "enough_times" (defArgs s_enough_times) (defBody s_enough_times) (defScope s_enough_times) ["sizes"] := fun kV doc pm an cdv ct n us ws hn hu hw => match n, us, ws, hn, hu, hw with | 0, [], [a0], _, _, _ => rfl | 1, [a0], [], _, _, _ => rfl
def C_unlike_of : CC := { N := ["one", "other", "many", "wheel", "time"], gk := [], gf := [("enough_times", ["sizes"]), ("height_of", ["table", "time"])], tab := none, rf := false }
theorem c_unlike_of : cSs C_unlike_of 40 (defScope s_unlike_of) (defBody s_unlike_of) = some b_unlike_of := by kernel_rfl
theorem sc_unlike_of : FnScope ["one", "other", "many", "wheel", "time"] ["one", "other"] (defScope s_unlike_of) := ⟨rfl, rfl, rfl, by decide +kernel, rfl, by decide +kernel, by decide +kernel⟩
theorem bd_unlike_of : BindAll "unlike_of" (defArgs s_unlike_of) (defBody s_unlike_of) (defScope s_unlike_of) ["one", "other"] := fun kV doc pm an cdv ct n us ws hn hu hw => match n, us, ws, hn, hu, hw with | 0, [], [a0, a1], _, _, _ => rfl | 1, [a0], [a1], _, _, _ => rfl | 2, [a0, a1], [], _, _, _ => rfl
def C_unlike_time : CC := { N := ["one", "other"], gk := [], gf := [("need_table", ["value", "name"]), ("unlike_of", ["one", "other"])], tab := none, rf := false }
theorem c_unlike_time : cSs C_unlike_time 40 (defScope s_unlike_time) (defBody s_unlike_time) = some b_unlike_time := by kernel_rfl
theorem sc_unlike_time : FnScope ["one", "other"] ["one", "other"] (defScope s_unlike_time) := ⟨rfl, rfl, rfl, by decide +kernel, rfl, by decide +kernel, by decide +kernel⟩
theorem bd_unlike_time : BindAll "unlike_time" (defArgs s_unlike_time) (defBody s_unlike_time) (defScope s_unlike_time) ["one", "other"] := fun kV doc pm an cdv ct n us ws hn hu hw => match n, us, ws, hn, hu, hw with | 0, [], [a0, a1], _, _, _ => rfl | 1, [a0], [a1], _, _, _ => rfl | 2, [a0, a1], [], _, _, _ => rfl
def C_same_for_ever : CC := { N := ["one", "other"], gk := [], gf := [("need_table", ["value", "name"]), ("unlike_of", ["one", "other"])], tab := none, rf := false }
theorem c_same_for_ever : cSs C_same_for_ever 40 (defScope s_same_for_ever) (defBody s_same_for_ever) = some b_same_for_ever := by kernel_rfl
theorem sc_same_for_ever : FnScope ["one", "other"] ["one", "other"] (defScope s_same_for_ever) := ⟨rfl, rfl, rfl, by decide +kernel, rfl, by decide +kernel, by decide +kernel⟩
theorem bd_same_for_ever : BindAll "same_for_ever" (defArgs s_same_for_ever) (defBody s_same_for_ever) (defScope s_same_for_ever) ["one", "other"] := fun kV doc pm an cdv ct n us ws hn hu hw => match n, us, ws, hn, hu, hw with | 0, [], [a0, a1], _, _, _ => rfl | 1, [a0], [a1], _, _, _ => rfl | 2, [a0, a1], [], _, _, _ => rfl
def C_returns_after : CC := { N := ["table", "many", "wheel"], gk := [], gf := [("unlike_of", ["one", "other"]), ("turned_by", ["wheel", "many"])], tab := none, rf := false }
theorem c_returns_after : cSs C_returns_after 40 (defScope s_returns_after) (defBody s_returns_after) = some b_returns_after := by kernel_rfl
theorem sc_returns_after : FnScope ["table", "many", "wheel"] ["table", "many"] (defScope s_returns_after) := ⟨rfl, rfl, rfl, by decide +kernel, rfl, by decide +kernel, by decide +kernel⟩
theorem bd_returns_after : BindAll "returns_after" (defArgs s_returns_after) (defBody s_returns_after) (defScope s_returns_after) ["table", "many"] := fun kV doc pm an cdv ct n us ws hn hu hw => match n, us, ws, hn, hu, hw with | 0, [], [a0, a1], _, _, _ => rfl | 1, [a0], [a1], _, _, _ => rfl | 2, [a0, a1], [], _, _, _ => rfl
def C_least_period : CC := { N := ["table", "found", "prime"], gk := [("MOST_SIZE", .int 60)], gf := [("need_table", ["value", "name"]), ("cycle_of", ["table"]), ("returns_after", ["table", "many"])], tab := none, rf := false }
theorem c_least_period : cSs C_least_period 40 (defScope s_least_period) (defBody s_least_period) = some b_least_period := by kernel_rfl
theorem sc_least_period : FnScope ["table", "found", "prime"] ["table"] (defScope s_least_period) := ⟨rfl, rfl, rfl, by decide +kernel, rfl, by decide +kernel, by decide +kernel⟩
theorem bd_least_period : BindAll "least_period" (defArgs s_least_period) (defBody s_least_period) (defScope s_least_period) ["table"] := fun kV doc pm an cdv ct n us ws hn hu hw => match n, us, ws, hn, hu, hw with | 0, [], [a0], _, _, _ => rfl | 1, [a0], [], _, _, _ => rfl
def C__law_dice : CC := { N := ["script", "spot", "own", "mixed", "cell"], gk := [], gf := [], tab := none, rf := false }
theorem c__law_dice : cSs C__law_dice 40 (defScope s__law_dice) (defBody s__law_dice) = some b__law_dice := by kernel_rfl
theorem sc__law_dice : FnScope ["script", "spot", "own", "mixed", "cell"] ["script", "spot"] (defScope s__law_dice) := ⟨rfl, rfl, rfl, by decide +kernel, rfl, by decide +kernel, by decide +kernel⟩
theorem bd__law_dice : BindAll "_law_dice" (defArgs s__law_dice) (defBody s__law_dice) (defScope s__law_dice) ["script", "spot"] := fun kV doc pm an cdv ct n us ws hn hu hw => match n, us, ws, hn, hu, hw with | 0, [], [a0, a1], _, _, _ => rfl | 1, [a0], [a1], _, _, _ => rfl | 2, [a0, a1], [], _, _, _ => rfl
def C__law_roll : CC := { N := ["dice", "many", "found"], gk := [], gf := [], tab := none, rf := false }
theorem c__law_roll : cSs C__law_roll 40 (defScope s__law_roll) (defBody s__law_roll) = some b__law_roll := by kernel_rfl
theorem sc__law_roll : FnScope ["dice", "many", "found"] ["dice", "many"] (defScope s__law_roll) := ⟨rfl, rfl, rfl, by decide +kernel, rfl, by decide +kernel, by decide +kernel⟩
theorem bd__law_roll : BindAll "_law_roll" (defArgs s__law_roll) (defBody s__law_roll) (defScope s__law_roll) ["dice", "many"] := fun kV doc pm an cdv ct n us ws hn hu hw => match n, us, ws, hn, hu, hw with | 0, [], [a0, a1], _, _, _ => rfl | 1, [a0], [a1], _, _, _ => rfl | 2, [a0, a1], [], _, _, _ => rfl
def C__law_pick : CC := { N := ["dice", "things"], gk := [], gf := [("_law_roll", ["dice", "many"])], tab := none, rf := false }
theorem c__law_pick : cSs C__law_pick 40 (defScope s__law_pick) (defBody s__law_pick) = some b__law_pick := by kernel_rfl
theorem sc__law_pick : FnScope ["dice", "things"] ["dice", "things"] (defScope s__law_pick) := ⟨rfl, rfl, rfl, by decide +kernel, rfl, by decide +kernel, by decide +kernel⟩
theorem bd__law_pick : BindAll "_law_pick" (defArgs s__law_pick) (defBody s__law_pick) (defScope s__law_pick) ["dice", "things"] := fun kV doc pm an cdv ct n us ws hn hu hw => match n, us, ws, hn, hu, hw with | 0, [], [a0, a1], _, _, _ => rfl | 1, [a0], [a1], _, _, _ => rfl | 2, [a0, a1], [], _, _, _ => rfl
def C__law_gcd : CC := { N := ["one", "other", "turn"], gk := [], gf := [], tab := none, rf := false }
theorem c__law_gcd : cSs C__law_gcd 40 (defScope s__law_gcd) (defBody s__law_gcd) = some b__law_gcd := by kernel_rfl
theorem sc__law_gcd : FnScope ["one", "other", "turn"] ["one", "other"] (defScope s__law_gcd) := ⟨rfl, rfl, rfl, by decide +kernel, rfl, by decide +kernel, by decide +kernel⟩
theorem bd__law_gcd : BindAll "_law_gcd" (defArgs s__law_gcd) (defBody s__law_gcd) (defScope s__law_gcd) ["one", "other"] := fun kV doc pm an cdv ct n us ws hn hu hw => match n, us, ws, hn, hu, hw with | 0, [], [a0, a1], _, _, _ => rfl | 1, [a0], [a1], _, _, _ => rfl | 2, [a0, a1], [], _, _, _ => rfl
def C__law_height : CC := { N := ["table", "time", "whole", "wheel"], gk := [], gf := [], tab := none, rf := false }
theorem c__law_height : cSs C__law_height 40 (defScope s__law_height) (defBody s__law_height) = some b__law_height := by kernel_rfl
theorem sc__law_height : FnScope ["table", "time", "whole", "wheel"] ["table", "time"] (defScope s__law_height) := ⟨rfl, rfl, rfl, by decide +kernel, rfl, by decide +kernel, by decide +kernel⟩
theorem bd__law_height : BindAll "_law_height" (defArgs s__law_height) (defBody s__law_height) (defScope s__law_height) ["table", "time"] := fun kV doc pm an cdv ct n us ws hn hu hw => match n, us, ws, hn, hu, hw with | 0, [], [a0, a1], _, _, _ => rfl | 1, [a0], [a1], _, _, _ => rfl | 2, [a0, a1], [], _, _, _ => rfl
def C__law_cycle : CC := { N := ["table", "found", "wheel"], gk := [], gf := [("_law_gcd", ["one", "other"])], tab := none, rf := false }
theorem c__law_cycle : cSs C__law_cycle 40 (defScope s__law_cycle) (defBody s__law_cycle) = some b__law_cycle := by kernel_rfl
theorem sc__law_cycle : FnScope ["table", "found", "wheel"] ["table"] (defScope s__law_cycle) := ⟨rfl, rfl, rfl, by decide +kernel, rfl, by decide +kernel, by decide +kernel⟩
theorem bd__law_cycle : BindAll "_law_cycle" (defArgs s__law_cycle) (defBody s__law_cycle) (defScope s__law_cycle) ["table"] := fun kV doc pm an cdv ct n us ws hn hu hw => match n, us, ws, hn, hu, hw with | 0, [], [a0], _, _, _ => rfl | 1, [a0], [], _, _, _ => rfl
def C__law_other : CC := { N := ["dice", "table", "kind", "at", "wheel", "more", "rest", "one", "half", "two", "place"], gk := [], gf := [("_law_pick", ["dice", "things"]), ("_law_roll", ["dice", "many"])], tab := none, rf := false }
theorem c__law_other : cSs C__law_other 40 (defScope s__law_other) (defBody s__law_other) = some b__law_other := by kernel_rfl
theorem sc__law_other : FnScope ["dice", "table", "kind", "at", "wheel", "more", "rest", "one", "half", "two", "place"] ["dice", "table"] (defScope s__law_other) := ⟨rfl, rfl, rfl, by decide +kernel, rfl, by decide +kernel, by decide +kernel⟩
theorem bd__law_other : BindAll "_law_other" (defArgs s__law_other) (defBody s__law_other) (defScope s__law_other) ["dice", "table"] := fun kV doc pm an cdv ct n us ws hn hu hw => match n, us, ws, hn, hu, hw with | 0, [], [a0, a1], _, _, _ => rfl | 1, [a0], [a1], _, _, _ => rfl | 2, [a0, a1], [], _, _, _ => rfl
def C__law_first : CC := { N := ["one", "other", "many", "time"], gk := [], gf := [("_law_height", ["table", "time"])], tab := none, rf := false }
theorem c__law_first : cSs C__law_first 40 (defScope s__law_first) (defBody s__law_first) = some b__law_first := by kernel_rfl
theorem sc__law_first : FnScope ["one", "other", "many", "time"] ["one", "other", "many"] (defScope s__law_first) := ⟨rfl, rfl, rfl, by decide +kernel, rfl, by decide +kernel, by decide +kernel⟩
theorem bd__law_first : BindAll "_law_first" (defArgs s__law_first) (defBody s__law_first) (defScope s__law_first) ["one", "other", "many"] := fun kV doc pm an cdv ct n us ws hn hu hw => match n, us, ws, hn, hu, hw with | 0, [], [a0, a1, a2], _, _, _ => rfl | 1, [a0], [a1, a2], _, _, _ => rfl | 2, [a0, a1], [a2], _, _, _ => rfl | 3, [a0, a1, a2], [], _, _, _ => rfl
def C__law_comes : CC := { N := ["table", "many", "size", "time"], gk := [], gf := [("_law_height", ["table", "time"])], tab := none, rf := false }
theorem c__law_comes : cSs C__law_comes 40 (defScope s__law_comes) (defBody s__law_comes) = some b__law_comes := by kernel_rfl
theorem sc__law_comes : FnScope ["table", "many", "size", "time"] ["table", "many", "size"] (defScope s__law_comes) := ⟨rfl, rfl, rfl, by decide +kernel, rfl, by decide +kernel, by decide +kernel⟩
theorem bd__law_comes : BindAll "_law_comes" (defArgs s__law_comes) (defBody s__law_comes) (defScope s__law_comes) ["table", "many", "size"] := fun kV doc pm an cdv ct n us ws hn hu hw => match n, us, ws, hn, hu, hw with | 0, [], [a0, a1, a2], _, _, _ => rfl | 1, [a0], [a1, a2], _, _, _ => rfl | 2, [a0, a1], [a2], _, _, _ => rfl | 3, [a0, a1, a2], [], _, _, _ => rfl
def C__law_right : CC := { N := ["dice", "table", "turn", "place", "other", "due", "size", "found", "many", "told"], gk := [], gf := [("_law_other", ["dice", "table"]), ("_law_first", ["one", "other", "many"]), ("_law_cycle", ["table"]), ("least_period", ["table"]), ("unlike_time", ["one", "other"]), ("same_for_ever", ["one", "other"]), ("_law_comes", ["table", "many", "size"]), ("_law_roll", ["dice", "many"])], tab := some true, rf := true }
theorem c__law_right : cSs C__law_right 40 (defScope s__law_right) (defBody s__law_right) = some b__law_right := by kernel_rfl
theorem sc__law_right : FnScope ["dice", "table", "turn", "place", "other", "due", "size", "found", "many", "told"] ["dice"] (defScope s__law_right) := ⟨rfl, rfl, rfl, by decide +kernel, rfl, by decide +kernel, by decide +kernel⟩
theorem bd__law_right : BindAll "_law_right" (defArgs s__law_right) (defBody s__law_right) (defScope s__law_right) ["dice"] := fun kV doc pm an cdv ct n us ws hn hu hw => match n, us, ws, hn, hu, hw with | 0, [], [a0], _, _, _ => rfl | 1, [a0], [], _, _, _ => rfl
def C_law : CC := { N := ["script", "spot"], gk := [], gf := [("_law_right", ["dice"]), ("_law_dice", ["script", "spot"])], tab := none, rf := false, fresh := true, lent := ["_law_right"] }
theorem c_law : cSs C_law 40 (defScope s_law) (defBody s_law) = some b_law := by kernel_rfl
theorem sc_law : FnScope ["script", "spot"] ["script"] (defScope s_law) := ⟨rfl, rfl, rfl, by decide +kernel, rfl, by decide +kernel, by decide +kernel⟩
theorem bd_law : BindAll "law" (defArgs s_law) (defBody s_law) (defScope s_law) ["script"] := fun kV doc pm an cdv ct n us ws hn hu hw => match n, us, ws, hn, hu, hw with | 0, [], [a0], _, _, _ => rfl | 1, [a0], [], _, _, _ => rfl
section
variable {w : World} {K : PySem.W.Frag} {mg : Str → Option Value} {base h : Heap}
structure All (w : World) (K : PySem.W.Frag) (mg : Str → Option Value) (base h : Heap) : Prop where
  A : Gd (PySem.Challenge.rw_tidemaker_k01_whole_for_ever).prog w K mg base (tabT K tf) (bC K) tf
  c : He.SaysX fa fn [] tfn ex w h K
  X : K.In h
  G : h.Ns mainGlobals mg
abbrev At (w : World) (K : PySem.W.Frag) (mg : Str → Option Value) (base : Heap) (k : Nat) (x : Str) (ps : List Str) : Prop := FnAt (PySem.Challenge.rw_tidemaker_k01_whole_for_ever).prog w K mg base (tabT K tf) (bC K) Sg k x ps
theorem All.glo (a : All w K mg base h) {x : Str} (hx : He.Fa.glo x ∈ fa) : mg x = some (.ref (He.fAd K (x, none))) := He.glo_ok a.X a.G (a.c.t.d.facts hx)
theorem All.int (a : All w K mg base h) {x : Str} {i : Int} (hx : He.Fa.int x i ∈ fa) : ∃ t, mg x = some (.int i t) := He.int_ok a.X a.G (a.c.t.d.facts hx)
theorem at_is_integer (a : All w K mg base h) : At w K mg base 6 "is_integer" ["value"] := by
  obtain ⟨fd, F⟩ := a.c.t.d.def_ 0 (d := d_is_integer) rfl
  exact fnAt_of (k := 0) (C := C_is_integer) (m := 40) (b := b_is_integer) (st := s_is_integer) a.A F (a.glo (by simp [fa])) bd_is_integer (by decide) sc_is_integer rfl c_is_integer q_is_integer ks_nil fs_nil (fun b hb => nomatch hb) (fun h => nomatch h) (fun h => nomatch h) (fun h => nomatch h) rfl
theorem at_common (a : All w K mg base h) : At w K mg base 6 "common" ["one", "other"] := by
  obtain ⟨fd, F⟩ := a.c.t.d.def_ 4 (d := d_common) rfl
  exact fnAt_of (k := 0) (C := C_common) (m := 40) (b := b_common) (st := s_common) a.A F (a.glo (by simp [fa])) bd_common (by decide) sc_common rfl c_common q_common ks_nil fs_nil (fun b hb => nomatch hb) (fun h => nomatch h) (fun h => nomatch h) (fun h => nomatch h) rfl
theorem at_height_of (a : All w K mg base h) : At w K mg base 6 "height_of" ["table", "time"] := by
  obtain ⟨fd, F⟩ := a.c.t.d.def_ 6 (d := d_height_of) rfl
  exact fnAt_of (k := 0) (C := C_height_of) (m := 40) (b := b_height_of) (st := s_height_of) a.A F (a.glo (by simp [fa])) bd_height_of (by decide) sc_height_of rfl c_height_of q_height_of ks_nil fs_nil (fun b hb => nomatch hb) (fun h => nomatch h) (fun h => nomatch h) (fun h => nomatch h) rfl
theorem at_turned_by (a : All w K mg base h) : At w K mg base 6 "turned_by" ["wheel", "many"] := by
  obtain ⟨fd, F⟩ := a.c.t.d.def_ 7 (d := d_turned_by) rfl
  exact fnAt_of (k := 0) (C := C_turned_by) (m := 40) (b := b_turned_by) (st := s_turned_by) a.A F (a.glo (by simp [fa])) bd_turned_by (by decide) sc_turned_by rfl c_turned_by q_turned_by ks_nil fs_nil (fun b hb => nomatch hb) (fun h => nomatch h) (fun h => nomatch h) (fun h => nomatch h) rfl
theorem at__law_dice (a : All w K mg base h) : At w K mg base 6 "_law_dice" ["script", "spot"] := by
  obtain ⟨fd, F⟩ := a.c.t.d.def_ 15 (d := d__law_dice) rfl
  exact fnAt_of (k := 0) (C := C__law_dice) (m := 40) (b := b__law_dice) (st := s__law_dice) a.A F (a.glo (by simp [fa])) bd__law_dice (by decide) sc__law_dice rfl c__law_dice q__law_dice ks_nil fs_nil (fun b hb => nomatch hb) (fun h => nomatch h) (fun h => nomatch h) (fun h => nomatch h) rfl
theorem at__law_roll (a : All w K mg base h) : At w K mg base 6 "_law_roll" ["dice", "many"] := by
  obtain ⟨fd, F⟩ := a.c.t.d.def_ 16 (d := d__law_roll) rfl
  exact fnAt_of (k := 0) (C := C__law_roll) (m := 40) (b := b__law_roll) (st := s__law_roll) a.A F (a.glo (by simp [fa])) bd__law_roll (by decide) sc__law_roll rfl c__law_roll q__law_roll ks_nil fs_nil (fun b hb => nomatch hb) (fun h => nomatch h) (fun h => nomatch h) (fun h => nomatch h) rfl
theorem at__law_gcd (a : All w K mg base h) : At w K mg base 6 "_law_gcd" ["one", "other"] := by
  obtain ⟨fd, F⟩ := a.c.t.d.def_ 19 (d := d__law_gcd) rfl
  exact fnAt_of (k := 0) (C := C__law_gcd) (m := 40) (b := b__law_gcd) (st := s__law_gcd) a.A F (a.glo (by simp [fa])) bd__law_gcd (by decide) sc__law_gcd rfl c__law_gcd q__law_gcd ks_nil fs_nil (fun b hb => nomatch hb) (fun h => nomatch h) (fun h => nomatch h) (fun h => nomatch h) rfl
theorem at__law_height (a : All w K mg base h) : At w K mg base 6 "_law_height" ["table", "time"] := by
  obtain ⟨fd, F⟩ := a.c.t.d.def_ 20 (d := d__law_height) rfl
  exact fnAt_of (k := 0) (C := C__law_height) (m := 40) (b := b__law_height) (st := s__law_height) a.A F (a.glo (by simp [fa])) bd__law_height (by decide) sc__law_height rfl c__law_height q__law_height ks_nil fs_nil (fun b hb => nomatch hb) (fun h => nomatch h) (fun h => nomatch h) (fun h => nomatch h) rfl
theorem at_is_wheel (a : All w K mg base h) : At w K mg base 12 "is_wheel" ["value"] := by
  obtain ⟨fd, F⟩ := a.c.t.d.def_ 1 (d := d_is_wheel) rfl
  exact fnAt_of (k := 6) (C := C_is_wheel) (m := 40) (b := b_is_wheel) (st := s_is_wheel) a.A F (a.glo (by simp [fa])) bd_is_wheel (by decide) sc_is_wheel rfl c_is_wheel q_is_wheel (ks_int (a.int (by simp [fa])) (ks_int (a.int (by simp [fa])) ks_nil)) (fs_cons (at_is_integer a) (by decide) fs_nil) (fun b hb => by cases hb; simp [tf]) (fun h => nomatch h) (fun h => nomatch h) (fun _ => by decide +kernel) rfl
theorem at_together (a : All w K mg base h) : At w K mg base 12 "together" ["one", "other"] := by
  obtain ⟨fd, F⟩ := a.c.t.d.def_ 5 (d := d_together) rfl
  exact fnAt_of (k := 6) (C := C_together) (m := 40) (b := b_together) (st := s_together) a.A F (a.glo (by simp [fa])) bd_together (by decide) sc_together rfl c_together q_together ks_nil (fs_cons (at_common a) (by decide) fs_nil) (fun b hb => nomatch hb) (fun h => nomatch h) (fun h => nomatch h) (fun h => nomatch h) rfl
theorem at_enough_times (a : All w K mg base h) : At w K mg base 12 "enough_times" ["sizes"] := by
  obtain ⟨fd, F⟩ := a.c.t.d.def_ 9 (d := d_enough_times) rfl
  exact fnAt_of (k := 6) (C := C_enough_times) (m := 40) (b := b_enough_times) (st := s_enough_times) a.A F (a.glo (by simp [fa])) bd_enough_times (by decide) sc_enough_times rfl c_enough_times q_enough_times ks_nil (fs_cons (at_common a) (by decide) fs_nil) (fun b hb => nomatch hb) (fun h => nomatch h) (fun h => nomatch h) (fun h => nomatch h) rfl
theorem at__law_pick (a : All w K mg base h) : At w K mg base 12 "_law_pick" ["dice", "things"] := by
  obtain ⟨fd, F⟩ := a.c.t.d.def_ 17 (d := d__law_pick) rfl
  exact fnAt_of (k := 6) (C := C__law_pick) (m := 40) (b := b__law_pick) (st := s__law_pick) a.A F (a.glo (by simp [fa])) bd__law_pick (by decide) sc__law_pick rfl c__law_pick q__law_pick ks_nil (fs_cons (at__law_roll a) (by decide) fs_nil) (fun b hb => nomatch hb) (fun h => nomatch h) (fun h => nomatch h) (fun h => nomatch h) rfl
theorem at__law_cycle (a : All w K mg base h) : At w K mg base 12 "_law_cycle" ["table"] := by
  obtain ⟨fd, F⟩ := a.c.t.d.def_ 21 (d := d__law_cycle) rfl
  exact fnAt_of (k := 6) (C := C__law_cycle) (m := 40) (b := b__law_cycle) (st := s__law_cycle) a.A F (a.glo (by simp [fa])) bd__law_cycle (by decide) sc__law_cycle rfl c__law_cycle q__law_cycle ks_nil (fs_cons (at__law_gcd a) (by decide) fs_nil) (fun b hb => nomatch hb) (fun h => nomatch h) (fun h => nomatch h) (fun h => nomatch h) rfl
theorem at__law_first (a : All w K mg base h) : At w K mg base 12 "_law_first" ["one", "other", "many"] := by
  obtain ⟨fd, F⟩ := a.c.t.d.def_ 23 (d := d__law_first) rfl
  exact fnAt_of (k := 6) (C := C__law_first) (m := 40) (b := b__law_first) (st := s__law_first) a.A F (a.glo (by simp [fa])) bd__law_first (by decide) sc__law_first rfl c__law_first q__law_first ks_nil (fs_cons (at__law_height a) (by decide) fs_nil) (fun b hb => nomatch hb) (fun h => nomatch h) (fun h => nomatch h) (fun h => nomatch h) rfl
theorem at__law_comes (a : All w K mg base h) : At w K mg base 12 "_law_comes" ["table", "many", "size"] := by
  obtain ⟨fd, F⟩ := a.c.t.d.def_ 24 (d := d__law_comes) rfl
  exact fnAt_of (k := 6) (C := C__law_comes) (m := 40) (b := b__law_comes) (st := s__law_comes) a.A F (a.glo (by simp [fa])) bd__law_comes (by decide) sc__law_comes rfl c__law_comes q__law_comes ks_nil (fs_cons (at__law_height a) (by decide) fs_nil) (fun b hb => nomatch hb) (fun h => nomatch h) (fun h => nomatch h) (fun h => nomatch h) rfl
theorem at_is_table (a : All w K mg base h) : At w K mg base 18 "is_table" ["value"] := by
  obtain ⟨fd, F⟩ := a.c.t.d.def_ 2 (d := d_is_table) rfl
  exact fnAt_of (k := 12) (C := C_is_table) (m := 40) (b := b_is_table) (st := s_is_table) a.A F (a.glo (by simp [fa])) bd_is_table (by decide) sc_is_table rfl c_is_table q_is_table (ks_int (a.int (by simp [fa])) ks_nil) (fs_cons (at_is_wheel a) (by decide) fs_nil) (fun b hb => by cases hb; simp [tf]) (fun h => nomatch h) (fun h => nomatch h) (fun _ => by decide +kernel) rfl
theorem at_cycle_of (a : All w K mg base h) : At w K mg base 18 "cycle_of" ["table"] := by
  obtain ⟨fd, F⟩ := a.c.t.d.def_ 8 (d := d_cycle_of) rfl
  exact fnAt_of (k := 12) (C := C_cycle_of) (m := 40) (b := b_cycle_of) (st := s_cycle_of) a.A F (a.glo (by simp [fa])) bd_cycle_of (by decide) sc_cycle_of rfl c_cycle_of q_cycle_of ks_nil (fs_cons (at_together a) (by decide) fs_nil) (fun b hb => nomatch hb) (fun h => nomatch h) (fun h => nomatch h) (fun h => nomatch h) rfl
theorem at_unlike_of (a : All w K mg base h) : At w K mg base 18 "unlike_of" ["one", "other"] := by
  obtain ⟨fd, F⟩ := a.c.t.d.def_ 10 (d := d_unlike_of) rfl
  exact fnAt_of (k := 12) (C := C_unlike_of) (m := 40) (b := b_unlike_of) (st := s_unlike_of) a.A F (a.glo (by simp [fa])) bd_unlike_of (by decide) sc_unlike_of rfl c_unlike_of q_unlike_of ks_nil (fs_cons (at_enough_times a) (by decide) (fs_cons (at_height_of a) (by decide) fs_nil)) (fun b hb => nomatch hb) (fun h => nomatch h) (fun h => nomatch h) (fun h => nomatch h) rfl
theorem at__law_other (a : All w K mg base h) : At w K mg base 18 "_law_other" ["dice", "table"] := by
  obtain ⟨fd, F⟩ := a.c.t.d.def_ 22 (d := d__law_other) rfl
  exact fnAt_of (k := 12) (C := C__law_other) (m := 40) (b := b__law_other) (st := s__law_other) a.A F (a.glo (by simp [fa])) bd__law_other (by decide) sc__law_other rfl c__law_other q__law_other ks_nil (fs_cons (at__law_pick a) (by decide) (fs_cons (at__law_roll a) (by decide) fs_nil)) (fun b hb => nomatch hb) (fun h => nomatch h) (fun h => nomatch h) (fun h => nomatch h) rfl
theorem at_need_table (a : All w K mg base h) : At w K mg base 24 "need_table" ["value", "name"] := by
  obtain ⟨fd, F⟩ := a.c.t.d.def_ 3 (d := d_need_table) rfl
  exact fnAt_of (k := 18) (C := C_need_table) (m := 40) (b := b_need_table) (st := s_need_table) a.A F (a.glo (by simp [fa])) bd_need_table (by decide) sc_need_table rfl c_need_table q_need_table ks_nil (fs_cons (at_is_table a) (by decide) fs_nil) (fun b hb => nomatch hb) (fun h => nomatch h) (fun h => nomatch h) (fun h => nomatch h) rfl
theorem at_returns_after (a : All w K mg base h) : At w K mg base 24 "returns_after" ["table", "many"] := by
  obtain ⟨fd, F⟩ := a.c.t.d.def_ 13 (d := d_returns_after) rfl
  exact fnAt_of (k := 18) (C := C_returns_after) (m := 40) (b := b_returns_after) (st := s_returns_after) a.A F (a.glo (by simp [fa])) bd_returns_after (by decide) sc_returns_after rfl c_returns_after q_returns_after ks_nil (fs_cons (at_unlike_of a) (by decide) (fs_cons (at_turned_by a) (by decide) fs_nil)) (fun b hb => nomatch hb) (fun h => nomatch h) (fun h => nomatch h) (fun h => nomatch h) rfl
theorem at_unlike_time (a : All w K mg base h) : At w K mg base 30 "unlike_time" ["one", "other"] := by
  obtain ⟨fd, F⟩ := a.c.t.d.def_ 11 (d := d_unlike_time) rfl
  exact fnAt_of (k := 24) (C := C_unlike_time) (m := 40) (b := b_unlike_time) (st := s_unlike_time) a.A F (a.glo (by simp [fa])) bd_unlike_time (by decide) sc_unlike_time rfl c_unlike_time q_unlike_time ks_nil (fs_cons (at_need_table a) (by decide) (fs_cons (at_unlike_of a) (by decide) fs_nil)) (fun b hb => nomatch hb) (fun h => nomatch h) (fun h => nomatch h) (fun h => nomatch h) rfl
theorem at_same_for_ever (a : All w K mg base h) : At w K mg base 30 "same_for_ever" ["one", "other"] := by
  obtain ⟨fd, F⟩ := a.c.t.d.def_ 12 (d := d_same_for_ever) rfl
  exact fnAt_of (k := 24) (C := C_same_for_ever) (m := 40) (b := b_same_for_ever) (st := s_same_for_ever) a.A F (a.glo (by simp [fa])) bd_same_for_ever (by decide) sc_same_for_ever rfl c_same_for_ever q_same_for_ever ks_nil (fs_cons (at_need_table a) (by decide) (fs_cons (at_unlike_of a) (by decide) fs_nil)) (fun b hb => nomatch hb) (fun h => nomatch h) (fun h => nomatch h) (fun h => nomatch h) rfl
theorem at_least_period (a : All w K mg base h) : At w K mg base 30 "least_period" ["table"] := by
  obtain ⟨fd, F⟩ := a.c.t.d.def_ 14 (d := d_least_period) rfl
  exact fnAt_of (k := 24) (C := C_least_period) (m := 40) (b := b_least_period) (st := s_least_period) a.A F (a.glo (by simp [fa])) bd_least_period (by decide) sc_least_period rfl c_least_period q_least_period (ks_int (a.int (by simp [fa])) ks_nil) (fs_cons (at_need_table a) (by decide) (fs_cons (at_cycle_of a) (by decide) (fs_cons (at_returns_after a) (by decide) fs_nil))) (fun b hb => nomatch hb) (fun h => nomatch h) (fun h => nomatch h) (fun h => nomatch h) rfl
theorem rf_law (a : All w K mg base h) {k : Nat} : true = true → ∀ X G, InM (PySem.Challenge.rw_tidemaker_k01_whole_for_ever).prog w K mg base X → Room (k + 5) X.A → G.K = K → G.T = tabT K tf → G.C = bC K → TabX X G true → RefX X G (k + 2) := fun _ X G hM hr e1 e2 e3 tb => by
  obtain ⟨fd, F⟩ := a.c.t.d.def_ 18 (d := d__law_refused) rfl
  obtain ⟨fI, cc, cda, bad⟩ := a.A.bad
  have B : BindAll "_law_refused" (defArgs s__law_refused) (defBody s__law_refused) (defScope s__law_refused) ["call"] := fun kV doc pm an cdv ct n us ws hn hu hw => match n, us, ws, hn, hu, hw with | 0, [], [a0], _, _, _ => rfl | 1, [a0], [], _, _, _ => rfl
  obtain ⟨_, bb⟩ := binds_of (x := "_law_refused") (st := s__law_refused) F (by decide) B
  obtain ⟨oc, od, dV, kV, doc, pm, an, cdv, ct, osl, rfl, lk, hcd, _, _⟩ := F.ex
  have hg := a.glo (x := "_law_refused") (by simp [fa])
  exact ref_x (fI := fI) (cc := cc) (cda := cda) (by rw [hM.prog, hM.K, hM.mg, e3]; exact bad) (by rw [hM.mg]; exact hg) (by rw [hM.K]; exact F.kp) (by rw [hM.K]; exact lk) (by rw [hM.K]; exact hcd) (by rw [hM.K]; exact bb) ⟨rfl, rfl, rfl, by decide +kernel, rfl, by decide +kernel, by decide +kernel⟩ (.inl rfl) rfl rfl tb (hr.mono (by omega))
theorem at__law_right (a : All w K mg base h) : At w K mg base 36 "_law_right" ["dice"] := by
  obtain ⟨fd, F⟩ := a.c.t.d.def_ 25 (d := d__law_right) rfl
  exact fnAt_of (k := 30) (C := C__law_right) (m := 40) (b := b__law_right) (st := s__law_right) a.A F (a.glo (by simp [fa])) bd__law_right (by decide) sc__law_right rfl c__law_right q__law_right ks_nil (fs_cons (at__law_other a) (by decide) (fs_cons (at__law_first a) (by decide) (fs_cons (at__law_cycle a) (by decide) (fs_cons (at_least_period a) (by decide) (fs_cons (at_unlike_time a) (by decide) (fs_cons (at_same_for_ever a) (by decide) (fs_cons (at__law_comes a) (by decide) (fs_cons (at__law_roll a) (by decide) fs_nil)))))))) (fun b hb => by cases hb; simp [tf]) (rf_law a) (fun _ => rfl) (fun h => nomatch h) rfl
theorem ok_law (a : All w K mg base h) {fd : FuncData} (F : FunD K "law" "law" (defArgs s_law) (defBody s_law) (defScope s_law) [] [] (He.fAd K ("law", none)) fd) : FnOk (PySem.Challenge.rw_tidemaker_k01_whole_for_ever).prog w K mg base (L2.CX (PySem.Challenge.rw_tidemaker_k01_whole_for_ever).prog w) 42 (He.fAd K ("law", none)) fd ["script"] (spQ K (tabT K tf) (bC K) 1 (· = none) (Sg "law")) :=
  fnQ_of (k := 36) (C := C_law) (m := 40) (b := b_law) (st := s_law) a.A F sc_law rfl c_law q_law ks_nil (fs_cons (at__law_right a) (by decide) (fs_cons (at__law_dice a) (by decide) fs_nil)) (fun b hb => nomatch hb) (fun h => nomatch h) (fun h => nomatch h) (fun h => nomatch h) (fun _ ca h => h)
theorem facts {f : Addr} (X : K.In h) (G : h.Ns mainGlobals mg) (hfa : mg ("law" : Str) = some (.ref f)) (c : He.SaysX fa fn [] tfn ex w h K) : LamX.LawAtS PySem.Challenge.rw_tidemaker_k01_whole_for_ever w K (L2.CX (PySem.Challenge.rw_tidemaker_k01_whole_for_ever).prog w) 42 63 "script" mg f h := by
  obtain ⟨fd, F⟩ := c.t.d.def_ 26 (d := d_law) rfl
  have gl : mg ("law" : Str) = some (.ref (He.fAd K ("law", none))) := He.glo_ok X G (c.t.d.facts (f := .glo "law") (by simp [fa]))
  have e := hfa.symm.trans gl
  cases e
  have B := FunD.bindsA (ps := ["script"]) F fun _ _ _ _ _ _ us hl => match us, hl with | [_], _ => rfl
  have hex := c.more
  unfold ex at hex
  simp only [Bool.and_eq_true, decide_eq_true_eq] at hex
  refine law_at (n := 63) (sp := Sg "law") (Cc := bC K) (tf := tf) X c (fun s v => B s [v] rfl) (fun ns h1 h2 => sp_law_top ns h1 h2) fun base _ _ hT => ok_law (h := h) ⟨gd_of (fun x hx => ?_) hex.1 (He.glo_ok X G (c.t.d.facts (f := .glo "BadArgument") (by simp [fa]))) (He.free_ok X G (c.t.d.facts (f := .free "super") (by simp [fa]))) rfl (by have z := hex.2; exact z) hT, c, X, G⟩ F
  simp only [bnames, List.mem_cons, List.not_mem_nil, or_false] at hx
  rcases hx with rfl | rfl | rfl | rfl | rfl | rfl | rfl | rfl | rfl | rfl | rfl | rfl | rfl | rfl | rfl <;> exact He.free_ok X G (c.t.d.facts (f := .free _) (by simp [fa]))
end
end L01
open PySem PySem.W PySem.Calls PyProof.Rows
theorem PySem.Challenge.cw_tidemaker_k01_whole_for_ever_holds : PySem.Challenge.rw_tidemaker_k01_whole_for_ever.Holds := by
  w_on; o_law
  refine HandSHeadRun.head_any (r := OpenLaw.row PySem.Challenge.rw_tidemaker_k01_whole_for_ever) (q := view (OpenLaw.row PySem.Challenge.rw_tidemaker_k01_whole_for_ever).prog [33]) (H := L01.hk) (ob := L01.ob) (M := 8000) (loose := L01.loose) (d := HandSHeadRun.topDef (OpenLaw.row PySem.Challenge.rw_tidemaker_k01_whole_for_ever).prog 33) (kwd := []) L01.ob_eq
    (by kernel_rfl) (fun s => by kernel_rfl) L01.run (by kernel_rfl) (by kernel_rfl) (by kernel_rfl) (by rfl) (by first | assumption | decide +kernel) (by decide +kernel) ⟨rfl, rfl, rfl, rfl, rfl, by decide +kernel⟩ ?hw ?hc
  case hw => w_witness2
  case hc =>
    refine LamX.walk_ofTsE (l := PySem.Challenge.rw_tidemaker_k01_whole_for_ever) (n := 63) (k := 42) (x := "script") (CX := L2.CX (PySem.Challenge.rw_tidemaker_k01_whole_for_ever).prog) rfl (by decide) (by kernel_rfl) ⟨rfl, by decide, by decide⟩ ?F (fun _ _ _ _ _ ⟨_, _, _, _, _, _, _, _, _, _, _, _, z⟩ => z)
    intro w mg fa h Y G hmg0
    obtain ⟨K, KX, c⟩ := Y
    have hmg : mg ("law" : PySem.Str) = some (.ref fa) := by
      have e : (HandSHeadRun.topDef (OpenLaw.row PySem.Challenge.rw_tidemaker_k01_whole_for_ever).prog 33).name = ("law" : PySem.Str) := by kernel_rfl
      rw [← e]
      exact hmg0
    exact ⟨K, KX, L01.facts KX G hmg c⟩
end
