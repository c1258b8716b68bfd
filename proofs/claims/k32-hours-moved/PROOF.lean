import PyProof.Rows.All
import Wide.All
import OpenK.AllK
import Wide.FinOn
import HandS.ForMost
import HandS.ForExc
import HandS.Lambda
import HandS.Wide
import HandS.TupAny
import HandS.IsInst
import HandS.Style
import HandS.Defaults
import HandS.ExcCtx
import HandS.Hot
import HandS.HotCalls
import HandS.ExcIs
import HandS.TryOnly
import HandS.HeadHook1
import HandS.Conv
import HandS.HeadHook4
import HandS.HeadWalk
import HandS.Words
import HandS.SortInts
import HandS.Dict
import HandS.More
import HandS.Strs
import HandS.SetFor
import HandS.ListEq
import HandS.Iter
import KE.SortData
import HandS.Finally
import PyProof.NeKinds
import HandS.Small
import KE.SortKeyHeap
import KE.DataMinMax
import PySem.Challenge.RW_cordboard_k32_whole_hours_moved
import KE.KStateDown
import Lean
import HandS.Ends
import HandS.WordsExc
import HandS.Head0
import HandS.Head1
import HandS.Head2
import HandS.HeadEnd
set_option Elab.async false
set_option linter.all false
set_option maxRecDepth 100000
set_option autoImplicit false
/-! The ideal domain: values, objects, the ideal heap; how the abstract heap of the hand layer shows it. -/
namespace DL
open PySem PySem.Spec PyProof.Rows L2

/-! ### tables: words, classes, fields -/
def words0 : List Str := ["BadNumber", "BadWord", "Busy", "NoPlug", "InPlace", "BadCalls", "BadRows", "BadText", "Nothing", "BadRate", "NoEntry", "other", "back", "front", "hook", "plug", "pull", "listen", "ring", "tick", "undo", "dark", "lit", "winks", "busy", "no cord", "", "call", "paid", "rows"]
def words1 : List Str := ["given", "past", "ahead", "rate", "number", "truth", "end", "yes", "no", "x", "on", "off", "0", "1", "9", "5", "01", "side", "dance", "spoilt", " ", "-", "0123456789", " tick 1", "hook 0", "hook 0 True", "hook 00 yes", "plug 0 back yes", "tick -1", "undo "]
def words : List Str := words0 ++ words1
def nW : Nat := 60
def wds (n : Nat) : Str := words.getD n ""
theorem words_len : words.length = nW := by decide +kernel
theorem words_ok : words.all PyData.strOk = true := by decide +kernel
theorem words_nd : ∀ i, i < nW → ∀ j, j < nW → wds i = wds j → i = j := by decide +kernel
/-- classes by numbers: own ones below 10, errors from 10 on -/
def cnm : Nat → Str
  | 0 => "Line"
  | 1 => "Cord"
  | 2 => "Board"
  | 3 => "Hand"
  | 4 => "Accounts"
  | 10 => "BoardError"
  | 11 => "BadNumber"
  | 12 => "BadWord"
  | 13 => "Busy"
  | 14 => "NoPlug"
  | 15 => "InPlace"
  | 16 => "BadCalls"
  | 17 => "BadRows"
  | 18 => "BadText"
  | 19 => "Nothing"
  | 20 => "BadRate"
  | 21 => "NoEntry"
  | _ => ""
def flds : Nat → List Str
  | 0 => ["is_off", "since", "on_step", "off_step", "has_flashed"]
  | 1 => ["lines", "put_step", "is_heard", "is_ringing", "heard_step", "call"]
  | 2 => ["lines_here", "cords_here", "clock", "step", "done", "past"]
  | 3 => ["board", "wishes", "heard", "rung", "told_no"]
  | 4 => ["rate", "entries", "given", "past", "ahead"]
  | _ => []
/-- keys of dicts: ints and words -/
abbrev DK := Sum Int Nat
def dkey : DK → Key
  | .inl i => .inl i
  | .inr n => .inr (wds n)

inductive D where
  | non | bl (b : Bool) | int (i : Int) | str (s : Str) | wd (n : Nat) | tup (xs : List D) | vl (xs : List D) | fl (xs : List D) | ref (i : Nat)
  deriving Inhabited

inductive O where
  | lst (xs : List D) | dct (kvs : List (DK × D)) | ins (c : Nat) (fs : List D) | frz (kvs : List (DK × D))
  deriving Inhabited

abbrev IH := List O
abbrev En := List (Option D)

inductive Out (α : Type) where
  | ok (a : α) (h : IH) | err (c : Nat) (h : IH) | bad

inductive SO where
  | nx (en : En) (h : IH) | rt (d : D) (h : IH) | bk (en : En) (h : IH) | ct (en : En) (h : IH) | err (c : Nat) (h : IH) | bad

structure G where
  K : PySem.W.Frag
  mg : Str → Option Value
  T : List (Addr × Str)

/-- a list, a tuple of the written part -/
def KL (K : PySem.W.Frag) (a : Addr) (xs : List V) : Prop :=
  ∃ (o : Obj) (its : Array Value) (n : Nat), K.lookup a = some o ∧ o.cls = .type "list" ∧ o.dict = none ∧ o.data = .seq its n ∧ its.size ≤ sizeLine ∧ Vals xs its.toList
def KT (K : PySem.W.Frag) (a : Addr) (xs : List V) : Prop :=
  ∃ (o : Obj) (its : Array Value) (n : Nat), K.lookup a = some o ∧ o.cls = .type "tuple" ∧ o.data = .seq its n ∧ its.size ≤ sizeLine ∧ Vals xs its.toList

/-- where the ideal heap's objects stand; P: addresses that no value shows (a comprehension's list in the making) -/
structure Mp where
  P : Addr → Prop
  pt : Nat → Addr
  F : Addr → Option HO
instance : CoeFun Mp (fun _ => Nat → Addr) := ⟨Mp.pt⟩
def Off (m : Mp) (n : Nat) (a : Addr) : Prop := ¬ m.P a ∧ ∀ i, i < n → m i ≠ a

mutual
inductive Rv (K : PySem.W.Frag) (m : Mp) (n : Nat) (H : Hp) : V → D → Prop
  | non : Rv K m n H .non .non
  | bl (b : Bool) : Rv K m n H (.bl b) (.bl b)
  | int (i : Int) : Rv K m n H (.int i) (.int i)
  | str (x : Str) : Rv K m n H (.str x) (.str x)
  | wd {x : Str} {n0 : Nat} : n0 < nW → x = wds n0 → Rv K m n H (.str x) (.wd n0)
  | tup {a : Addr} {vs : List V} {ds : List D} : (KT K a vs ∨ (Rd H a (.tup vs) ∧ Off m n a)) → Rvs K m n H vs ds → Rv K m n H (.ref a) (.tup ds)
  | vl {a : Addr} {vs : List V} {ds : List D} : H a = some (.lst vs) → Off m n a → Rvs K m n H vs ds → Rv K m n H (.ref a) (.vl ds)
  | fl {a : Addr} {vs : List V} {ds : List D} : (KL K a vs ∨ (Rd H a (.lst vs) ∧ Off m n a)) → Rvs K m n H vs ds → Rv K m n H (.ref a) (.fl ds)
  | ref {i : Nat} : i < n → Rv K m n H (.ref (m i)) (.ref i)
inductive Rvs (K : PySem.W.Frag) (m : Mp) (n : Nat) (H : Hp) : List V → List D → Prop
  | nil : Rvs K m n H [] []
  | cons {v : V} {vs : List V} {d : D} {ds : List D} : Rv K m n H v d → Rvs K m n H vs ds → Rvs K m n H (v :: vs) (d :: ds)
end

def NT (o : HO) : Prop := ∀ ps, o ≠ .tbl ps

/-- the ideal heap has grown, what is not shown by it stands -/
structure Ex (m : Mp) (n : Nat) (H : Hp) (m' : Mp) (n' : Nat) (H' : Hp) : Prop where
  le : n ≤ n'
  prot : (∀ a, m.P a → m'.P a) ∧ ∀ a, m'.P a → m.P a ∨ ∀ o, H a = some o → ¬ NT o
  same : ∀ i, i < n → m' i = m i
  new : ∀ i, n ≤ i → i < n' → ∀ o, H (m' i) = some o → ¬ NT o
  keep : ∀ a o, H a = some o → (∀ i, i < n → m i ≠ a) → NT o → H' a = some o
  dom : ∀ a o, H a = some o → NT o → ∃ o', H' a = some o' ∧ NT o'
  fz : ∀ a u, m.F a = some u → m'.F a = some u

theorem Ex.refl (m : Mp) (n : Nat) (H : Hp) : Ex m n H m n H :=
  ⟨Nat.le_refl _, ⟨fun _ z => z, fun _ z => .inl z⟩, fun _ _ => rfl, fun i h1 h2 => absurd (Nat.lt_of_lt_of_le h2 h1) (Nat.lt_irrefl _), fun _ _ h _ _ => h, fun _ o h k => ⟨o, h, k⟩, fun _ _ z => z⟩

theorem Ex.offI {m m' : Mp} {n n' : Nat} {H H' : Hp} (e : Ex m n H m' n' H') {a : Addr} {o : HO} (h : H a = some o) (k : NT o) (q : ∀ i, i < n → m i ≠ a) : ∀ i, i < n' → m' i ≠ a := fun i hi z => by
  by_cases hn : i < n
  · rw [e.same i hn] at z
    exact q i hn z
  · rw [← z] at h
    exact e.new i (by omega) hi o h k
theorem Ex.off {m m' : Mp} {n n' : Nat} {H H' : Hp} (e : Ex m n H m' n' H') {a : Addr} {o : HO} (h : H a = some o) (k : NT o) (q : Off m n a) : Off m' n' a := ⟨fun z => (e.prot.2 a z).elim q.1 fun y => y o h k, e.offI h k q.2⟩

theorem Ex.trans {m m1 m2 : Mp} {n n1 n2 : Nat} {H H1 H2 : Hp} (a : Ex m n H m1 n1 H1) (b : Ex m1 n1 H1 m2 n2 H2) : Ex m n H m2 n2 H2 where
  le := Nat.le_trans a.le b.le
  prot := ⟨fun c z => b.prot.1 c (a.prot.1 c z), fun c z => (b.prot.2 c z).elim (a.prot.2 c) fun y => .inr fun o ho k => by
    obtain ⟨o', h', k'⟩ := a.dom c o ho k
    exact y o' h' k'⟩
  same := fun i hi => (b.same i (Nat.lt_of_lt_of_le hi a.le)).trans (a.same i hi)
  new := fun i h1 h2 o ho k => by
    by_cases hn : i < n1
    · rw [b.same i hn] at ho
      exact a.new i h1 hn o ho k
    · obtain ⟨o', h', k'⟩ := a.dom _ _ ho k
      exact b.new i (by omega) h2 o' h' k'
  keep := fun c o h q k => b.keep c o (a.keep c o h q k) (a.offI h k q) k
  dom := fun c o h k => by
    obtain ⟨o', h', k'⟩ := a.dom c o h k
    exact b.dom c o' h' k'
  fz := fun c u z => b.fz c u (a.fz c u z)

theorem NT.lst {xs : List V} : NT (.lst xs) := fun _ z => by cases z
theorem NT.tup {xs : List V} : NT (.tup xs) := fun _ z => by cases z
theorem NT.dK {xs : List (Key × V)} : NT (.dK xs) := fun _ z => by cases z
theorem NT.ins {C dx : Addr} {fs : List (Str × V)} : NT (.ins C dx fs) := fun _ z => by cases z
theorem NT.own {x : Addr} : NT (.own x) := fun _ z => by cases z
theorem NT.frz {o : Obj} {u : HO} : NT (.frz o u) := fun _ z => by cases z

theorem Rd.off {m m' : Mp} {n n' : Nat} {H H' : Hp} (e : Ex m n H m' n' H') {a : Addr} {u : HO} (hu : NT u) (r : Rd H a u) (q : Off m n a) : Rd H' a u ∧ Off m' n' a := by
  rcases r with h | ⟨o, h⟩
  · exact ⟨.inl (e.keep _ _ h q.2 hu), e.off h hu q⟩
  · exact ⟨.inr ⟨o, e.keep _ _ h q.2 NT.frz⟩, e.off h NT.frz q⟩

section
variable {K : PySem.W.Frag} {m m' : Mp} {n n' : Nat} {H H' : Hp}
mutual
theorem Rv.mono (e : Ex m n H m' n' H') : ∀ {v : V} {d : D}, Rv K m n H v d → Rv K m' n' H' v d
  | _, _, .non => .non
  | _, _, .bl b => .bl b
  | _, _, .int i => .int i
  | _, _, .str x => .str x
  | _, _, .wd h1 h2 => .wd h1 h2
  | _, _, .tup (.inl h) r => .tup (.inl h) (Rvs.mono e r)
  | _, _, .tup (.inr h) r => .tup (.inr (Rd.off e NT.tup h.1 h.2)) (Rvs.mono e r)
  | _, _, .vl h q r => .vl (e.keep _ _ h q.2 NT.lst) (e.off h NT.lst q) (Rvs.mono e r)
  | _, _, .fl (.inl h) r => .fl (.inl h) (Rvs.mono e r)
  | _, _, .fl (.inr h) r => .fl (.inr (Rd.off e NT.lst h.1 h.2)) (Rvs.mono e r)
  | _, _, .ref (i := i) hi => by
    rw [← e.same i hi]
    exact .ref (Nat.lt_of_lt_of_le hi e.le)
theorem Rvs.mono (e : Ex m n H m' n' H') : ∀ {vs : List V} {ds : List D}, Rvs K m n H vs ds → Rvs K m' n' H' vs ds
  | _, _, .nil => .nil
  | _, _, .cons a b => .cons (Rv.mono e a) (Rvs.mono e b)
end
theorem Rvs.length : ∀ {vs : List V} {ds : List D}, Rvs K m n H vs ds → vs.length = ds.length
  | _, _, .nil => rfl
  | _, _, .cons _ b => by simp [Rvs.length b]
theorem Rvs.get : ∀ {vs : List V} {ds : List D} {i : Nat} {d : D}, Rvs K m n H vs ds → ds[i]? = some d → ∃ v, vs[i]? = some v ∧ Rv K m n H v d
  | _, _, _, _, .nil, e => by simp at e
  | _, _, 0, _, .cons r _, e => by simp at e; subst e; exact ⟨_, rfl, r⟩
  | _, _, i + 1, d, .cons _ t, e => by
    obtain ⟨v, h1, h2⟩ := Rvs.get (i := i) (d := d) t (by simpa using e)
    exact ⟨v, by simpa using h1, h2⟩
theorem Rvs.get' : ∀ {vs : List V} {ds : List D} {i : Nat} {v : V}, Rvs K m n H vs ds → vs[i]? = some v → ∃ d, ds[i]? = some d ∧ Rv K m n H v d
  | _, _, _, _, .nil, e => by simp at e
  | _, _, 0, _, .cons r _, e => by simp at e; subst e; exact ⟨_, rfl, r⟩
  | _, _, i + 1, d, .cons _ t, e => by
    obtain ⟨v, h1, h2⟩ := Rvs.get' (i := i) (v := d) t (by simpa using e)
    exact ⟨v, by simpa using h1, h2⟩
theorem Rvs.append : ∀ {vs ws : List V} {ds es : List D}, Rvs K m n H vs ds → Rvs K m n H ws es → Rvs K m n H (vs ++ ws) (ds ++ es)
  | _, _, _, _, .nil, s => s
  | _, _, _, _, .cons r t, s => .cons r (Rvs.append t s)
theorem Rvs.set {v : V} {d : D} (r : Rv K m n H v d) : ∀ {vs : List V} {ds : List D} (i : Nat), Rvs K m n H vs ds → Rvs K m n H (vs.set i v) (ds.set i d)
  | _, _, _, .nil => .nil
  | _, _, 0, .cons _ t => .cons r t
  | _, _, i + 1, .cons q t => .cons q (Rvs.set r i t)
theorem Rvs.take : ∀ {vs : List V} {ds : List D} (k : Nat), Rvs K m n H vs ds → Rvs K m n H (vs.take k) (ds.take k)
  | _, _, 0, _ => .nil
  | _, _, _ + 1, .nil => .nil
  | _, _, k + 1, .cons r t => .cons r (Rvs.take k t)
theorem Rvs.drop : ∀ {vs : List V} {ds : List D} (k : Nat), Rvs K m n H vs ds → Rvs K m n H (vs.drop k) (ds.drop k)
  | _, _, 0, r => r
  | _, _, _ + 1, .nil => .nil
  | _, _, k + 1, .cons _ t => Rvs.drop k t
theorem Rvs.erase : ∀ {vs : List V} {ds : List D} (k : Nat), Rvs K m n H vs ds → Rvs K m n H (vs.eraseIdx k) (ds.eraseIdx k)
  | _, _, _, .nil => .nil
  | _, _, 0, .cons _ t => t
  | _, _, k + 1, .cons r t => .cons r (Rvs.erase k t)
theorem Rvs.dropLast {vs : List V} {ds : List D} (r : Rvs K m n H vs ds) : Rvs K m n H vs.dropLast ds.dropLast := by
  rw [List.dropLast_eq_take, List.dropLast_eq_take, r.length]
  exact r.take _
theorem Rvs.reverse : ∀ {vs : List V} {ds : List D}, Rvs K m n H vs ds → Rvs K m n H vs.reverse ds.reverse
  | _, _, .nil => .nil
  | _, _, .cons r t => by
    rw [List.reverse_cons, List.reverse_cons]
    exact Rvs.append (Rvs.reverse t) (.cons r .nil)
theorem Rvs.ints : ∀ {vs : List V} {ns : List Int}, Rvs K m n H vs (ns.map D.int) → vs = ns.map V.int
  | _, [], r => by cases r; rfl
  | _, i :: ns, r => by
    cases r with
    | cons a b =>
      cases a
      rw [Rvs.ints b]
      rfl
theorem Rvs.of_ints : ∀ (ns : List Int), Rvs K m n H (ns.map V.int) (ns.map D.int)
  | [] => .nil
  | i :: ns => .cons (.int i) (Rvs.of_ints ns)
theorem Rvs.bls : ∀ {vs : List V} {bs : List Bool}, Rvs K m n H vs (bs.map D.bl) → vs = bs.map V.bl
  | _, [], r => by cases r; rfl
  | _, i :: ns, r => by
    cases r with
    | cons a b =>
      cases a
      rw [Rvs.bls b]
      rfl
theorem Rvs.strs : ∀ {vs : List V} {bs : List Str}, Rvs K m n H vs (bs.map D.str) → vs = bs.map V.str
  | _, [], r => by cases r; rfl
  | _, i :: ns, r => by
    cases r with
    | cons a b =>
      cases a
      rw [Rvs.strs b]
      rfl
end

/-- a dict's pairs -/
def RPs (K : PySem.W.Frag) (m : Mp) (n : Nat) (H : Hp) (l : List (Key × V)) (l' : List (DK × D)) : Prop := Paired (fun (p : Key × V) (q : DK × D) => p.1 = dkey q.1 ∧ (∀ w, q.1 = .inr w → w < nW) ∧ Rv K m n H p.2 q.2) l l'
theorem RPs.mono {K : PySem.W.Frag} {m m' : Mp} {n n' : Nat} {H H' : Hp} (e : Ex m n H m' n' H') {l : List (Key × V)} {l' : List (DK × D)} (r : RPs K m n H l l') : RPs K m' n' H' l l' := Paired.mapP r fun _ _ z => ⟨z.1, z.2.1, z.2.2.mono e⟩

/-- an ideal object shown at an address -/
def RO (g : G) (m : Mp) (n : Nat) (H : Hp) (a : Addr) : O → Prop
  | .lst ds => ∃ vs, H a = some (.lst vs) ∧ Rvs g.K m n H vs ds
  | .dct kvs => ∃ kws, H a = some (.dK kws) ∧ RPs g.K m n H kws kvs
  | .ins c fs => ∃ C dx fvs, H a = some (.ins C dx fvs) ∧ g.mg (cnm c) = some (.ref C) ∧ fvs.map (·.1) = (flds c).take fs.length ∧ Rvs g.K m n H (fvs.map (·.2)) fs
  | .frz kvs => ∃ od kws, H a = some (.frz od (.dK kws)) ∧ m.F a = some (.frz od (.dK kws)) ∧ RPs g.K m n H kws kvs

structure RH (g : G) (m : Mp) (h : IH) (H : Hp) : Prop where
  obj : ∀ (i : Nat) (o : O), h[i]? = some o → RO g m h.length H (m i) o
  inj : ∀ i j, i < h.length → j < h.length → m i = m j → i = j
  tab : LamX.Tabs g.T H
  prt : ∀ a, m.P a → ∃ o, H a = some o ∧ NT o
  npr : ∀ i, i < h.length → ¬ m.P (m i)
  fz1 : ∀ (i : Nat) (o : O), h[i]? = some o → (∀ kvs, o ≠ .frz kvs) → m.F (m i) = none
  fz2 : ∀ a u, m.F a = some u → ∃ o, H a = some o ∧ NT o
  fz3 : ∀ a, m.P a → m.F a = none

theorem RO.is {g : G} {m : Mp} {n : Nat} {H : Hp} {a : Addr} {o : O} (r : RO g m n H a o) : ∃ u, H a = some u ∧ NT u := by
  cases o with
  | lst ds => obtain ⟨vs, h, _⟩ := r; exact ⟨_, h, NT.lst⟩
  | dct kvs => obtain ⟨vs, h, _⟩ := r; exact ⟨_, h, NT.dK⟩
  | ins c fs => obtain ⟨C, dx, fvs, h, _⟩ := r; exact ⟨_, h, NT.ins⟩
  | frz kvs => obtain ⟨od, vs, h, _⟩ := r; exact ⟨_, h, NT.frz⟩
theorem RH.is {g : G} {m : Mp} {h : IH} {H : Hp} (r : RH g m h H) {i : Nat} (hi : i < h.length) : ∃ u, H (m i) = some u ∧ NT u := (r.obj i h[i] (List.getElem?_eq_getElem hi)).is
theorem RH.off {g : G} {m : Mp} {h : IH} {H : Hp} (r : RH g m h H) {p : Addr} (hp : H p = none) : Off m h.length p := by
  refine ⟨fun z => ?_, fun i hi z => ?_⟩
  · obtain ⟨u, e, _⟩ := r.prt p z
    rw [hp] at e
    cases e
  · obtain ⟨u, e, _⟩ := r.is hi
    rw [z, hp] at e
    cases e
/-- the object's row of the heap is the same, the rest has moved on -/
theorem RO.mono {g : G} {m m' : Mp} {n n' : Nat} {H H' : Hp} (e : Ex m n H m' n' H') {a : Addr} {o : O} (r : RO g m n H a o) (q : H' a = H a) : RO g m' n' H' a o := by
  cases o with
  | lst ds => obtain ⟨vs, h, k⟩ := r; exact ⟨vs, q.trans h, k.mono e⟩
  | dct kvs => obtain ⟨vs, h, k⟩ := r; exact ⟨vs, q.trans h, k.mono e⟩
  | ins c fs => obtain ⟨C, dx, fvs, h, k, l, l2⟩ := r; exact ⟨C, dx, fvs, q.trans h, k, l, l2.mono e⟩
  | frz kvs => obtain ⟨od, vs, h, k0, k⟩ := r; exact ⟨od, vs, q.trans h, e.fz _ _ k0, k.mono e⟩

/-! ### a new object that is not of the ideal heap -/
theorem Ex.fresh {m : Mp} {n : Nat} {H : Hp} {p : Addr} {o : HO} (hp : H p = none) (ho : NT o) : Ex m n H m n (upd H p o) where
  le := Nat.le_refl _
  prot := ⟨fun _ z => z, fun _ z => .inl z⟩
  same := fun _ _ => rfl
  new := fun i h1 h2 => absurd (Nat.lt_of_lt_of_le h2 h1) (Nat.lt_irrefl _)
  keep := fun a u h _ _ => by rw [upd_ne (ne_of_none h hp)]; exact h
  dom := fun a u h k => ⟨u, by rw [upd_ne (ne_of_none h hp)]; exact h, k⟩
  fz := fun _ _ z => z
theorem RH.fresh {g : G} {m : Mp} {h : IH} {H : Hp} {p : Addr} {o : HO} (r : RH g m h H) (hp : H p = none) (ho : NT o) : RH g m h (upd H p o) where
  obj := fun i u hi => by
    have q := r.obj i u hi
    obtain ⟨z, e, _⟩ := q.is
    exact q.mono (Ex.fresh hp ho) (by rw [upd_ne (ne_of_none e hp)])
  inj := r.inj
  tab := r.tab.ext fun b u e => by rw [upd_ne (ne_of_none e hp)]; exact e
  prt := fun a z => by
    obtain ⟨u, e, k⟩ := r.prt a z
    exact ⟨u, by rw [upd_ne (ne_of_none e hp)]; exact e, k⟩
  npr := r.npr
  fz1 := r.fz1
  fz2 := fun a u z => by
    obtain ⟨o, e, k⟩ := r.fz2 a u z
    exact ⟨o, by rw [upd_ne (ne_of_none e hp)]; exact e, k⟩
  fz3 := r.fz3
/-! ### a new object of the ideal heap -/
def put (m : Mp) (n : Nat) (p : Addr) : Mp := ⟨m.P, fun i => if i = n then p else m i, m.F⟩
theorem put_same {m : Mp} {n : Nat} {p : Addr} : put m n p n = p := if_pos rfl
theorem put_ne {m : Mp} {n i : Nat} {p : Addr} (h : i ≠ n) : put m n p i = m i := if_neg h
theorem Ex.alloc {m : Mp} {n : Nat} {H H' : Hp} {p : Addr} (hp : H p = none) (hk : ∀ a o, H a = some o → H' a = some o) : Ex m n H (put m n p) (n + 1) H' where
  le := Nat.le_succ _
  prot := ⟨fun _ z => z, fun _ z => .inl z⟩
  same := fun i hi => put_ne (Nat.ne_of_lt hi)
  new := fun i h1 h2 o e => by
    have : i = n := by omega
    subst this
    rw [put_same, hp] at e
    cases e
  keep := fun a u h _ _ => hk _ _ h
  dom := fun a u h k => ⟨u, hk _ _ h, k⟩
  fz := fun _ _ z => z
theorem RH.alloc {g : G} {m : Mp} {h : IH} {H H' : Hp} {p : Addr} {o : O} (r : RH g m h H) (hp : H p = none) (hk : ∀ a o, H a = some o → H' a = some o) (ho : RO g (put m h.length p) (h.length + 1) H' p o) :
    RH g (put m h.length p) (h ++ [o]) H' where
  obj := fun i u hi => by
    rw [List.length_append, List.length_singleton]
    by_cases hl : i < h.length
    · rw [List.getElem?_append_left hl] at hi
      have q := r.obj i u hi
      obtain ⟨z, e, _⟩ := q.is
      rw [put_ne (Nat.ne_of_lt hl)]
      exact q.mono (Ex.alloc hp hk) (by rw [hk _ _ e, e])
    · have : i = h.length := by
        have := (List.getElem?_eq_some_iff.mp hi).1
        rw [List.length_append, List.length_singleton] at this
        omega
      subst this
      simp at hi
      subst hi
      rw [put_same]
      exact ho
  inj := fun i j hi hj e => by
    rw [List.length_append, List.length_singleton] at hi hj
    by_cases h1 : i = h.length
    · by_cases h2 : j = h.length
      · rw [h1, h2]
      · rw [h1, put_same, put_ne h2] at e
        exact absurd e.symm ((r.off hp).2 j (by omega))
    · by_cases h2 : j = h.length
      · rw [h2, put_same, put_ne h1] at e
        exact absurd e ((r.off hp).2 i (by omega))
      · rw [put_ne h1, put_ne h2] at e
        exact r.inj i j (by omega) (by omega) e
  tab := r.tab.ext hk
  prt := fun a z => by
    obtain ⟨u, e, k⟩ := r.prt a z
    exact ⟨u, hk _ _ e, k⟩
  npr := fun i hi => by
    rw [List.length_append, List.length_singleton] at hi
    by_cases h1 : i = h.length
    · rw [h1, put_same]
      exact (r.off hp).1
    · rw [put_ne h1]
      exact r.npr i (by omega)
  fz1 := fun i u hi nf => by
    show m.F (put m h.length p i) = none
    by_cases hl : i < h.length
    · rw [List.getElem?_append_left hl] at hi
      rw [put_ne (Nat.ne_of_lt hl)]
      exact r.fz1 i u hi nf
    · have : i = h.length := by
        have := (List.getElem?_eq_some_iff.mp hi).1
        rw [List.length_append, List.length_singleton] at this
        omega
      subst this
      rw [put_same]
      cases z : m.F p with
      | none => rfl
      | some u =>
        obtain ⟨o, e, _⟩ := r.fz2 p u z
        rw [hp] at e
        cases e
  fz2 := fun a u z => by
    obtain ⟨o, e, k⟩ := r.fz2 a u z
    exact ⟨o, hk _ _ e, k⟩
  fz3 := r.fz3
/-! ### an object of the ideal heap is changed -/
theorem Ex.store {g : G} {m : Mp} {h : IH} {H : Hp} {i : Nat} {o : HO} (r : RH g m h H) (hi : i < h.length) (ho : NT o) : Ex m h.length H m h.length (upd H (m i) o) where
  le := Nat.le_refl _
  prot := ⟨fun _ z => z, fun _ z => .inl z⟩
  same := fun _ _ => rfl
  new := fun i h1 h2 => absurd (Nat.lt_of_lt_of_le h2 h1) (Nat.lt_irrefl _)
  keep := fun a u h q _ => by rw [upd_ne (Ne.symm (q i hi))]; exact h
  dom := fun a u h k => by
    by_cases ha : a = m i
    · exact ⟨o, by rw [ha, upd_same], ho⟩
    · exact ⟨u, by rw [upd_ne ha]; exact h, k⟩
  fz := fun _ _ z => z
theorem tabs_store {T : List (Addr × Str)} {H : Hp} {a : Addr} {o u : HO} (t : LamX.Tabs T H) (ha : H a = some u) (h1 : NT u) (h2 : ∀ φ, u ≠ .ext φ) : LamX.Tabs T (upd H a o) := fun p hp => by
  obtain ⟨ps, e1, e2, e3⟩ := t p hp
  refine ⟨ps, ?_, e2, fun pos cv hc => ?_⟩
  · rw [upd_ne (fun z => by rw [z, ha] at e1; exact h1 _ (Option.some.inj e1))]
    exact e1
  · obtain ⟨c, q1, q2⟩ := e3 pos cv hc
    refine ⟨c, q1, ?_⟩
    rw [upd_ne (fun z => by rw [z, ha] at q2; exact h2 _ (Option.some.inj q2))]
    exact q2
theorem RH.store {g : G} {m : Mp} {h : IH} {H : Hp} {i : Nat} {o : HO} {u : O} (r : RH g m h H) (hi : i < h.length) (ho : NT o) (hf : (∀ kvs, u ≠ .frz kvs) → m.F (m i) = none) (hu : RO g m h.length (upd H (m i) o) (m i) u) : RH g m (h.set i u) (upd H (m i) o) where
  obj := fun j w hj => by
    rw [List.length_set]
    by_cases hij : j = i
    · subst hij
      rw [List.getElem?_set_self hi] at hj
      cases hj
      exact hu
    · rw [List.getElem?_set_ne (Ne.symm hij)] at hj
      have q := r.obj j w hj
      have hjl : j < h.length := (List.getElem?_eq_some_iff.mp hj).1
      exact q.mono (Ex.store r hi ho) (by rw [upd_ne (fun z => hij (r.inj j i hjl hi z))])
  inj := fun a b ha hb => r.inj a b (by rwa [List.length_set] at ha) (by rwa [List.length_set] at hb)
  tab := by
    have q := r.obj i h[i] (List.getElem?_eq_getElem hi)
    cases e : h[i] with
    | lst ds => rw [e] at q; obtain ⟨vs, z, _⟩ := q; exact tabs_store r.tab z NT.lst (fun _ y => by cases y)
    | dct kvs => rw [e] at q; obtain ⟨vs, z, _⟩ := q; exact tabs_store r.tab z NT.dK (fun _ y => by cases y)
    | ins c fs => rw [e] at q; obtain ⟨C, dx, fvs, z, _⟩ := q; exact tabs_store r.tab z NT.ins (fun _ y => by cases y)
    | frz kvs => rw [e] at q; obtain ⟨od, vs, z, _⟩ := q; exact tabs_store r.tab z NT.frz (fun _ y => by cases y)
  prt := fun a z => by
    obtain ⟨v, e, k⟩ := r.prt a z
    by_cases ha : a = m i
    · exact ⟨o, by rw [ha, upd_same], ho⟩
    · exact ⟨v, by rw [upd_ne ha]; exact e, k⟩
  npr := fun j hj => r.npr j (by rwa [List.length_set] at hj)
  fz1 := fun j w hj nf => by
    by_cases hij : j = i
    · subst hij
      rw [List.getElem?_set_self hi] at hj
      cases hj
      exact hf nf
    · rw [List.getElem?_set_ne (Ne.symm hij)] at hj
      exact r.fz1 j w hj nf
  fz2 := fun a v z => by
    obtain ⟨w, e, k⟩ := r.fz2 a v z
    by_cases ha : a = m i
    · exact ⟨o, by rw [ha, upd_same], ho⟩
    · exact ⟨w, by rw [upd_ne ha]; exact e, k⟩
  fz3 := r.fz3

/-! ### the state -/
structure Rel (g : G) (m : Mp) (h : IH) (σ : L2.St) (en : En) (H : Hp) : Prop where
  rh : RH g m h H
  len : σ.length = en.length
  env : ∀ (i : Nat) (d : D), en[i]? = some (some d) → ∃ v, σ[i]? = some (some v) ∧ Rv g.K m h.length H v d
theorem Rel.next {g : G} {m m' : Mp} {h h' : IH} {σ : L2.St} {en : En} {H H' : Hp} (r : Rel g m h σ en H) (e : Ex m h.length H m' h'.length H') (q : RH g m' h' H') : Rel g m' h' σ en H' :=
  ⟨q, r.len, fun i d hd => let ⟨v, h1, h2⟩ := r.env i d hd; ⟨v, h1, h2.mono e⟩⟩
theorem Rel.set {g : G} {m : Mp} {h : IH} {σ : L2.St} {en : En} {H : Hp} (r : Rel g m h σ en H) (i : Nat) {v : V} {d : D} (q : Rv g.K m h.length H v d) : Rel g m h (σ.set i (some v)) (en.set i (some d)) H :=
  ⟨r.rh, by rw [List.length_set, List.length_set, r.len], fun j w hj => by
    by_cases hij : j = i
    · subst hij
      have hl : j < en.length := by
        have := (List.getElem?_eq_some_iff.mp hj).1
        rwa [List.length_set] at this
      rw [List.getElem?_set_self hl] at hj
      cases hj
      exact ⟨v, by rw [List.getElem?_set_self (by rw [r.len]; exact hl)], q⟩
    · rw [List.getElem?_set_ne (Ne.symm hij)] at hj
      obtain ⟨w', h1, h2⟩ := r.env j w hj
      exact ⟨w', by rw [List.getElem?_set_ne (Ne.symm hij)]; exact h1, h2⟩⟩

/-! ### readings from functions -/
abbrev MK (α : Type) := En → IH → Out α
abbrev ME := En → IH → Out D
abbrev MT := En → IH → Out Bool
abbrev MA := En → IH → Out (List D)
abbrev MS := En → IH → SO

/-- what is wanted behind a run -/
def Post {α β : Type} (R : (Mp) → Nat → Hp → β → α → Prop) (g : G) (m : Mp) (n : Nat) (H : Hp) (E : XK) (Q : β → Hp → Prop) : Out α → Prop
  | .ok d h' => ∀ m' H' v, Ex m n H m' h'.length H' → RH g m' h' H' → R m' h'.length H' v d → Q v H'
  | .err c h' => ∀ m' H' C, Ex m n H m' h'.length H' → RH g m' h' H' → g.mg (cnm c) = some (.ref C) → E (.ref C) none H'
  | .bad => False
def LX {α β : Type} (R : (Mp) → Nat → Hp → β → α → Prop) (g : G) (E : XK) (f : En → IH → Out α) : L2.St → Hp → (β → Hp → Prop) → Prop := fun σ H Q =>
  ∃ m h en, Rel g m h σ en H ∧ Post R g m h.length H E Q (f en h)
abbrev RB : (Mp) → Nat → Hp → Bool → Bool → Prop := fun _ _ _ a b => a = b
abbrev LE (g : G) (E : XK) (f : ME) : TE := LX (Rv g.K) g E f
abbrev LT (g : G) (E : XK) (f : MT) : TT := LX RB g E f
abbrev LA (g : G) (E : XK) (f : MA) : TA := LX (Rvs g.K) g E f

theorem LX.mk {α β : Type} {R : (Mp) → Nat → Hp → β → α → Prop} {g : G} {E : XK} {f : En → IH → Out α} {σ : L2.St} {H : Hp} {Q : β → Hp → Prop} {m : Mp} {h : IH} {en : En} (r : Rel g m h σ en H)
    (ok : ∀ d h', f en h = .ok d h' → ∀ m' H' v, Ex m h.length H m' h'.length H' → Rel g m' h' σ en H' → R m' h'.length H' v d → Q v H')
    (er : ∀ c h', f en h = .err c h' → ∀ m' H' C, Ex m h.length H m' h'.length H' → RH g m' h' H' → g.mg (cnm c) = some (.ref C) → E (.ref C) none H')
    (nb : f en h ≠ .bad) : LX R g E f σ H Q := by
  refine ⟨m, h, en, r, ?_⟩
  cases e : f en h with
  | ok d h' => exact fun m' H' v a b c => ok d h' e m' H' v a (r.next a b) c
  | err c h' => exact er c h' e
  | bad => exact nb e

def Out.bind {α β : Type} (o : Out α) (k : α → IH → Out β) : Out β := match o with
  | .ok a h => k a h
  | .err c h => .err c h
  | .bad => .bad
@[simp] theorem Out.bind_ok {α β : Type} (a : α) (h : IH) (k : α → IH → Out β) : (Out.ok a h).bind k = k a h := rfl
@[simp] theorem Out.bind_err {α β : Type} (c : Nat) (h : IH) (k : α → IH → Out β) : (Out.err c h : Out α).bind k = .err c h := rfl
@[simp] theorem Out.bind_bad {α β : Type} (k : α → IH → Out β) : (Out.bad : Out α).bind k = .bad := rfl

/-- THE CHAIN: a part is run, then the rest from where it ends -/
theorem chain {α β γ δ : Type} {R : (Mp) → Nat → Hp → β → α → Prop} {R2 : (Mp) → Nat → Hp → δ → γ → Prop} {g : G} {E : XK} {f : En → IH → Out α} {k : α → IH → Out γ} {σ : L2.St} {H : Hp} {Q : δ → Hp → Prop} {m : Mp} {h : IH} {en : En}
    {P : β → Hp → Prop} (r : Rel g m h σ en H) (p : Post R2 g m h.length H E Q ((f en h).bind k))
    (ok : ∀ m' h' H' v d, Ex m h.length H m' h'.length H' → Rel g m' h' σ en H' → R m' h'.length H' v d → Post R2 g m' h'.length H' E Q (k d h') → P v H') : LX R g E f σ H P := by
  refine ⟨m, h, en, r, ?_⟩
  cases e : f en h with
  | ok d h' =>
    intro m' H' v a b c
    refine ok m' h' H' v d a (r.next a b) c ?_
    rw [e] at p
    have p : Post R2 g m h.length H E Q (k d h') := p
    cases e2 : k d h' with
    | ok d2 h2 =>
      rw [e2] at p
      exact fun m2 H2 v2 a2 b2 c2 => p m2 H2 v2 (a.trans a2) b2 c2
    | err c2 h2 =>
      rw [e2] at p
      exact fun m2 H2 C2 a2 b2 c2 => p m2 H2 C2 (a.trans a2) b2 c2
    | bad =>
      rw [e2] at p
      exact p
  | err c h' =>
    rw [e] at p
    exact p
  | bad =>
    rw [e] at p
    exact p

theorem PE.imp {X : Cx} {e : Expr} {t t' : TE} (h : PE X e t) (q : ∀ σ H Q, t' σ H Q → t σ H Q) : PE X e t' := ⟨fun pins s σ H Q I w => h.run pins s σ H Q I (q σ H Q w)⟩
theorem PT.imp {X : Cx} {e : Expr} {t t' : TT} (h : PT X e t) (q : ∀ σ H Q, t' σ H Q → t σ H Q) : PT X e t' := ⟨fun pins s σ H Q I w => h.run pins s σ H Q I (q σ H Q w)⟩
theorem PA.imp {X : Cx} {e : List Expr} {t t' : TA} (h : PA X e t) (q : ∀ σ H Q, t' σ H Q → t σ H Q) : PA X e t' := ⟨fun pos pins s σ H Q I w => h.run pos pins s σ H Q I (q σ H Q w)⟩
theorem PS.imp {X : Cx} {e : Stmt} {t t' : TS} (h : PS X e t) (q : ∀ D σ H, t' D σ H → t D σ H) : PS X e t' := ⟨fun pins s σ H D I w => h.run pins s σ H D I (q D σ H w)⟩
theorem PSs.imp {X : Cx} {e : List Stmt} {t t' : TS} (h : PSs X e t) (q : ∀ D σ H, t' D σ H → t D σ H) : PSs X e t' := ⟨fun pins s σ H D I w => h.run pins s σ H D I (q D σ H w)⟩

abbrev gX (X : Cx) (T : List (Addr × Str)) : G := ⟨X.K, X.mg, T⟩
/-- an expression, a test, arguments, a statement, a block do what the function says -/
def DE (X : Cx) (T : List (Addr × Str)) (E : XK) (e : Expr) (f : ME) : Prop := PE X e (LE (gX X T) E f)
def DT (X : Cx) (T : List (Addr × Str)) (E : XK) (e : Expr) (f : MT) : Prop := PT X e (LT (gX X T) E f)
def DA (X : Cx) (T : List (Addr × Str)) (E : XK) (e : List Expr) (f : MA) : Prop := PA X e (LA (gX X T) E f)
end DL

set_option Elab.async false
set_option linter.all false
set_option maxRecDepth 100000
set_option autoImplicit false
/-! Expressions. -/
namespace DL
open PySem PySem.Spec PyProof.Rows L2

section
variable {g : G} {m : Mp} {h : IH} {H : Hp} {E : XK} {Q : VK}
theorem Post.val {v : V} {d : D} (p : Post (Rv g.K) g m h.length H E Q (.ok d h)) (rh : RH g m h H) (rv : Rv g.K m h.length H v d) : Q v H := p m H v (Ex.refl _ _ _) rh rv
theorem Post.vl {q : Addr} {vs : List V} {ds : List D} (p : Post (Rv g.K) g m h.length H E Q (.ok (.vl ds) h)) (rh : RH g m h H) (rv : Rvs g.K m h.length H vs ds) (hq : H q = none) : Q (.ref q) (upd H q (.lst vs)) :=
  p m _ _ (Ex.fresh hq NT.lst) (rh.fresh hq NT.lst) (.vl upd_same (rh.off hq) (rv.mono (Ex.fresh hq NT.lst)))
theorem Post.tup {q : Addr} {vs : List V} {ds : List D} (p : Post (Rv g.K) g m h.length H E Q (.ok (.tup ds) h)) (rh : RH g m h H) (rv : Rvs g.K m h.length H vs ds) (hq : H q = none) : Q (.ref q) (upd H q (.tup vs)) :=
  p m _ _ (Ex.fresh hq NT.tup) (rh.fresh hq NT.tup) (.tup (.inr ⟨.inl upd_same, rh.off hq⟩) (rv.mono (Ex.fresh hq NT.tup)))
/-- a list comes out: a value, or an object of the ideal heap -/
def outL (r : Bool) (xs : List D) (h : IH) : Out D := if r then .ok (.ref h.length) (h ++ [.lst xs]) else .ok (.vl xs) h
theorem upd_keeps {H : Hp} {q : Addr} {o : HO} (hq : H q = none) : ∀ a u, H a = some u → upd H q o a = some u := fun a u e => by rw [upd_ne (ne_of_none e hq)]; exact e
theorem Post.lref {q : Addr} {vs : List V} {ds : List D} (p : Post (Rv g.K) g m h.length H E Q (.ok (.ref h.length) (h ++ [.lst ds]))) (rh : RH g m h H) (rv : Rvs g.K m h.length H vs ds) (hq : H q = none) : Q (.ref q) (upd H q (.lst vs)) := by
  have hl : (h ++ [O.lst ds]).length = h.length + 1 := by simp
  have ex : Ex m h.length H (put m h.length q) (h.length + 1) (upd H q (.lst vs)) := Ex.alloc hq (upd_keeps hq)
  refine p (put m h.length q) _ _ (by rw [hl]; exact ex) (rh.alloc hq (upd_keeps hq) ⟨vs, upd_same, rv.mono ex⟩) ?_
  rw [hl]
  have z := Rv.ref (K := g.K) (m := put m h.length q) (n := h.length + 1) (H := upd H q (.lst vs)) (Nat.lt_succ_self h.length)
  rw [put_same] at z
  exact z
theorem Post.outL {r : Bool} {q : Addr} {vs : List V} {ds : List D} (p : Post (Rv g.K) g m h.length H E Q (outL r ds h)) (rh : RH g m h H) (rv : Rvs g.K m h.length H vs ds) (hq : H q = none) : Q (.ref q) (upd H q (.lst vs)) := by
  cases r with
  | true => exact Post.lref p rh rv hq
  | false => exact Post.vl p rh rv hq
/-- a list is read -/
def lstAt (h : IH) (i : Nat) : Option (List D) := match h[i]? with
  | some (.lst xs) => some xs
  | _ => none
theorem lstAt_ok {i : Nat} {xs : List D} (e : lstAt h i = some xs) : h[i]? = some (.lst xs) := by
  unfold lstAt at e
  split at e
  · rename_i q
    cases e
    exact q
  · cases e
theorem lstAt_of {i : Nat} {xs : List D} (e : h[i]? = some (.lst xs)) : lstAt h i = some xs := by
  unfold lstAt
  rw [e]
def getL (h : IH) : D → Option (List D)
  | .vl xs => some xs
  | .fl xs => some xs
  | .ref i => lstAt h i
  | _ => none
def getT : D → Option (List D)
  | .tup xs => some xs
  | _ => none
theorem RH.lst {i : Nat} {ds : List D} (rh : RH g m h H) (e : h[i]? = some (.lst ds)) : ∃ vs, H (m i) = some (.lst vs) ∧ Rvs g.K m h.length H vs ds := rh.obj i _ e
theorem getL_ok {v : V} {d : D} {xs : List D} (rh : RH g m h H) (rv : Rv g.K m h.length H v d) (e : getL h d = some xs) : ∃ a vs, v = .ref a ∧ SqL g.K H a vs ∧ Rvs g.K m h.length H vs xs := by
  cases rv with
  | vl h1 _ r =>
    cases e
    exact ⟨_, _, rfl, SqL.of h1, r⟩
  | fl h1 r =>
    cases e
    rcases h1 with h1 | ⟨h1, _⟩
    · exact ⟨_, _, rfl, .inr h1, r⟩
    · exact ⟨_, _, rfl, .inl h1, r⟩
  | ref hi =>
    rename_i i
    obtain ⟨vs, h1, h2⟩ := rh.lst (lstAt_ok (show lstAt h i = some xs from e))
    exact ⟨_, _, rfl, SqL.of h1, h2⟩
  | _ => cases e
theorem getT_ok {v : V} {d : D} {xs : List D} (rv : Rv g.K m h.length H v d) (e : getT d = some xs) : ∃ a vs, v = .ref a ∧ SqT g.K H a vs ∧ Rvs g.K m h.length H vs xs := by
  cases rv with
  | tup h1 r =>
    cases e
    rcases h1 with h1 | ⟨h1, _⟩
    · exact ⟨_, _, rfl, .inr h1, r⟩
    · exact ⟨_, _, rfl, .inl h1, r⟩
  | _ => cases e
/-- one that is tracked and not locked -/
def getM (h : IH) : D → Option (List D)
  | .vl xs => some xs
  | .ref i => lstAt h i
  | _ => none
theorem getM_ok {v : V} {d : D} {xs : List D} (rh : RH g m h H) (rv : Rv g.K m h.length H v d) (e : getM h d = some xs) : ∃ a vs, v = .ref a ∧ H a = some (.lst vs) ∧ Rvs g.K m h.length H vs xs := by
  cases rv with
  | vl h1 _ r =>
    cases e
    exact ⟨_, _, rfl, h1, r⟩
  | ref hi =>
    rename_i i
    obtain ⟨vs, h1, h2⟩ := rh.lst (lstAt_ok (show lstAt h i = some xs from e))
    exact ⟨_, _, rfl, h1, h2⟩
  | _ => cases e
end

section
variable {X : Cx} {T : List (Addr × Str)} {E : XK} {a b c e : Expr} {es : List Expr} {pos : Pos} {f k f2 : ME}

/-! ### names and constants -/
def cE (d : D) : ME := fun _ h => .ok d h
def varE (i : Nat) : ME := fun en h => match en[i]? with
  | some (some d) => .ok d h
  | _ => .bad
theorem de_var (i : Nat) {x : Str} (hN : X.N[i]? = some x := by rfl) (hv : Vis X.env.scope x := by first | exact Or.inl rfl | exact Or.inr (Or.inl rfl) | exact Or.inr (Or.inr rfl)) (hd : (x == ("__debug__" : Str)) = false := by decide)
    (hcd : (x == ("__classdict__" : Str)) = false := by decide) : DE X T E (.Name x pos) (varE i) := by
  refine PE.imp (pe_var hN hv hd hcd) fun σ H Q ⟨m, h, en, r, p⟩ => ?_
  unfold varE at p
  cases q : en[i]? with
  | none => rw [q] at p; exact p.elim
  | some o =>
    cases o with
    | none => rw [q] at p; exact p.elim
    | some d =>
      rw [q] at p
      obtain ⟨v, h1, h2⟩ := r.env i d q
      exact ⟨v, h1, p.val r.rh h2⟩
theorem de_int {i : Int} {j : Nat} : DE X T E (.Constant (.int i) j pos) (cE (.int i)) := PE.imp pe_int fun _ _ _ ⟨_, _, _, r, p⟩ => Post.val p r.rh (.int i)
theorem de_bl {i : Bool} {j : Nat} : DE X T E (.Constant (.bool i) j pos) (cE (.bl i)) := PE.imp pe_bl fun _ _ _ ⟨_, _, _, r, p⟩ => Post.val p r.rh (.bl i)
theorem de_non {j : Nat} : DE X T E (.Constant .none j pos) (cE .non) := PE.imp pe_non fun _ _ _ ⟨_, _, _, r, p⟩ => Post.val p r.rh .non
theorem de_str {i : Str} {j : Nat} : DE X T E (.Constant (.str i) j pos) (cE (.str i)) := PE.imp pe_str fun _ _ _ ⟨_, _, _, r, p⟩ => Post.val p r.rh (.str i)
/-- what the module's name x stands for -/
def GloIs (K : PySem.W.Frag) (mg : Str → Option Value) (x : Str) (d : D) : Prop := ∃ (v : V) (u : Value), mg x = some u ∧ RelV v u ∧ ∀ m n H, Rv K m n H v d
theorem de_glob {x : Str} {d : D} (hg : Gl X x) (hm : GloIs X.K X.mg x d) (hd : (x == ("__debug__" : Str)) = false := by decide) : DE X T E (.Name x pos) (cE d) := by
  obtain ⟨v, u, h1, h2, h3⟩ := hm
  exact PE.imp (pe_glob hg h1 h2 hd) fun _ _ _ ⟨_, _, _, r, p⟩ => Post.val p r.rh (h3 _ _ _)
theorem GloIs.int {K : PySem.W.Frag} {mg : Str → Option Value} {x : Str} {i : Int} (h : ∃ t, mg x = some (.int i t)) : GloIs K mg x (.int i) := by
  obtain ⟨t, h⟩ := h
  exact ⟨.int i, _, h, ⟨t, rfl⟩, fun _ _ _ => .int i⟩

/-! ### operators -/
def op2 (o : D → D → IH → Out D) (f k : ME) : ME := fun en h => (f en h).bind fun x h1 => (k en h1).bind fun y h2 => o x y h2
def op1 (o : D → IH → Out D) (f : ME) : ME := fun en h => (f en h).bind o
def OpS (g : G) (r : R2) (o : D → D → IH → Out D) : Prop := ∀ (m : Mp) (h : IH) (H : Hp) (x y : V) (dx dy : D) (E : XK) (Q : VK), RH g m h H → Rv g.K m h.length H x dx → Rv g.K m h.length H y dy →
  Post (Rv g.K) g m h.length H E Q (o dx dy h) → r x y H Q
def UnS (g : G) (r : V → Hp → VK → Prop) (o : D → IH → Out D) : Prop := ∀ (m : Mp) (h : IH) (H : Hp) (x : V) (dx : D) (E : XK) (Q : VK), RH g m h H → Rv g.K m h.length H x dx →
  Post (Rv g.K) g m h.length H E Q (o dx h) → r x H Q
theorem red2 {r : R2} {o : D → D → IH → Out D} {σ : L2.St} {H : Hp} {Q : VK} (hs : OpS (gX X T) r o) (q : LE (gX X T) E (op2 o f k) σ H Q) : tOp r (LE (gX X T) E f) (LE (gX X T) E k) σ H Q := by
  obtain ⟨m, h, en, rel, p⟩ := q
  exact chain rel p fun m1 h1 H1 v d e1 rel1 rv1 p1 => chain rel1 p1 fun m2 h2 H2 w d2 e2 rel2 rv2 p2 => hs m2 h2 H2 v w d d2 E Q rel2.rh (rv1.mono e2) rv2 p2
theorem de_op {op : Operator} {r : R2} {o : D → D → IH → Out D} (ho : OpR X (binaryOp op) r) (hs : OpS (gX X T) r o) (ha : DE X T E a f) (hb : DE X T E b k) : DE X T E (.BinOp a op b pos) (op2 o f k) :=
  PE.imp (pe_op ho ha hb) fun _ _ _ q => red2 hs q
/-- a comparison by its rule -/
def CmpRule (X : Cx) (T : List (Addr × Str)) (op : CmpOp) (o : D → D → IH → Out D) : Prop := ∃ r, OpR X (compareOp op) r ∧ OpS (gX X T) r o
theorem de_cmp {op : CmpOp} {o : D → D → IH → Out D} (c : CmpRule X T op o) (ha : DE X T E a f) (hb : DE X T E b k) (hm : behindInMarks op b = false := by first | exact nomark _ | rfl) : DE X T E (.Compare a [op] [b] pos) (op2 o f k) := by
  obtain ⟨r, ho, hs⟩ := c
  exact PE.imp (pe_cmpR ho ha hb hm) fun _ _ _ q => red2 hs q
theorem de_ix {r : R2} {o : D → D → IH → Out D} (ho : IxR X r) (hs : OpS (gX X T) r o) (ha : DE X T E a f) (hb : DE X T E b k) (hp : PlainIx b) : DE X T E (.Subscript a b pos) (op2 o f k) :=
  PE.imp (pe_ix ho ha hb hp) fun _ _ _ q => red2 hs q
theorem de_un {op : UnaryOp} {r : V → Hp → VK → Prop} {o : D → IH → Out D} (ho : UnR X (unaryOp op) r) (hs : UnS (gX X T) r o) (ha : DE X T E a f) : DE X T E (.UnaryOp op a pos) (op1 o f) :=
  PE.imp (pe_un ho ha) fun σ H Q ⟨m, h, en, rel, p⟩ => chain rel p fun m1 h1 H1 v d e1 rel1 rv1 p1 => hs m1 h1 H1 v d E Q rel1.rh rv1 p1

/-- under a condition -/
def grd {α : Type} (c : Bool) (o : Out α) : Out α := match c with
  | true => o
  | false => .bad
@[simp] theorem grd_true {α : Type} (o : Out α) : grd true o = o := rfl
theorem grd_of {α : Type} {c : Bool} (o : Out α) (h : c = true) : grd c o = o := by rw [h]; rfl
theorem Post.grd {α β : Type} {R : (Mp) → Nat → Hp → β → α → Prop} {g : G} {m : Mp} {n : Nat} {H : Hp} {E : XK} {Q : β → Hp → Prop} {c : Bool} {a : Out α} (p : Post R g m n H E Q (grd c a)) : c = true ∧ Post R g m n H E Q a := by
  cases c with
  | true => exact ⟨rfl, p⟩
  | false => exact p.elim
/-- two rules: the first where it has an answer -/
def Out.or {α : Type} (a b : Out α) : Out α := match a with
  | .bad => b
  | z => z
theorem Post.or {α β : Type} {R : (Mp) → Nat → Hp → β → α → Prop} {g : G} {m : Mp} {n : Nat} {H : Hp} {E : XK} {Q : β → Hp → Prop} {a b : Out α} (p : Post R g m n H E Q (a.or b)) : Post R g m n H E Q a ∨ Post R g m n H E Q b := by
  cases a with
  | bad => exact .inr p
  | ok d h => exact .inl p
  | err c h => exact .inl p
theorem OpS.or {g : G} {r r' : R2} {o o' : D → D → IH → Out D} (s : OpS g r o) (s' : OpS g r' o') : OpS g (fun x y H Q => r x y H Q ∨ r' x y H Q) (fun x y h => (o x y h).or (o' x y h)) := by
  intro m h H x y dx dy E Q rh rx ry p
  rcases Post.or p with p | p
  · exact .inl (s m h H x y dx dy E Q rh rx ry p)
  · exact .inr (s' m h H x y dx dy E Q rh rx ry p)

/-! ### ints -/
def i2 (c : Int → Int → Bool) (w : Int → Int → D) : D → D → IH → Out D
  | .int i, .int j, h => grd (c i j) (.ok (w i j) h)
  | _, _, _ => .bad
theorem i2_ok {g : G} {C : Int → Int → Prop} {c : Int → Int → Bool} {z : Int → Int → V} {w : Int → Int → D} (hc : ∀ i j, c i j = true → C i j) (hz : ∀ K m n H i j, Rv K m n H (z i j) (w i j)) : OpS g (rI C z) (i2 c w) := by
  intro m h H x y dx dy E Q rh rx ry p
  cases dx with
  | int i =>
    cases dy with
    | int j =>
      cases rx
      cases ry
      obtain ⟨e, p⟩ := Post.grd (show Post (Rv g.K) g m h.length H E Q (grd (c i j) (.ok (w i j) h)) from p)
      exact ⟨i, j, rfl, rfl, hc i j e, p.val rh (hz _ _ _ _ i j)⟩
    | _ => exact p.elim
  | _ => exact p.elim
def i20 (w : Int → Int → D) : D → D → IH → Out D
  | .int i, .int j, h => .ok (w i j) h
  | _, _, _ => .bad
theorem i20_ok {g : G} {z : Int → Int → V} {w : Int → Int → D} (hz : ∀ K m n H i j, Rv K m n H (z i j) (w i j)) : OpS g (rI0 z) (i20 w) := by
  intro m h H x y dx dy E Q rh rx ry p
  cases dx with
  | int i =>
    cases dy with
    | int j =>
      cases rx
      cases ry
      exact ⟨i, j, rfl, rfl, p.val rh (hz _ _ _ _ i j)⟩
    | _ => exact p.elim
  | _ => exact p.elim
def subD : D → D → IH → Out D := i20 fun i j => .int (i - j)
theorem de_sub (ha : DE X T E a f) (hb : DE X T E b k) : DE X T E (.BinOp a .Sub b pos) (op2 subD f k) := de_op op_sub (i20_ok fun _ _ _ _ _ _ => .int _) ha hb
/-- a size that is sure -/
def mulOk (i j : Int) : Bool := decide (i.natAbs < 2 ^ 64) || decide (j.natAbs < 2 ^ 64) || decide (i.natAbs.log2 + j.natAbs.log2 < 1000000)
theorem op_mulX : OpR X (binaryOp .Mult) (rI (fun i j => mulOk i j = true) fun i j => .int (i * j)) := opI fun i j _ _ _ _ _ hc q => by
  refine mul_int q ?_
  unfold mulOk at hc
  simp only [Bool.or_eq_true, decide_eq_true_eq] at hc
  rcases hc with (hc | hc) | hc
  · exact CMul.ok (.inl (by omega))
  · exact CMul.ok (.inr (by omega))
  · exact CMulW.ok hc
def mulI : D → D → IH → Out D := i2 mulOk fun i j => .int (i * j)
/-- a list so many times -/
def repD (r : Bool) : D → D → IH → Out D := fun x y h => match getM h x, y with
  | some xs, .int k => grd (decide (-(2 ^ 63) ≤ k) && decide (k < 2 ^ 63) && decide (xs.length * k.toNat ≤ sizeLine)) (outL r (List.replicate k.toNat xs).flatten h)
  | _, _ => .bad
theorem Rvs.rep {K : PySem.W.Frag} {m : Mp} {n : Nat} {H : Hp} {vs : List V} {ds : List D} (r : Rvs K m n H vs ds) : ∀ k : Nat, Rvs K m n H (List.replicate k vs).flatten (List.replicate k ds).flatten
  | 0 => .nil
  | k + 1 => by
    rw [List.replicate_succ, List.replicate_succ, List.flatten_cons, List.flatten_cons]
    exact r.append (Rvs.rep r k)
theorem repD_ok {g : G} {r : Bool} : OpS g rRep (repD r) := by
  intro m h H x y dx dy E Q rh rx ry p
  unfold repD at p
  cases e : getM h dx with
  | none => rw [e] at p; exact p.elim
  | some xs =>
    rw [e] at p
    obtain ⟨l, vs, rfl, h1, h2⟩ := getM_ok rh rx e
    cases dy with
    | int j =>
      cases ry
      · obtain ⟨hc, p⟩ := Post.grd p
        simp only [Bool.and_eq_true, decide_eq_true_eq] at hc
        refine ⟨l, j, vs, rfl, rfl, h1, hc.1.1, hc.1.2, by rw [h2.length]; exact hc.2, fun q hq => p.outL rh (h2.rep _) hq⟩
    | _ => exact p.elim
def mulD (r : Bool) : D → D → IH → Out D := fun x y h => (mulI x y h).or (repD r x y h)
theorem de_mul (r : Bool) (ha : DE X T E a f) (hb : DE X T E b k) : DE X T E (.BinOp a .Mult b pos) (op2 (mulD r) f k) :=
  de_op (op_mulX.or op_rep) ((i2_ok (fun _ _ h => h) fun _ _ _ _ _ _ => .int _).or repD_ok) ha hb
def fdivD : D → D → IH → Out D := i2 (fun _ j => decide (0 < j) && decide (j.natAbs.log2 < 9000)) fun i j => .int (i / j)
theorem de_fdiv (ha : DE X T E a f) (hb : DE X T E b k) : DE X T E (.BinOp a .FloorDiv b pos) (op2 fdivD f k) :=
  de_op op_fdivW (i2_ok (fun _ _ h => by simp only [Bool.and_eq_true, decide_eq_true_eq] at h; exact h) fun _ _ _ _ _ _ => .int _) ha hb
def modD : D → D → IH → Out D := i2 (fun _ j => decide (0 < j)) fun i j => .int (i % j)
theorem de_mod (ha : DE X T E a f) (hb : DE X T E b k) : DE X T E (.BinOp a .Mod b pos) (op2 modD f k) := de_op op_mod (i2_ok (fun _ _ h => of_decide_eq_true h) fun _ _ _ _ _ _ => .int _) ha hb
def powD : D → D → IH → Out D := i2 (fun i j => decide (0 ≤ j) && decide (j ≤ 1000000) && decide (i.natAbs < 2 ^ 64)) fun i j => .int (i ^ j.toNat)
theorem de_pow (ha : DE X T E a f) (hb : DE X T E b k) : DE X T E (.BinOp a .Pow b pos) (op2 powD f k) :=
  de_op op_pow (i2_ok (fun _ _ h => by simp only [Bool.and_eq_true, decide_eq_true_eq] at h; exact ⟨h.1.1, h.1.2, h.2⟩) fun _ _ _ _ _ _ => .int _) ha hb
def negD : D → IH → Out D
  | .int i, h => .ok (.int (-i)) h
  | _, _ => .bad
theorem de_neg (ha : DE X T E a f) : DE X T E (.UnaryOp .USub a pos) (op1 negD f) := de_un un_neg (fun m h H x dx E Q rh rx p => by
  cases dx with
  | int i =>
    cases rx
    exact ⟨i, rfl, p.val rh (.int _)⟩
  | _ => exact p.elim) ha

/-! ### + -/
def addI : D → D → IH → Out D := i20 fun i j => .int (i + j)
def addS : D → D → IH → Out D
  | .str i, .str j, h => grd (decide (i.length + j.length ≤ sizeLine)) (.ok (.str (i ++ j)) h)
  | _, _, _ => .bad
def addT : D → D → IH → Out D
  | .tup xs, .tup ys, h => grd (decide (xs.length + ys.length ≤ sizeLine)) (.ok (.tup (xs ++ ys)) h)
  | _, _, _ => .bad
def addL (r : Bool) : D → D → IH → Out D := fun x y h => match getM h x, getM h y with
  | some xs, some ys => grd (decide (xs.length + ys.length ≤ sizeLine)) (outL r (xs ++ ys) h)
  | _, _ => .bad
theorem addS_ok {g : G} : OpS g (fun x y H Q => ∃ i j, x = .str i ∧ y = .str j ∧ i.length + j.length ≤ sizeLine ∧ Q (.str (i ++ j)) H) addS := by
  intro m h H x y dx dy E Q rh rx ry p
  cases dx with
  | str i =>
    cases dy with
    | str j =>
      cases rx
      cases ry
      obtain ⟨hc, p⟩ := Post.grd p
      exact ⟨i, j, rfl, rfl, of_decide_eq_true hc, p.val rh (.str _)⟩
    | _ => exact p.elim
  | _ => exact p.elim
theorem addT_ok {g : G} : OpS g (rCatA g.K) addT := by
  intro m h H x y dx dy E Q rh rx ry p
  cases dx with
  | tup xs =>
    cases dy with
    | tup ys =>
      obtain ⟨a, vs, rfl, s1, r1⟩ := getT_ok rx (show getT (.tup xs) = some xs from rfl)
      obtain ⟨b, ws, rfl, s2, r2⟩ := getT_ok ry (show getT (.tup ys) = some ys from rfl)
      obtain ⟨hc, p⟩ := Post.grd p
      have hc := of_decide_eq_true hc
      refine ⟨a, b, vs, ws, rfl, rfl, s1, s2, by rw [r1.length, r2.length]; exact hc, ?_, ?_, ?_⟩
      · intro z
        rw [z] at r1
        cases r1
        rw [List.nil_append] at p
        exact p.val rh ry
      · intro _ z
        rw [z] at r2
        cases r2
        rw [List.append_nil] at p
        exact p.val rh rx
      · intro _ _ q hq
        exact p.tup rh (r1.append r2) hq
    | _ => exact p.elim
  | _ => exact p.elim
theorem addL_ok {g : G} {r : Bool} : OpS g rCat (addL r) := by
  intro m h H x y dx dy E Q rh rx ry p
  unfold addL at p
  cases e : getM h dx with
  | none => rw [e] at p; exact p.elim
  | some xs =>
    cases e2 : getM h dy with
    | none => rw [e, e2] at p; exact p.elim
    | some ys =>
      rw [e, e2] at p
      obtain ⟨l, vs, rfl, h1, r1⟩ := getM_ok rh rx e
      obtain ⟨l2, ws, rfl, h2, r2⟩ := getM_ok rh ry e2
      obtain ⟨hc, p⟩ := Post.grd p
      exact ⟨l, l2, vs, ws, rfl, rfl, h1, h2, by rw [r1.length, r2.length]; exact of_decide_eq_true hc, fun q hq => p.outL rh (r1.append r2) hq⟩
def addD (r : Bool) : D → D → IH → Out D := fun x y h => (addI x y h).or ((addT x y h).or ((addL r x y h).or (addS x y h)))
theorem de_add (r : Bool) (ha : DE X T E a f) (hb : DE X T E b k) : DE X T E (.BinOp a .Add b pos) (op2 (addD r) f k) :=
  de_op (op_add.or (op_catA.or (op_cat.or op_add_str))) ((i20_ok fun _ _ _ _ _ _ => .int _).or (addT_ok.or (addL_ok.or addS_ok))) ha hb

/-! ### comparisons -/
def ltD : D → D → IH → Out D := i20 fun i j => .bl (decide (i < j))
def leD : D → D → IH → Out D := i20 fun i j => .bl (decide (i ≤ j))
def gtD : D → D → IH → Out D := i20 fun i j => .bl (decide (j < i))
def geD : D → D → IH → Out D := i20 fun i j => .bl (decide (j ≤ i))
theorem cr_lt : CmpRule X T .Lt ltD := ⟨_, op_lt, i20_ok fun _ _ _ _ _ _ => .bl _⟩
theorem cr_le : CmpRule X T .LtE leD := ⟨_, op_le, i20_ok fun _ _ _ _ _ _ => .bl _⟩
theorem cr_gt : CmpRule X T .Gt gtD := ⟨_, op_gt, i20_ok fun _ _ _ _ _ _ => .bl _⟩
theorem cr_ge : CmpRule X T .GtE geD := ⟨_, op_ge, i20_ok fun _ _ _ _ _ _ => .bl _⟩
def isNoneD : D → Bool
  | .non => true
  | _ => false
def isN : D → IH → Out D := fun x h => .ok (.bl (isNoneD x)) h
def isNN : D → IH → Out D := fun x h => .ok (.bl (!isNoneD x)) h
theorem isNone_ok {K : PySem.W.Frag} {m : Mp} {n : Nat} {H : Hp} {v : V} {d : D} (r : Rv K m n H v d) : decide (v = .non) = isNoneD d := by
  cases r <;> rfl
theorem de_isN {j : Nat} {pos' : Pos} (ha : DE X T E a f) : DE X T E (.Compare a [.Is] [.Constant .none j pos'] pos) (op1 isN f) :=
  PE.imp (pe_cmp (pc_isN ha)) fun σ H Q ⟨m, h, en, rel, p⟩ => chain rel p fun m1 h1 H1 v d e1 rel1 rv1 p1 => by
    rw [isNone_ok rv1]
    exact p1.val rel1.rh (.bl _)
theorem de_isNN {j : Nat} {pos' : Pos} (ha : DE X T E a f) : DE X T E (.Compare a [.IsNot] [.Constant .none j pos'] pos) (op1 isNN f) :=
  PE.imp (pe_cmp (pc_notN ha)) fun σ H Q ⟨m, h, en, rel, p⟩ => chain rel p fun m1 h1 H1 v d e1 rel1 rv1 p1 => by
    rw [isNone_ok rv1]
    exact p1.val rel1.rh (.bl _)

/-- data as a whole -/
def optAll {α β : Type} (f : α → Option β) : List α → Option (List β)
  | [] => some []
  | x :: xs => match f x, optAll f xs with
    | some y, some ys => some (y :: ys)
    | _, _ => none
/-- data as it stands, objects that are lists read off the heap -/
def res (h : IH) : Nat → D → Option D
  | _, .non => some .non
  | _, .bl b => some (.bl b)
  | _, .int i => some (.int i)
  | _, .str x => if PyData.strOk x then some (.str x) else none
  | _, .wd n => some (.wd n)
  | n + 1, .tup xs => (optAll (res h n) xs).map .tup
  | n + 1, .vl xs => (optAll (res h n) xs).map .vl
  | n + 1, .fl xs => (optAll (res h n) xs).map .vl
  | n + 1, .ref i => match lstAt h i with
    | some xs => (optAll (res h n) xs).map .vl
    | none => none
  | 0, _ => none
mutual
def py : D → PyData
  | .non => .none
  | .bl b => .bool b
  | .int i => .int i
  | .str x => .str x
  | .wd n => .str (wds n)
  | .tup xs => .tuple (pys xs)
  | .vl xs => .list (pys xs)
  | .fl xs => .list (pys xs)
  | .ref _ => .none
def pys : List D → List PyData
  | [] => []
  | x :: xs => py x :: pys xs
end
mutual
def eqW : D → D → Bool
  | .non, y => match y with
    | .non => true
    | _ => false
  | .bl a, y => match y with
    | .bl b => a == b
    | .int j => (if a then 1 else 0) == j
    | _ => false
  | .int i, y => match y with
    | .int j => i == j
    | .bl b => i == (if b then 1 else 0)
    | _ => false
  | .str x, y => match y with
    | .str z => x == z
    | .wd n => x == wds n
    | _ => false
  | .wd n, y => match y with
    | .wd k => n == k
    | .str z => wds n == z
    | _ => false
  | .tup xs, y => match y with
    | .tup ys => eqWs xs ys
    | _ => false
  | .vl xs, y => match y with
    | .vl ys => eqWs xs ys
    | _ => false
  | .fl _, _ => false
  | .ref _, _ => false
def eqWs : List D → List D → Bool
  | [], ys => match ys with
    | [] => true
    | _ :: _ => false
  | x :: xs, ys => match ys with
    | [] => false
    | y :: ys => eqW x y && eqWs xs ys
end
mutual
inductive Good : Nat → D → Prop
  | non (k : Nat) : Good k .non
  | bl (k : Nat) (b : Bool) : Good k (.bl b)
  | int (k : Nat) (i : Int) : Good k (.int i)
  | str (k : Nat) {x : Str} : PyData.strOk x = true → Good k (.str x)
  | wd (k : Nat) {n : Nat} : n < nW → Good k (.wd n)
  | tup {k : Nat} {xs : List D} : Goods k xs → Good (k + 1) (.tup xs)
  | vl {k : Nat} {xs : List D} : Goods k xs → Good (k + 1) (.vl xs)
inductive Goods : Nat → List D → Prop
  | nil (k : Nat) : Goods k []
  | cons {k : Nat} {x : D} {xs : List D} : Good k x → Goods k xs → Goods k (x :: xs)
end
theorem strOk_wds {n : Nat} (h : n < nW) : PyData.strOk (wds n) = true := by
  have hl : n < words.length := by rw [words_len]; exact h
  have e : wds n = words[n] := by unfold wds; rw [List.getD_eq_getElem?_getD, List.getElem?_eq_getElem hl]; rfl
  rw [e]
  exact List.all_eq_true.mp words_ok _ (List.getElem_mem hl)
mutual
theorem Good.lay : ∀ {k : Nat} {d : D}, Good k d → (py d).canLay0 = true ∧ (py d).depth ≤ k
  | _, _, .non k => by simp [py, PyData.canLay0, PyData.depth]
  | _, _, .bl k b => by simp [py, PyData.canLay0, PyData.depth]
  | _, _, .int k i => by simp [py, PyData.canLay0, PyData.depth]
  | _, _, .str k h => by simp [py, PyData.canLay0, PyData.depth, h]
  | _, _, .wd k h => by simp [py, PyData.canLay0, PyData.depth, strOk_wds h]
  | _, _, .tup h => by
    have := Goods.lay h
    simp only [py, PyData.canLay0, PyData.depth]
    exact ⟨this.1, by omega⟩
  | _, _, .vl h => by
    have := Goods.lay h
    simp only [py, PyData.canLay0, PyData.depth]
    exact ⟨this.1, by omega⟩
theorem Goods.lay : ∀ {k : Nat} {ds : List D}, Goods k ds → PyData.canLayAll0 (pys ds) = true ∧ PyData.depthAll (pys ds) ≤ k
  | _, _, .nil k => by simp [pys, PyData.canLayAll0, PyData.depthAll]
  | _, _, .cons a b => by
    have h1 := Good.lay a
    have h2 := Goods.lay b
    simp only [pys, PyData.canLayAll0, PyData.depthAll, Bool.and_eq_true]
    exact ⟨⟨h1.1, h2.1⟩, by omega⟩
end
theorem beq_wds {n k : Nat} (hn : n < nW) (hk : k < nW) : (n == k) = (wds n == wds k) := by
  by_cases e : n = k
  · subst e; simp
  · have : wds n ≠ wds k := fun z => e (words_nd n hn k hk z)
    rw [beq_eq_false_iff_ne.mpr e, beq_eq_false_iff_ne.mpr this]
mutual
theorem Good.eqv : ∀ {k j : Nat} {d e : D}, Good k d → Good j e → eqW d e = PyData.eqv (py d) (py e)
  | _, _, _, _, .non _, b => by cases b <;> simp [eqW, py, PyData.eqv]
  | _, _, _, _, .bl _ _, b => by cases b <;> simp [eqW, py, PyData.eqv]
  | _, _, _, _, .int _ _, b => by cases b <;> simp [eqW, py, PyData.eqv]
  | _, _, _, _, .str _ _, b => by cases b <;> simp [eqW, py, PyData.eqv]
  | _, _, _, _, .wd _ h, b => by
    cases b with
    | wd _ h2 => simp only [eqW, py, PyData.eqv]; exact beq_wds h h2
    | _ => simp [eqW, py, PyData.eqv]
  | _, _, _, _, .tup h, b => by
    cases b with
    | tup h2 => simp only [eqW, py, PyData.eqv]; exact Goods.eqv h h2
    | _ => simp [eqW, py, PyData.eqv]
  | _, _, _, _, .vl h, b => by
    cases b with
    | vl h2 => simp only [eqW, py, PyData.eqv]; exact Goods.eqv h h2
    | _ => simp [eqW, py, PyData.eqv]
theorem Goods.eqv : ∀ {k j : Nat} {d e : List D}, Goods k d → Goods j e → eqWs d e = PyData.eqvAll (pys d) (pys e)
  | _, _, _, _, .nil _, b => by cases b <;> simp [eqWs, pys, PyData.eqvAll]
  | _, _, _, _, .cons h1 h2, b => by
    cases b with
    | nil => simp [eqWs, pys, PyData.eqvAll]
    | cons g1 g2 => simp only [eqWs, pys, PyData.eqvAll]; rw [Good.eqv h1 g1, Goods.eqv h2 g2]
end
theorem optAll_ok {α β : Type} {f : α → Option β} : ∀ {xs : List α} {ys : List β}, optAll f xs = some ys → Paired (fun x y => f x = some y) xs ys
  | [], ys, h => by cases h; exact .nil
  | x :: xs, ys, h => by
    unfold optAll at h
    split at h
    · rename_i y ys' h1 h2
      cases h
      exact .cons h1 (optAll_ok h2)
    · cases h
theorem res_ok {g : G} {m : Mp} {h : IH} {H : Hp} (rh : RH g m h H) : ∀ (k : Nat) {v : V} {d x : D}, Rv g.K m h.length H v d → res h k d = some x → Good k x ∧ Dp g.K H v (py x) := by
  have lists : ∀ (k : Nat), (∀ {v : V} {d x : D}, Rv g.K m h.length H v d → res h k d = some x → Good k x ∧ Dp g.K H v (py x)) → ∀ {vs : List V} {ds xs : List D}, Rvs g.K m h.length H vs ds → optAll (res h k) ds = some xs → Goods k xs ∧ DpAll g.K H vs (pys xs) := by
    intro k ih vs ds xs r e
    have q := optAll_ok e
    clear e
    induction q generalizing vs with
    | nil => cases r; exact ⟨.nil k, .nil⟩
    | cons h1 _ ih2 =>
      cases r with
      | cons r1 r2 =>
        have a := ih r1 h1
        have b := ih2 r2
        exact ⟨.cons a.1 b.1, .cons a.2 b.2⟩
  intro k
  induction k with
  | zero =>
    intro v d x r e
    cases r with
    | non => cases e; exact ⟨.non _, .non⟩
    | bl b => cases e; exact ⟨.bl _ _, .bl _⟩
    | int i => cases e; exact ⟨.int _ _, .int _⟩
    | str y =>
      unfold res at e
      split at e
      · cases e; exact ⟨.str _ (by assumption), .str _⟩
      · cases e
    | wd h1 h2 => cases e; rw [h2]; exact ⟨.wd _ h1, .str _⟩
    | _ => cases e
  | succ k ih =>
    intro v d x r e
    cases r with
    | non => cases e; exact ⟨.non _, .non⟩
    | bl b => cases e; exact ⟨.bl _ _, .bl _⟩
    | int i => cases e; exact ⟨.int _ _, .int _⟩
    | str y =>
      unfold res at e
      split at e
      · cases e; exact ⟨.str _ (by assumption), .str _⟩
      · cases e
    | wd h1 h2 => cases e; rw [h2]; exact ⟨.wd _ h1, .str _⟩
    | tup h1 r =>
      obtain ⟨ys, e1, rfl⟩ := Option.map_eq_some_iff.mp (show (optAll (res h k) _).map D.tup = some x from e)
      have q := lists k ih r e1
      refine ⟨.tup q.1, .tup ?_ q.2⟩
      rcases h1 with h1 | h1
      · exact .inr h1
      · exact .inl h1.1
    | vl h1 h2 r =>
      obtain ⟨ys, e1, rfl⟩ := Option.map_eq_some_iff.mp (show (optAll (res h k) _).map D.vl = some x from e)
      have q := lists k ih r e1
      exact ⟨.vl q.1, .lst (SqL.of h1) q.2⟩
    | fl h1 r =>
      obtain ⟨ys, e1, rfl⟩ := Option.map_eq_some_iff.mp (show (optAll (res h k) _).map D.vl = some x from e)
      have q := lists k ih r e1
      refine ⟨.vl q.1, .lst ?_ q.2⟩
      rcases h1 with h1 | h1
      · exact .inr h1
      · exact .inl h1.1
    | ref hi =>
      rename_i i
      unfold res at e
      split at e
      · rename_i ys h1
        obtain ⟨zs, e1, rfl⟩ := Option.map_eq_some_iff.mp e
        obtain ⟨vs, q1, q2⟩ := rh.lst (lstAt_ok h1)
        have q := lists k ih q2 e1
        exact ⟨.vl q.1, .lst (SqL.of q1) q.2⟩
      · cases e
/-- how deep data is looked at -/
def dp : Nat := 8
def eqD : D → D → IH → Out D := fun x y h => match res h dp x, res h dp y with
  | some a, some b => .ok (.bl (eqW a b)) h
  | _, _ => .bad
def neD : D → D → IH → Out D := fun x y h => match res h dp x, res h dp y with
  | some a, some b => .ok (.bl (!eqW a b)) h
  | _, _ => .bad
theorem Good.shaped {k : Nat} {d : D} (q : Good k d) (hk : k ≤ 64) : SeqAt.shaped (py d) = true := by
  have := q.lay
  unfold SeqAt.shaped
  rw [Bool.and_eq_true]
  exact ⟨this.1, decide_eq_true (by omega)⟩
theorem eqD_ok {g : G} : OpS g (rEqD g.K) eqD := by
  intro m h H x y dx dy E Q rh rx ry p
  unfold eqD at p
  cases e1 : res h dp dx with
  | none => rw [e1] at p; exact p.elim
  | some a =>
    cases e2 : res h dp dy with
    | none => rw [e1, e2] at p; exact p.elim
    | some b =>
      rw [e1, e2] at p
      obtain ⟨g1, d1⟩ := res_ok rh dp rx e1
      obtain ⟨g2, d2⟩ := res_ok rh dp ry e2
      refine ⟨py a, py b, d1, d2, g1.shaped (by decide), g2.shaped (by decide), ?_⟩
      rw [← Good.eqv g1 g2]
      exact Post.val p rh (.bl _)
theorem neD_ok {g : G} : OpS g (rNeD g.K) neD := by
  intro m h H x y dx dy E Q rh rx ry p
  unfold neD at p
  cases e1 : res h dp dx with
  | none => rw [e1] at p; exact p.elim
  | some a =>
    cases e2 : res h dp dy with
    | none => rw [e1, e2] at p; exact p.elim
    | some b =>
      rw [e1, e2] at p
      obtain ⟨g1, d1⟩ := res_ok rh dp rx e1
      obtain ⟨g2, d2⟩ := res_ok rh dp ry e2
      refine ⟨py a, py b, d1, d2, g1.shaped (by decide), g2.shaped (by decide), ?_⟩
      rw [← Good.eqv g1 g2]
      exact Post.val p rh (.bl _)
theorem cr_eq {n : Nat} (hr : Room n X.A) : CmpRule X T .Eq eqD := ⟨_, op_eqD hr.units, eqD_ok⟩
theorem cr_ne {n : Nat} (hr : Room n X.A) : CmpRule X T .NotEq neD := ⟨_, op_neD hr.units, neD_ok⟩
end
end DL

set_option Elab.async false
set_option linter.all false
set_option maxRecDepth 100000
set_option autoImplicit false
/-! Tests, arguments, calls of built-ins, displays, subscripts, fields. -/
namespace DL
open PySem PySem.Spec PyProof.Rows L2

theorem Post.bind {α β γ δ : Type} {R : (Mp) → Nat → Hp → β → α → Prop} {R2 : (Mp) → Nat → Hp → δ → γ → Prop} {g : G} {E : XK} {o : Out α} {k : α → IH → Out γ} {H : Hp} {Q : δ → Hp → Prop} {m : Mp} {n : Nat} {P : β → Hp → Prop}
    (p : Post R2 g m n H E Q (o.bind k))
    (ok : ∀ m' h' H' v d, Ex m n H m' h'.length H' → RH g m' h' H' → R m' h'.length H' v d → Post R2 g m' h'.length H' E Q (k d h') → P v H') : Post R g m n H E P o := by
  cases o with
  | ok d h' =>
    intro m' H' v a b c
    refine ok m' h' H' v d a b c ?_
    have p : Post R2 g m n H E Q (k d h') := p
    cases e2 : k d h' with
    | ok d2 h2 =>
      rw [e2] at p
      exact fun m2 H2 v2 a2 b2 c2 => p m2 H2 v2 (a.trans a2) b2 c2
    | err c2 h2 =>
      rw [e2] at p
      exact fun m2 H2 C2 a2 b2 c2 => p m2 H2 C2 (a.trans a2) b2 c2
    | bad =>
      rw [e2] at p
      exact p
  | err c h' => exact p
  | bad => exact p

section
variable {X : Cx} {T : List (Addr × Str)} {E : XK} {a b c e : Expr} {es rest : List Expr} {pos : Pos} {f k l : ME} {tA tB : MT}

/-! ### tests -/
def asB (d : D) (h : IH) : Out Bool := match d with
  | .bl b => .ok b h
  | _ => .bad
@[simp] theorem asB_bl (b : Bool) (h : IH) : asB (.bl b) h = .ok b h := rfl
def tst (f : ME) : MT := fun en h => (f en h).bind asB
theorem asB_post {g : G} {m : Mp} {n : Nat} {h : IH} {H : Hp} {Q : Bool → Hp → Prop} {v : V} {d : D} (rh : RH g m h H) (rv : Rv g.K m h.length H v d) (p : Post RB g m h.length H E Q (asB d h)) : ∃ c, v = .bl c ∧ Q c H := by
  cases d with
  | bl b =>
    cases rv
    exact ⟨b, rfl, p m H b (Ex.refl _ _ _) rh rfl⟩
  | _ => exact p.elim
theorem dt_cmp {op : CmpOp} {o : D → D → IH → Out D} (c : CmpRule X T op o) (ha : DE X T E a f) (hb : DE X T E b k) (hm : behindInMarks op b = false := by first | exact nomark _ | rfl) : DT X T E (.Compare a [op] [b] pos) (tst (op2 o f k)) := by
  obtain ⟨r, ho, hs⟩ := c
  refine PT.imp (pt_cmpR ho ha hb hm) fun σ H Q q => ?_
  obtain ⟨m, h, en, rel, p⟩ := q
  have p : Post RB (gX X T) m h.length H E Q ((op2 o f k en h).bind asB) := p
  have q : LE (gX X T) E (op2 o f k) σ H (fun x H' => ∃ k, x = .bl k ∧ Q k H') := chain rel p fun m1 h1 H1 v d e1 rel1 rv1 p1 => asB_post (n := 0) rel1.rh rv1 p1
  exact red2 hs q
theorem dt_val (ha : DE X T E a f) (he : ∀ whole, isTrue a X.env whole = (do let v ← whole; standAt a.pos; holding [v] (truthy v)) := by intro _; rfl) : DT X T E a (tst f) :=
  PT.imp (pt_val ha he) fun σ H Q ⟨m, h, en, rel, p⟩ => chain rel p fun m1 h1 H1 v d e1 rel1 rv1 p1 => asB_post (n := 0) rel1.rh rv1 p1
theorem dt_isN {j : Nat} {pos' : Pos} (ha : DE X T E a f) : DT X T E (.Compare a [.Is] [.Constant .none j pos'] pos) (tst (op1 isN f)) :=
  PT.imp (pt_cmp (pc_isN ha)) fun σ H Q ⟨m, h, en, rel, p⟩ => by
    have p : Post RB (gX X T) m h.length H E Q (((f en h).bind isN).bind asB) := p
    refine ⟨m, h, en, rel, ?_⟩
    cases e : f en h with
    | ok d h1 =>
      rw [e] at p
      intro m1 H1 v a1 b1 c1
      rw [isNone_ok c1]
      exact ⟨_, rfl, p m1 H1 _ a1 b1 rfl⟩
    | err c h1 => rw [e] at p; exact p
    | bad => rw [e] at p; exact p
theorem dt_isNN {j : Nat} {pos' : Pos} (ha : DE X T E a f) : DT X T E (.Compare a [.IsNot] [.Constant .none j pos'] pos) (tst (op1 isNN f)) :=
  PT.imp (pt_cmp (pc_notN ha)) fun σ H Q ⟨m, h, en, rel, p⟩ => by
    have p : Post RB (gX X T) m h.length H E Q (((f en h).bind isNN).bind asB) := p
    refine ⟨m, h, en, rel, ?_⟩
    cases e : f en h with
    | ok d h1 =>
      rw [e] at p
      intro m1 H1 v a1 b1 c1
      rw [isNone_ok c1]
      exact ⟨_, rfl, p m1 H1 _ a1 b1 rfl⟩
    | err c h1 => rw [e] at p; exact p
    | bad => rw [e] at p; exact p

/-! ### and, or, not -/
def DW (X : Cx) (T : List (Addr × Str)) (E : XK) (e : Expr) (f : MT) : Prop := PW X e (LT (gX X T) E f)
theorem PW.imp {X : Cx} {e : Expr} {t t' : TT} (h : PW X e t) (q : ∀ σ H Q, t' σ H Q → t σ H Q) : PW X e t' := ⟨fun wh pins s σ H Q I w => h.run wh pins s σ H Q I (q σ H Q w)⟩
def andT (f k : MT) : MT := fun en h => (f en h).bind fun b h1 => match b with
  | true => k en h1
  | false => .ok false h1
def orT (f k : MT) : MT := fun en h => (f en h).bind fun b h1 => match b with
  | true => .ok true h1
  | false => k en h1
def notT (f : MT) : MT := fun en h => (f en h).bind fun b h1 => .ok (!b) h1
theorem dw_and1 (ha : DT X T E a tA) : DW X T E (.BoolOp .And [a] pos) tA := pw_and1 ha
theorem dw_or1 (ha : DT X T E a tA) : DW X T E (.BoolOp .Or [a] pos) tA := pw_or1 ha
theorem dw_and (ha : DT X T E a tA) (hb : DW X T E (.BoolOp .And (b :: rest) pos) tB) : DW X T E (.BoolOp .And (a :: b :: rest) pos) (andT tA tB) :=
  PW.imp (pw_and ha hb) fun σ H Q ⟨m, h, en, rel, p⟩ => chain rel p fun m1 h1 H1 v d e1 rel1 rv1 p1 => by
    cases (show v = d from rv1)
    cases v with
    | true => rw [if_pos rfl]; exact ⟨m1, h1, en, rel1, p1⟩
    | false => rw [if_neg Bool.false_ne_true]; exact p1 m1 H1 _ (Ex.refl _ _ _) rel1.rh rfl
theorem dw_or (ha : DT X T E a tA) (hb : DW X T E (.BoolOp .Or (b :: rest) pos) tB) : DW X T E (.BoolOp .Or (a :: b :: rest) pos) (orT tA tB) :=
  PW.imp (pw_or ha hb) fun σ H Q ⟨m, h, en, rel, p⟩ => chain rel p fun m1 h1 H1 v d e1 rel1 rv1 p1 => by
    cases (show v = d from rv1)
    cases v with
    | false => rw [if_neg Bool.false_ne_true]; exact ⟨m1, h1, en, rel1, p1⟩
    | true => rw [if_pos rfl]; exact p1 m1 H1 _ (Ex.refl _ _ _) rel1.rh rfl
theorem DW.dt {f : MT} (h : DW X T E e f) : DT X T E e f := L2.PW.pt h
theorem dt_not (ha : DT X T E a tA) : DT X T E (.UnaryOp .Not a pos) (notT tA) :=
  PT.imp (pt_not ha) fun σ H Q ⟨m, h, en, rel, p⟩ => chain rel p fun m1 h1 H1 v d e1 rel1 rv1 p1 => by
    cases (show v = d from rv1)
    exact p1 m1 H1 _ (Ex.refl _ _ _) rel1.rh rfl
/-- as values -/
def andE (f k : ME) : ME := fun en h => (f en h).bind fun x h1 => (asB x h1).bind fun b h2 => match b with
  | true => k en h2
  | false => .ok (.bl false) h2
def orE (f k : ME) : ME := fun en h => (f en h).bind fun x h1 => (asB x h1).bind fun b h2 => match b with
  | true => .ok (.bl true) h2
  | false => k en h2
def notD (x : D) (h : IH) : Out D := (asB x h).bind fun b h1 => .ok (.bl (!b)) h1
theorem de_one {op : BoolOp} (ha : DE X T E a f) : DE X T E (.BoolOp op [a] pos) f := pe_one ha
theorem de_and (ha : DE X T E a f) (hb : DE X T E (.BoolOp .And (b :: rest) pos) k) : DE X T E (.BoolOp .And (a :: b :: rest) pos) (andE f k) :=
  PE.imp (pe_and ha hb) fun σ H Q ⟨m, h, en, rel, p⟩ => chain rel p fun m1 h1 H1 v d e1 rel1 rv1 p1 => by
    cases d with
    | bl c =>
      cases rv1
      refine ⟨c, rfl, ?_⟩
      cases c with
      | true => rw [if_pos rfl]; exact ⟨m1, h1, en, rel1, p1⟩
      | false => rw [if_neg Bool.false_ne_true]; exact Post.val p1 rel1.rh (.bl _)
    | _ => exact p1.elim
theorem de_or (ha : DE X T E a f) (hb : DE X T E (.BoolOp .Or (b :: rest) pos) k) : DE X T E (.BoolOp .Or (a :: b :: rest) pos) (orE f k) :=
  PE.imp (pe_or ha hb) fun σ H Q ⟨m, h, en, rel, p⟩ => chain rel p fun m1 h1 H1 v d e1 rel1 rv1 p1 => by
    cases d with
    | bl c =>
      cases rv1
      refine ⟨c, rfl, ?_⟩
      cases c with
      | false => rw [if_neg Bool.false_ne_true]; exact ⟨m1, h1, en, rel1, p1⟩
      | true => rw [if_pos rfl]; exact Post.val p1 rel1.rh (.bl _)
    | _ => exact p1.elim
theorem de_not (ha : DE X T E a f) : DE X T E (.UnaryOp .Not a pos) (op1 notD f) :=
  PE.imp (pe_not ha) fun σ H Q ⟨m, h, en, rel, p⟩ => chain rel p fun m1 h1 H1 v d e1 rel1 rv1 p1 => by
    cases d with
    | bl c =>
      cases rv1
      exact ⟨c, rfl, Post.val p1 rel1.rh (.bl _)⟩
    | _ => exact p1.elim
def iteE (t : MT) (f k : ME) : ME := fun en h => (t en h).bind fun b h1 => match b with
  | true => f en h1
  | false => k en h1
theorem de_ifExp (hc : DT X T E c tA) (ha : DE X T E a f) (hb : DE X T E b k) : DE X T E (.IfExp c a b pos) (iteE tA f k) :=
  PE.imp (pe_ifExp hc ha hb) fun σ H Q ⟨m, h, en, rel, p⟩ => chain rel p fun m1 h1 H1 v d e1 rel1 rv1 p1 => by
    cases (show v = d from rv1)
    cases v with
    | true => rw [if_pos rfl]; exact ⟨m1, h1, en, rel1, p1⟩
    | false => rw [if_neg Bool.false_ne_true]; exact ⟨m1, h1, en, rel1, p1⟩
/-- a < b < c -/
def chE (o o' : D → D → IH → Out D) (f k l : ME) : ME := fun en h => (f en h).bind fun x h1 => (k en h1).bind fun y h2 => (o x y h2).bind fun z h3 => (asB z h3).bind fun b h4 => match b with
  | true => (l en h4).bind fun w h5 => o' y w h5
  | false => .ok (.bl false) h4
theorem redCh {r r' : R2} {o o' : D → D → IH → Out D} {σ : L2.St} {H : Hp} {Q : VK} (hs : OpS (gX X T) r o) (hs' : OpS (gX X T) r' o') (q : LE (gX X T) E (chE o o' f k l) σ H Q) : tChain r r' (LE (gX X T) E f) (LE (gX X T) E k) (LE (gX X T) E l) σ H Q := by
  obtain ⟨m, h, en, rel, p⟩ := q
  refine chain rel p fun m1 h1 H1 v d e1 rel1 rv1 p1 => chain rel1 p1 fun m2 h2 H2 w d2 e2 rel2 rv2 p2 => hs m2 h2 H2 v w d d2 E _ rel2.rh (rv1.mono e2) rv2 (Post.bind p2 fun m3 h3 H3 z d3 e3 rh3 rv3 p3 => ?_)
  cases d3 with
  | bl c =>
    cases rv3
    refine ⟨c, rfl, ?_⟩
    have rel3 := rel2.next e3 rh3
    cases c with
    | true =>
      rw [if_pos rfl]
      exact chain rel3 p3 fun m4 h4 H4 u d4 e4 rel4 rv4 p4 => hs' m4 h4 H4 w u d2 d4 E Q rel4.rh ((rv2.mono e3).mono e4) rv4 p4
    | false => rw [if_neg Bool.false_ne_true]; exact Post.val p3 rh3 (.bl _)
  | _ => exact p3.elim
theorem de_chain {op op' : CmpOp} {o o' : D → D → IH → Out D} (h1 : CmpRule X T op o) (h2 : CmpRule X T op' o') (ha : DE X T E a f) (hb : DE X T E b k) (hc : DE X T E c l) (hm : lastMarks [op, op'] [b, c] = false := by with_unfolding_all rfl) :
    DE X T E (.Compare a [op, op'] [b, c] pos) (chE o o' f k l) := by
  obtain ⟨r, ho, hs⟩ := h1
  obtain ⟨r', ho', hs'⟩ := h2
  exact PE.imp (pe_chain ho ho' ha hb hc hm) fun _ _ _ q => redCh hs hs' q
theorem dt_chain {op op' : CmpOp} {o o' : D → D → IH → Out D} (h1 : CmpRule X T op o) (h2 : CmpRule X T op' o') (ha : DE X T E a f) (hb : DE X T E b k) (hc : DE X T E c l) (hm : lastMarks [op, op'] [b, c] = false := by with_unfolding_all rfl) :
    DT X T E (.Compare a [op, op'] [b, c] pos) (tst (chE o o' f k l)) := by
  obtain ⟨r, ho, hs⟩ := h1
  obtain ⟨r', ho', hs'⟩ := h2
  refine PT.imp (pt_chain ho ho' ha hb hc hm) fun σ H Q q => ?_
  obtain ⟨m, h, en, rel, p⟩ := q
  have p : Post RB (gX X T) m h.length H E Q ((chE o o' f k l en h).bind asB) := p
  have q : LE (gX X T) E (chE o o' f k l) σ H (fun x H' => ∃ k, x = .bl k ∧ Q k H') := chain rel p fun m1 h1 H1 v d e1 rel1 rv1 p1 => asB_post (n := 0) rel1.rh rv1 p1
  exact redCh hs hs' q

/-! ### in -/
def flatD : D → Bool
  | .non => true
  | .bl _ => true
  | .int _ => true
  | .str _ => true
  | .wd _ => true
  | _ => false
theorem flat_ok {K : PySem.W.Frag} {m : Mp} {n : Nat} {H : Hp} {v : V} {d : D} (r : Rv K m n H v d) (q : flatD d = true) : flatV v = true := by
  cases r <;> first | rfl | cases q
theorem eqV_ok {K : PySem.W.Frag} {m : Mp} {n : Nat} {H : Hp} {v u : V} {d e : D} (r : Rv K m n H v d) (r' : Rv K m n H u e) (q : flatD d = true) (q' : flatD e = true) : eqV v u = eqW d e := by
  cases r with
  | non => cases r' <;> first | rfl | cases q'
  | bl => cases r' <;> first | rfl | cases q'
  | int => cases r' <;> first | rfl | cases q'
  | str =>
    cases r' with
    | wd h1 h2 => rw [h2]; rfl
    | _ => first | rfl | cases q'
  | wd h1 h2 =>
    cases r' with
    | wd h3 h4 =>
      rw [h2, h4]
      exact (beq_wds h1 h3).symm
    | str x => rw [h2]; rfl
    | _ => first | rfl | cases q'
  | _ => cases q
theorem flats_ok {K : PySem.W.Frag} {m : Mp} {n : Nat} {H : Hp} {x : V} {dx : D} (r : Rv K m n H x dx) (q : flatD dx = true) : ∀ {vs : List V} {ds : List D}, Rvs K m n H vs ds → ds.all flatD = true → vs.all flatV = true ∧ inV x vs = ds.any fun y => eqW y dx
  | _, _, .nil, _ => ⟨rfl, rfl⟩
  | _, _, .cons a b, h => by
    rw [List.all_cons, Bool.and_eq_true] at h
    have z := flats_ok r q b h.2
    refine ⟨by rw [List.all_cons, z.1, flat_ok a h.1]; rfl, ?_⟩
    show (eqV _ x || inV x _) = _
    rw [List.any_cons, z.2, eqV_ok a r h.1 q]
def getS (h : IH) (d : D) : Option (List D) := match getL h d with
  | some xs => some xs
  | none => getT d
def inD (neg : Bool) : D → D → IH → Out D := fun x y h => match getS h y with
  | some xs => grd (flatD x && xs.all flatD) (.ok (.bl (if neg then !(xs.any fun z => eqW z x) else xs.any fun z => eqW z x)) h)
  | none => .bad
theorem getS_ok {g : G} {m : Mp} {h : IH} {H : Hp} {v : V} {d : D} {xs : List D} (rh : RH g m h H) (rv : Rv g.K m h.length H v d) (e : getS h d = some xs) : ∃ a vs, v = .ref a ∧ (SqL g.K H a vs ∨ SqT g.K H a vs) ∧ Rvs g.K m h.length H vs xs := by
  unfold getS at e
  split at e
  · rename_i ys h1
    cases e
    obtain ⟨a, vs, e1, s, r⟩ := getL_ok rh rv h1
    exact ⟨a, vs, e1, .inl s, r⟩
  · obtain ⟨a, vs, e1, s, r⟩ := getT_ok rv e
    exact ⟨a, vs, e1, .inr s, r⟩
theorem inD_ok {g : G} {neg : Bool} : OpS g (rIn g.K neg) (inD neg) := by
  intro m h H x y dx dy E Q rh rx ry p
  unfold inD at p
  cases e : getS h dy with
  | none => rw [e] at p; exact p.elim
  | some xs =>
    rw [e] at p
    obtain ⟨hc, p⟩ := Post.grd p
    rw [Bool.and_eq_true] at hc
    obtain ⟨a, vs, rfl, s, r⟩ := getS_ok rh ry e
    have z := flats_ok rx hc.1 r hc.2
    refine ⟨a, vs, rfl, s, flat_ok rx hc.1, z.1, ?_⟩
    rw [z.2]
    exact Post.val p rh (.bl _)
theorem cr_in : CmpRule X T .In (inD false) := ⟨_, op_in_seq, inD_ok⟩
theorem cr_notin : CmpRule X T .NotIn (inD true) := ⟨_, op_notIn_seq, inD_ok⟩

/-! ### arguments, displays -/
def nilA : MA := fun _ h => .ok [] h
def consA (f : ME) (k : MA) : MA := fun en h => (f en h).bind fun x h1 => (k en h1).bind fun xs h2 => .ok (x :: xs) h2
theorem da_nil : DA X T E [] nilA := PA.imp pa_nil fun σ H Q ⟨m, h, en, rel, p⟩ => p m H [] (Ex.refl _ _ _) rel.rh .nil
theorem da_cons {t : MA} (ha : DE X T E e f) (hr : DA X T E es t) (hs : starEach (e :: es) X.env = (false, eval e X.env) :: starEach es X.env := by rfl) : DA X T E (e :: es) (consA f t) :=
  PA.imp (pa_cons ha hr hs) fun σ H Q ⟨m, h, en, rel, p⟩ => chain rel p fun m1 h1 H1 v d e1 rel1 rv1 p1 => chain rel1 p1 fun m2 h2 H2 vs ds e2 rel2 rv2 p2 => p2 m2 H2 _ (Ex.refl _ _ _) rel2.rh (.cons (rv1.mono e2) rv2)
def tupE (t : MA) : ME := fun en h => (t en h).bind fun xs h1 => grd (decide (xs.length ≤ sizeLine)) (.ok (.tup xs) h1)
def lstE (r : Bool) (t : MA) : ME := fun en h => (t en h).bind fun xs h1 => grd (decide (xs.length ≤ sizeLine)) (outL r xs h1)
theorem de_tup {t : MA} {x1 : Nat} (ha : DA X T E es t) : DE X T E (.Tuple es x1 pos) (tupE t) :=
  PE.imp (pe_tup ha) fun σ H Q ⟨m, h, en, rel, p⟩ => chain rel p fun m1 h1 H1 v d e1 rel1 rv1 p1 => by
    obtain ⟨hc, p1⟩ := Post.grd p1
    exact ⟨by rw [rv1.length]; exact of_decide_eq_true hc, fun q hq => p1.tup rel1.rh rv1 hq⟩
theorem de_lst (r : Bool) {t : MA} (ha : DA X T E es t) : DE X T E (.List es pos) (lstE r t) :=
  PE.imp (pe_lst ha) fun σ H Q ⟨m, h, en, rel, p⟩ => chain rel p fun m1 h1 H1 v d e1 rel1 rv1 p1 => by
    obtain ⟨hc, p1⟩ := Post.grd p1
    exact ⟨by rw [rv1.length]; exact of_decide_eq_true hc, fun q hq => p1.outL rel1.rh rv1 hq⟩

/-! ### built-ins by name -/
def callB (o : List D → IH → Out D) (t : MA) : ME := fun en h => (t en h).bind o
def ClS (g : G) (r : List V → Hp → VK → Prop) (o : List D → IH → Out D) : Prop := ∀ (m : Mp) (h : IH) (H : Hp) (vs : List V) (ds : List D) (E : XK) (Q : VK), RH g m h H → Rvs g.K m h.length H vs ds →
  Post (Rv g.K) g m h.length H E Q (o ds h) → r vs H Q
theorem de_callB {id : String} {r : List V → Hp → VK → Prop} {o : List D → IH → Out D} {t : MA} {x : Str} {p : Pos} (hc : CallR X (.builtin id) r) (hs : ClS (gX X T) r o) (hm : X.mg x = none) (hv : bootBuiltins x = some (.builtin id)) (ha : DA X T E (e :: es) t)
    (hg : Gl X x := by rfl) (hn : x ≠ "__name__" := by decide) (hdb : (x == ("__debug__" : Str)) = false := by decide)
    (he : starEach (e :: es) X.env = (false, eval e X.env) :: starEach es X.env := by rfl) (hpl : (backTo pos (starEach es X.env)).any (·.1) = false := by rfl) : DE X T E (.Call (.Name x p) (e :: es) [] pos) (callB o t) :=
  PE.imp (pe_callB hc hg hm hv ha hn hdb he hpl) fun σ H Q ⟨m, h, en, rel, p⟩ => chain rel p fun m1 h1 H1 v d e1 rel1 rv1 p1 => hs m1 h1 H1 v d E Q rel1.rh rv1 p1
theorem de_callTy {id : String} {r : List V → Hp → VK → Prop} {o : List D → IH → Out D} {t : MA} {x : Str} {p : Pos} (hc : CallR X (.type id) r) (hs : ClS (gX X T) r o) (hm : X.mg x = none) (hv : bootBuiltins x = some (.type id)) (ha : DA X T E (e :: es) t)
    (hg : Gl X x := by rfl) (hn : x ≠ "__name__" := by decide) (hdb : (x == ("__debug__" : Str)) = false := by decide)
    (he : starEach (e :: es) X.env = (false, eval e X.env) :: starEach es X.env := by rfl) (hpl : (backTo pos (starEach es X.env)).any (·.1) = false := by rfl) : DE X T E (.Call (.Name x p) (e :: es) [] pos) (callB o t) :=
  PE.imp (pe_callTy hc hg hm hv ha hn hdb he hpl) fun σ H Q ⟨m, h, en, rel, p⟩ => chain rel p fun m1 h1 H1 v d e1 rel1 rv1 p1 => hs m1 h1 H1 v d E Q rel1.rh rv1 p1
theorem Rvs.one {K : PySem.W.Frag} {m : Mp} {n : Nat} {H : Hp} {vs : List V} {d : D} (r : Rvs K m n H vs [d]) : ∃ v, vs = [v] ∧ Rv K m n H v d := by
  cases r with
  | cons a b => cases b; exact ⟨_, rfl, a⟩
theorem Rvs.two {K : PySem.W.Frag} {m : Mp} {n : Nat} {H : Hp} {vs : List V} {d e : D} (r : Rvs K m n H vs [d, e]) : ∃ v w, vs = [v, w] ∧ Rv K m n H v d ∧ Rv K m n H w e := by
  cases r with
  | cons a b =>
    cases b with
    | cons c z => cases z; exact ⟨_, _, rfl, a, c⟩
def lenD : List D → IH → Out D
  | [x], h => match x with
    | .str s => grd (decide (s.length ≤ sizeLine)) (.ok (.int s.length) h)
    | _ => match getS h x with
      | some xs => .ok (.int xs.length) h
      | none => .bad
  | _, _ => .bad
theorem lenD_ok {g : G} : ClS g (fun xs H Q => ∃ x n, xs = [x] ∧ LenV g.K x H n ∧ Q (.int n) H) lenD := by
  intro m h H vs ds E Q rh rv p
  cases ds with
  | nil => exact p.elim
  | cons d ds =>
    cases ds with
    | cons _ _ => exact p.elim
    | nil =>
      obtain ⟨v, rfl, r⟩ := rv.one
      have key : ∀ xs, getS h d = some xs → Post (Rv g.K) g m h.length H E Q (.ok (.int xs.length) h) → ∃ x n, [v] = [x] ∧ LenV g.K x H n ∧ Q (.int n) H := fun xs e p => by
        obtain ⟨a, vs, rfl, s, r2⟩ := getS_ok rh r e
        refine ⟨.ref a, vs.length, rfl, ?_, by rw [r2.length]; exact Post.val p rh (.int _)⟩
        rcases s with s | s
        · exact .inl ⟨vs, s, rfl⟩
        · exact .inr ⟨vs, s, rfl⟩
      cases d with
      | str s =>
        cases r
        obtain ⟨hc, p⟩ := Post.grd (show Post (Rv g.K) g m h.length H E Q (grd (decide (s.length ≤ sizeLine)) (.ok (.int s.length) h)) from p)
        exact ⟨.str s, s.length, rfl, ⟨of_decide_eq_true hc, rfl⟩, Post.val p rh (.int _)⟩
      | tup xs => exact key xs rfl p
      | vl xs => exact key xs rfl p
      | fl xs => exact key xs rfl p
      | ref i =>
        cases e : getS h (.ref i) with
        | none =>
          have p : Post (Rv g.K) g m h.length H E Q (match getS h (.ref i) with | some xs => .ok (.int xs.length) h | none => .bad) := p
          rw [e] at p
          exact p.elim
        | some xs =>
          have p : Post (Rv g.K) g m h.length H E Q (match getS h (.ref i) with | some xs => .ok (.int xs.length) h | none => .bad) := p
          rw [e] at p
          exact key xs e p
      | _ => exact p.elim
theorem de_len {t : MA} {p : Pos} (hm : X.mg "len" = none) (ha : DA X T E [e] t) (hg : Gl X "len" := by rfl) (he : starEach (e :: []) X.env = (false, eval e X.env) :: starEach [] X.env := by rfl) : DE X T E (.Call (.Name "len" p) [e] [] pos) (callB lenD t) :=
  de_callB call_len lenD_ok hm PySem.boot_len ha hg (by decide) (by decide) he

/-- bools of a list -/
def asBs : List D → Option (List Bool) := optAll fun d => match d with
  | .bl b => some b
  | _ => none
def asIs : List D → Option (List Int) := optAll fun d => match d with
  | .int b => some b
  | _ => none
theorem asBs_ok {ds : List D} {bs : List Bool} (h : asBs ds = some bs) : ds = bs.map D.bl := by
  have q := optAll_ok h
  clear h
  induction q with
  | nil => rfl
  | cons a _ ih =>
    rw [List.map_cons, ← ih]
    rename_i x y _ _ _
    cases x <;> first | (cases a; rfl) | cases a
theorem asIs_ok {ds : List D} {bs : List Int} (h : asIs ds = some bs) : ds = bs.map D.int := by
  have q := optAll_ok h
  clear h
  induction q with
  | nil => rfl
  | cons a _ ih =>
    rw [List.map_cons, ← ih]
    rename_i x y _ _ _
    cases x <;> first | (cases a; rfl) | cases a
def one (o : D → IH → Out D) : List D → IH → Out D
  | [x], h => o x h
  | _, _ => .bad
/-- a rule of one argument -/
theorem one_ok {g : G} {r : List V → Hp → VK → Prop} {o : D → IH → Out D} (h : ∀ (m : Mp) (h : IH) (H : Hp) (v : V) (d : D) (E : XK) (Q : VK), RH g m h H → Rv g.K m h.length H v d → Post (Rv g.K) g m h.length H E Q (o d h) → r [v] H Q) : ClS g r (one o) := by
  intro m hh H vs ds E Q rh rv p
  cases ds with
  | nil => exact p.elim
  | cons d ds =>
    cases ds with
    | cons _ _ => exact p.elim
    | nil =>
      obtain ⟨v, rfl, r⟩ := rv.one
      exact h m hh H v d E Q rh r p
def allD (x : D) (h : IH) : Out D := match getL h x with
  | some xs => (match asBs xs with
    | some bs => .ok (.bl (bs.all id)) h
    | none => .bad)
  | none => .bad
theorem de_all {t : MA} {p : Pos} (hc : X.calm = true) (hm : X.mg "all" = none) (ha : DA X T E [e] t) (hg : Gl X "all" := by rfl) (he : starEach (e :: []) X.env = (false, eval e X.env) :: starEach [] X.env := by rfl) : DE X T E (.Call (.Name "all" p) [e] [] pos) (callB (one allD) t) :=
  de_callB (cr_all hc) (one_ok fun m h H v d E Q rh r p => by
    unfold allD at p
    cases e : getL h d with
    | none => rw [e] at p; exact p.elim
    | some xs =>
      rw [e] at p
      cases e2 : asBs xs with
      | none => dsimp only at p; rw [e2] at p; exact p.elim
      | some bs =>
        dsimp only at p
        rw [e2] at p
        obtain ⟨a, vs, rfl, s, r2⟩ := getL_ok rh r e
        rw [asBs_ok e2] at r2
        rw [r2.bls] at s
        exact ⟨a, bs, rfl, s, Post.val p rh (.bl _)⟩) hm (by decide +kernel) ha hg (by decide) (by decide) he
def sumD (x : D) (h : IH) : Out D := match getL h x with
  | some xs => (match asIs xs with
    | some bs => .ok (.int bs.sum) h
    | none => .bad)
  | none => .bad
theorem de_sum {t : MA} {p : Pos} (hc : X.calm = true) (hm : X.mg "sum" = none) (ha : DA X T E [e] t) (hg : Gl X "sum" := by rfl) (he : starEach (e :: []) X.env = (false, eval e X.env) :: starEach [] X.env := by rfl) : DE X T E (.Call (.Name "sum" p) [e] [] pos) (callB (one sumD) t) :=
  de_callB (cr_sum hc) (one_ok fun m h H v d E Q rh r p => by
    unfold sumD at p
    cases e : getL h d with
    | none => rw [e] at p; exact p.elim
    | some xs =>
      rw [e] at p
      cases e2 : asIs xs with
      | none => dsimp only at p; rw [e2] at p; exact p.elim
      | some bs =>
        dsimp only at p
        rw [e2] at p
        obtain ⟨a, vs, rfl, s, r2⟩ := getL_ok rh r e
        rw [asIs_ok e2] at r2
        rw [r2.ints] at s
        exact ⟨a, bs, rfl, s, Post.val p rh (.int _)⟩) hm (by decide +kernel) ha hg (by decide) (by decide) he
def max2 : List D → IH → Out D
  | [.int i, .int j], h => .ok (.int (if j > i then j else i)) h
  | _, _ => .bad
def min2 : List D → IH → Out D
  | [.int i, .int j], h => .ok (.int (if j < i then j else i)) h
  | _, _ => .bad
theorem two_ok {g : G} {z : Int → Int → Int} {o : List D → IH → Out D} (ho : ∀ ds h, (∃ i j, ds = [.int i, .int j] ∧ o ds h = .ok (.int (z i j)) h) ∨ o ds h = .bad) : ClS g (fun xs H Q => ∃ i j, xs = [.int i, .int j] ∧ Q (.int (z i j)) H) o := by
  intro m h H vs ds E Q rh rv p
  rcases ho ds h with ⟨i, j, rfl, e⟩ | e
  · rw [e] at p
    obtain ⟨v, w, rfl, r1, r2⟩ := rv.two
    cases r1
    cases r2
    exact ⟨i, j, rfl, Post.val p rh (.int _)⟩
  · rw [e] at p
    exact p.elim
theorem de_max2 {t : MA} {p : Pos} {e2 : Expr} (hc : X.calm = true) (hm : X.mg "max" = none) (ha : DA X T E [e, e2] t) (hg : Gl X "max" := by rfl) (he : starEach [e, e2] X.env = (false, eval e X.env) :: starEach [e2] X.env := by rfl) (hpl : (backTo pos (starEach [e2] X.env)).any (·.1) = false := by rfl) :
    DE X T E (.Call (.Name "max" p) [e, e2] [] pos) (callB max2 t) :=
  de_callB (call_max2 hc) (two_ok (z := fun i j => if j > i then j else i) fun ds h => by unfold max2; split; exact .inl ⟨_, _, rfl, rfl⟩; exact .inr rfl) hm (by decide +kernel) ha hg (by decide) (by decide) he hpl
theorem de_min2 {t : MA} {p : Pos} {e2 : Expr} (hc : X.calm = true) (hm : X.mg "min" = none) (ha : DA X T E [e, e2] t) (hg : Gl X "min" := by rfl) (he : starEach [e, e2] X.env = (false, eval e X.env) :: starEach [e2] X.env := by rfl) (hpl : (backTo pos (starEach [e2] X.env)).any (·.1) = false := by rfl) :
    DE X T E (.Call (.Name "min" p) [e, e2] [] pos) (callB min2 t) :=
  de_callB (call_min2 hc) (two_ok (z := fun i j => if j < i then j else i) fun ds h => by unfold min2; split; exact .inl ⟨_, _, rfl, rfl⟩; exact .inr rfl) hm (by decide +kernel) ha hg (by decide) (by decide) he hpl

/-! ### isinstance with a built-in type -/
def tyD (h : IH) : D → Option String
  | .non => some "NoneType"
  | .bl _ => some "bool"
  | .int _ => some "int"
  | .str _ => some "str"
  | .wd _ => some "str"
  | .tup _ => some "tuple"
  | .vl _ => some "list"
  | .fl _ => some "list"
  | .ref i => match h[i]? with
    | some (.lst _) => some "list"
    | some (.dct _) => some "dict"
    | _ => none
inductive BT where
  | int | bool | str | list | tuple | dict
def BT.nm : BT → String
  | .int => "int"
  | .bool => "bool"
  | .str => "str"
  | .list => "list"
  | .tuple => "tuple"
  | .dict => "dict"
def isBT (h : IH) (t : BT) (d : D) : Option Bool := match d with
  | .non => some false
  | .bl _ => some (match t with | .bool => true | .int => true | _ => false)
  | .int _ => some (match t with | .int => true | _ => false)
  | .str _ => some (match t with | .str => true | _ => false)
  | .wd _ => some (match t with | .str => true | _ => false)
  | .tup _ => some (match t with | .tuple => true | _ => false)
  | .vl _ => some (match t with | .list => true | _ => false)
  | .fl _ => some (match t with | .list => true | _ => false)
  | .ref i => match h[i]? with
    | some (.lst _) => some (match t with | .list => true | _ => false)
    | some (.dct _) => some (match t with | .dict => true | _ => false)
    | _ => none
def isiD (t : BT) (d : D) (h : IH) : Out D := match isBT h t d with
  | some b => .ok (.bl b) h
  | none => .bad
theorem kt_cls {K : PySem.W.Frag} {a : Addr} {vs : List V} (h : KT K a vs) : ∃ o, K.lookup a = some o ∧ o.cls = .type "tuple" := by
  obtain ⟨o, _, _, h1, h2, _⟩ := h
  exact ⟨o, h1, h2⟩
theorem kl_cls {K : PySem.W.Frag} {a : Addr} {vs : List V} (h : KL K a vs) : ∃ o, K.lookup a = some o ∧ o.cls = .type "list" := by
  obtain ⟨o, _, _, h1, h2, _⟩ := h
  exact ⟨o, h1, h2⟩
theorem isBT_ok {g : G} {m : Mp} {h : IH} {H : Hp} {v : V} {d : D} {t : BT} {b : Bool} (rh : RH g m h H) (r : Rv g.K m h.length H v d) (e : isBT h t d = some b) : ∃ ty, TyX g.K H v ty ∧ PySem.W.kitOne g.K ty (.type t.nm) = some b := by
  cases r with
  | non => cases e; exact ⟨_, .base .non, kit_ty (by cases t <;> decide +kernel)⟩
  | bl x => cases e; exact ⟨_, .base (.bl x), kit_ty (by cases t <;> decide +kernel)⟩
  | int x => cases e; exact ⟨_, .base (.int x), kit_ty (by cases t <;> decide +kernel)⟩
  | str x => cases e; exact ⟨_, .base (.str x), kit_ty (by cases t <;> decide +kernel)⟩
  | wd h1 h2 => cases e; exact ⟨_, .base (.str _), kit_ty (by cases t <;> decide +kernel)⟩
  | tup h1 _ =>
    cases e
    refine ⟨.type "tuple", ?_, kit_ty (by cases t <;> decide +kernel)⟩
    rcases h1 with h1 | ⟨h1 | ⟨o, h1⟩, _⟩
    · obtain ⟨o, q1, q2⟩ := kt_cls h1
      exact .kTuple q1 q2
    · exact .base (.tup h1)
    · exact .fTuple h1
  | vl h1 _ _ => cases e; exact ⟨_, .base (.lst h1), kit_ty (by cases t <;> decide +kernel)⟩
  | fl h1 _ =>
    cases e
    refine ⟨.type "list", ?_, kit_ty (by cases t <;> decide +kernel)⟩
    rcases h1 with h1 | ⟨h1 | ⟨o, h1⟩, _⟩
    · obtain ⟨o, q1, q2⟩ := kl_cls h1
      exact .kList q1 q2
    · exact .base (.lst h1)
    · exact .base (.frz h1)
  | ref hi =>
    rename_i i
    unfold isBT at e
    dsimp only at e
    split at e
    · rename_i q
      obtain ⟨vs, h1, _⟩ := rh.obj i _ q
      cases e
      exact ⟨_, .base (.lst h1), kit_ty (by cases t <;> decide +kernel)⟩
    · rename_i q
      obtain ⟨vs, h1, _⟩ := rh.obj i _ q
      cases e
      exact ⟨_, .base (.dK h1), kit_ty (by cases t <;> decide +kernel)⟩
    · cases e
theorem de_isi (t : BT) {x : Str} {p p2 : Pos} (hm : X.mg "isinstance" = none) (hx : X.mg x = none) (hv : bootBuiltins x = some (.type t.nm)) (ha : DE X T E e f) (hg : Gl X "isinstance" := by rfl) (hgx : Gl X x := by rfl) (hn : x ≠ "__name__" := by decide) (hdb : (x == ("__debug__" : Str)) = false := by decide)
    (hs1 : starEach [e, .Name x p2] X.env = (false, eval e X.env) :: starEach [.Name x p2] X.env := by rfl) (hs2 : starEach [.Name x p2] X.env = (false, eval (.Name x p2) X.env) :: starEach [] X.env := by rfl) (hpl : (backTo pos (starEach [.Name x p2] X.env)).any (·.1) = false := by rfl) :
    DE X T E (.Call (.Name "isinstance" p) [e, .Name x p2] [] pos) (op1 (isiD t) f) :=
  PE.imp (pe_callB call_isi hg hm boot_isinstance (pa_cons ha (pa_cons (pe_bltn (v := .ty t.nm) hgx hx hv rfl hn hdb) pa_nil hs2) hs1) (by decide) (by decide) hs1 hpl) fun σ H Q ⟨m, h, en, rel, p⟩ => chain rel p fun m1 h1 H1 v d e1 rel1 rv1 p1 => by
    unfold isiD at p1
    cases q : isBT h1 t d with
    | none => rw [q] at p1; exact p1.elim
    | some b =>
      rw [q] at p1
      obtain ⟨ty, k1, k2⟩ := isBT_ok rel1.rh rv1 q
      exact ⟨v, .ty t.nm, ty, .type t.nm, b, rfl, .ty _, k1, k2, Post.val p1 rel1.rh (.bl _)⟩
end
end DL

set_option Elab.async false
set_option linter.all false
set_option maxRecDepth 100000
set_option autoImplicit false
/-! Subscripts, slices, fields, methods of lists, defs and their calls. -/
namespace DL
open PySem PySem.Spec PyProof.Rows L2

/-! ### equality of data -/
mutual
def D.beq : D → D → Bool
  | .non, y => match y with
    | .non => true
    | _ => false
  | .bl a, y => match y with
    | .bl b => a == b
    | _ => false
  | .int a, y => match y with
    | .int b => decide (a = b)
    | _ => false
  | .str a, y => match y with
    | .str b => decide (a = b)
    | _ => false
  | .wd a, y => match y with
    | .wd b => a == b
    | _ => false
  | .tup a, y => match y with
    | .tup b => D.beqs a b
    | _ => false
  | .vl a, y => match y with
    | .vl b => D.beqs a b
    | _ => false
  | .fl a, y => match y with
    | .fl b => D.beqs a b
    | _ => false
  | .ref a, y => match y with
    | .ref b => a == b
    | _ => false
def D.beqs : List D → List D → Bool
  | [], ys => match ys with
    | [] => true
    | _ :: _ => false
  | x :: xs, ys => match ys with
    | [] => false
    | y :: ys => D.beq x y && D.beqs xs ys
end
mutual
theorem D.beq_iff : ∀ (x y : D), D.beq x y = true ↔ x = y
  | .non, y => by cases y <;> simp [D.beq]
  | .bl a, y => by cases y <;> simp [D.beq]
  | .int a, y => by cases y <;> simp [D.beq]
  | .str a, y => by cases y <;> simp [D.beq]
  | .wd a, y => by cases y <;> simp [D.beq]
  | .ref a, y => by cases y <;> simp [D.beq]
  | .tup a, y => by
    cases y with
    | tup b => simp only [D.beq, D.tup.injEq]; exact D.beqs_iff a b
    | _ => simp [D.beq]
  | .vl a, y => by
    cases y with
    | vl b => simp only [D.beq, D.vl.injEq]; exact D.beqs_iff a b
    | _ => simp [D.beq]
  | .fl a, y => by
    cases y with
    | fl b => simp only [D.beq, D.fl.injEq]; exact D.beqs_iff a b
    | _ => simp [D.beq]
theorem D.beqs_iff : ∀ (x y : List D), D.beqs x y = true ↔ x = y
  | [], y => by cases y <;> simp [D.beqs]
  | a :: x, y => by
    cases y with
    | nil => simp [D.beqs]
    | cons b y =>
      simp only [D.beqs, Bool.and_eq_true, List.cons.injEq]
      rw [D.beq_iff a b, D.beqs_iff x y]
end
instance : DecidableEq D := fun x y => decidable_of_iff (D.beq x y = true) (D.beq_iff x y)
def O.beq : O → O → Bool
  | .lst a, y => match y with
    | .lst b => decide (a = b)
    | _ => false
  | .dct a, y => match y with
    | .dct b => decide (a = b)
    | _ => false
  | .ins c a, y => match y with
    | .ins d b => decide (c = d) && decide (a = b)
    | _ => false
  | .frz a, y => match y with
    | .frz b => decide (a = b)
    | _ => false
theorem O.beq_iff (x y : O) : O.beq x y = true ↔ x = y := by
  cases x <;> cases y <;> simp [O.beq]
instance : DecidableEq O := fun x y => decidable_of_iff (O.beq x y = true) (O.beq_iff x y)

/-! ### closed data, frozen data -/
mutual
def clB (n : Nat) : D → Bool
  | .ref i => decide (i < n)
  | .tup xs => clBs n xs
  | .vl xs => clBs n xs
  | .fl xs => clBs n xs
  | .non => true
  | .bl _ => true
  | .int _ => true
  | .str _ => true
  | .wd _ => true
def clBs (n : Nat) : List D → Bool
  | [] => true
  | x :: xs => clB n x && clBs n xs
end
section
variable {K : PySem.W.Frag} {m : Mp} {n n' : Nat} {H : Hp}
mutual
theorem Rv.closed : ∀ {v : V} {d : D}, Rv K m n H v d → clB n d = true
  | _, _, .non => rfl
  | _, _, .bl b => rfl
  | _, _, .int i => rfl
  | _, _, .str x => rfl
  | _, _, .wd _ _ => rfl
  | _, _, .tup _ r => Rvs.closed r
  | _, _, .vl _ _ r => Rvs.closed r
  | _, _, .fl _ r => Rvs.closed r
  | _, _, .ref hi => decide_eq_true hi
theorem Rvs.closed : ∀ {vs : List V} {ds : List D}, Rvs K m n H vs ds → clBs n ds = true
  | _, _, .nil => rfl
  | _, _, .cons a b => by
    show (clB n _ && clBs n _) = true
    rw [Rv.closed a, Rvs.closed b]
    rfl
end
theorem Off.less (h : n ≤ n') {a : Addr} (q : Off m n' a) : Off m n a := ⟨q.1, fun i hi => q.2 i (Nat.lt_of_lt_of_le hi h)⟩
mutual
theorem Rv.shrink (hn : n ≤ n') : ∀ {v : V} {d : D}, Rv K m n' H v d → clB n d = true → Rv K m n H v d
  | _, _, .non, _ => .non
  | _, _, .bl b, _ => .bl b
  | _, _, .int i, _ => .int i
  | _, _, .str x, _ => .str x
  | _, _, .wd h1 h2, _ => .wd h1 h2
  | _, _, .tup (.inl h) r, c => .tup (.inl h) (Rvs.shrink hn r c)
  | _, _, .tup (.inr h) r, c => .tup (.inr ⟨h.1, h.2.less hn⟩) (Rvs.shrink hn r c)
  | _, _, .vl h q r, c => .vl h (q.less hn) (Rvs.shrink hn r c)
  | _, _, .fl (.inl h) r, c => .fl (.inl h) (Rvs.shrink hn r c)
  | _, _, .fl (.inr h) r, c => .fl (.inr ⟨h.1, h.2.less hn⟩) (Rvs.shrink hn r c)
  | _, _, .ref _, c => .ref (of_decide_eq_true c)
theorem Rvs.shrink (hn : n ≤ n') : ∀ {vs : List V} {ds : List D}, Rvs K m n' H vs ds → clBs n ds = true → Rvs K m n H vs ds
  | _, _, .nil, _ => .nil
  | _, _, .cons a b, c => by
    have c' := Bool.and_eq_true_iff.mp (show (clB n _ && clBs n _) = true from c)
    exact .cons (Rv.shrink hn a c'.1) (Rvs.shrink hn b c'.2)
end
end
/-- what a def hands back that made it: lists of its own are values from now on -/
def fz (n : Nat) (h : IH) : Nat → D → Option D
  | 0, d => if clB n d then some d else none
  | k + 1, d => if clB n d then some d else match d with
    | .ref i => (match lstAt h i with
      | some xs => (optAll (fz n h k) xs).map .vl
      | none => none)
    | .tup xs => (optAll (fz n h k) xs).map .tup
    | .vl xs => (optAll (fz n h k) xs).map .vl
    | _ => none
theorem fz_ok {g : G} {m : Mp} {h : IH} {H : Hp} {n : Nat} (rh : RH g m h H) (hn : n ≤ h.length) : ∀ (k : Nat) {v : V} {d x : D}, Rv g.K m h.length H v d → fz n h k d = some x → Rv g.K m n H v x := by
  have lists : ∀ (k : Nat), (∀ {v : V} {d x : D}, Rv g.K m h.length H v d → fz n h k d = some x → Rv g.K m n H v x) → ∀ {vs : List V} {ds xs : List D}, Rvs g.K m h.length H vs ds → optAll (fz n h k) ds = some xs → Rvs g.K m n H vs xs := by
    intro k ih vs ds xs r e
    have q := optAll_ok e
    clear e
    induction q generalizing vs with
    | nil => cases r; exact .nil
    | cons h1 _ ih2 =>
      cases r with
      | cons r1 r2 => exact .cons (ih r1 h1) (ih2 r2)
  intro k
  induction k with
  | zero =>
    intro v d x r e
    unfold fz at e
    split at e
    · cases e; exact r.shrink hn (by assumption)
    · cases e
  | succ k ih =>
    intro v d x r e
    unfold fz at e
    split at e
    · cases e; exact r.shrink hn (by assumption)
    · rename_i nc
      split at e
      · rename_i i
        split at e
        · rename_i ys h1
          obtain ⟨zs, e1, rfl⟩ := Option.map_eq_some_iff.mp e
          obtain ⟨vs, q1, q2⟩ := rh.lst (lstAt_ok h1)
          cases r with
          | ref hi =>
            refine .vl q1 ⟨rh.npr i hi, fun j hj z => ?_⟩ (lists k ih q2 e1)
            have := rh.inj j i (Nat.lt_of_lt_of_le hj hn) hi z
            subst this
            exact nc (decide_eq_true hj)
        · cases e
      · obtain ⟨zs, e1, rfl⟩ := Option.map_eq_some_iff.mp e
        cases r with
        | tup h1 r =>
          refine .tup ?_ (lists k ih r e1)
          rcases h1 with h1 | h1
          · exact .inl h1
          · exact .inr ⟨h1.1, h1.2.less hn⟩
      · obtain ⟨zs, e1, rfl⟩ := Option.map_eq_some_iff.mp e
        cases r with
        | vl h1 h2 r => exact .vl h1 (h2.less hn) (lists k ih r e1)
      · cases e

/-! ### defs -/
/-- a def's promise from its function -/
def SpOf (g : G) (n : Nat) (F : List D → IH → Out D) : Sp := fun vs H Q E => vs.length = n ∧ ∃ m h ds, RH g m h H ∧ Rvs g.K m h.length H vs ds ∧ Post (Rv g.K) g m h.length H E Q (F ds h)
def PostS (g : G) (m : Mp) (n : Nat) (H : Hp) (E : XK) (D : Ends) : SO → Prop
  | .nx en h' => ∀ m' H' σ', Ex m n H m' h'.length H' → Rel g m' h' σ' en H' → D.nx σ' H'
  | .rt d h' => ∀ m' H' v, Ex m n H m' h'.length H' → RH g m' h' H' → Rv g.K m' h'.length H' v d → D.rt v H'
  | .bk en h' => ∀ m' H' σ', Ex m n H m' h'.length H' → Rel g m' h' σ' en H' → D.bk σ' H'
  | .ct en h' => ∀ m' H' σ', Ex m n H m' h'.length H' → Rel g m' h' σ' en H' → D.ct σ' H'
  | .err c h' => ∀ m' H' C, Ex m n H m' h'.length H' → RH g m' h' H' → g.mg (cnm c) = some (.ref C) → E (.ref C) none H'
  | .bad => False
def LS (g : G) (E : XK) (f : MS) : TS := fun D σ H => ∃ m h en, Rel g m h σ en H ∧ PostS g m h.length H E D (f en h)
def DS (X : Cx) (T : List (Addr × Str)) (E : XK) (st : Stmt) (f : MS) : Prop := PS X st (LS (gX X T) E f)
def DSs (X : Cx) (T : List (Addr × Str)) (E : XK) (st : List Stmt) (f : MS) : Prop := PSs X st (LS (gX X T) E f)
/-- the function of a body: N names -/
def fnF (N : Nat) (b : MS) : List D → IH → Out D := fun ds h => match b (ds.map some ++ List.replicate (N - ds.length) none) h with
  | .rt d h' => .ok d h'
  | .nx _ h' => .ok .non h'
  | .err c h' => .err c h'
  | _ => .bad
/-- .. of a def that leaves the heap as it was -/
def fnC (N : Nat) (b : MS) : List D → IH → Out D := fun ds h => match fnF N b ds h with
  | .ok d h' => if h'.take h.length = h then (match fz h.length h' 3 d with
    | some x => .ok x h
    | none => .bad) else .bad
  | .err c h' => if h'.take h.length = h then .err c h else .bad
  | .bad => .bad
theorem Ex.cut {m m' : Mp} {n n' : Nat} {H H' : Hp} (e : Ex m n H m' n' H') : Ex m n H m' n H' :=
  ⟨Nat.le_refl _, e.prot, e.same, fun i h1 h2 => absurd (Nat.lt_of_lt_of_le h2 h1) (Nat.lt_irrefl _), e.keep, e.dom, e.fz⟩
theorem RPs.closed {K : PySem.W.Frag} {m m' : Mp} {n n' : Nat} {H H' : Hp} (hn : n ≤ n') {l l2 : List (Key × V)} {l' : List (DK × D)} (r : RPs K m n H l l') (q : RPs K m' n' H' l2 l') : RPs K m' n H' l2 l' := by
  induction r generalizing l2 with
  | nil => cases q; exact .nil
  | cons a _ ih =>
    cases q with
    | cons b c => exact .cons ⟨b.1, b.2.1, b.2.2.shrink hn a.2.2.closed⟩ (ih c)
theorem RH.cut {g : G} {m m' : Mp} {h h' : IH} {H H' : Hp} (r : RH g m h H) (r' : RH g m' h' H') (e : Ex m h.length H m' h'.length H') (q : h'.take h.length = h) : RH g m' h H' where
  obj := fun i o hi => by
    have hil : i < h.length := (List.getElem?_eq_some_iff.mp hi).1
    have hi' : h'[i]? = some o := by
      rw [← q, List.getElem?_take_of_lt hil] at hi
      exact hi
    have a := r.obj i o hi
    have b := r'.obj i o hi'
    cases o with
    | lst ds =>
      obtain ⟨vs, _, a2⟩ := a
      obtain ⟨ws, b1, b2⟩ := b
      exact ⟨ws, b1, b2.shrink e.le a2.closed⟩
    | dct kvs =>
      obtain ⟨vs, _, a2⟩ := a
      obtain ⟨ws, b1, b2⟩ := b
      exact ⟨ws, b1, RPs.closed e.le a2 b2⟩
    | ins c fs =>
      obtain ⟨_, _, _, _, _, _, a2⟩ := a
      obtain ⟨C, dx, ws, b1, b2, b3, b4⟩ := b
      exact ⟨C, dx, ws, b1, b2, b3, b4.shrink e.le a2.closed⟩
    | frz kvs =>
      obtain ⟨_, vs, _, _, a2⟩ := a
      obtain ⟨od, ws, b1, b0, b2⟩ := b
      exact ⟨od, ws, b1, b0, RPs.closed e.le a2 b2⟩
  inj := fun i j hi hj => r'.inj i j (Nat.lt_of_lt_of_le hi e.le) (Nat.lt_of_lt_of_le hj e.le)
  tab := r'.tab
  prt := r'.prt
  npr := fun i hi => r'.npr i (Nat.lt_of_lt_of_le hi e.le)
  fz1 := fun i o hi nf => by
    have hil : i < h.length := (List.getElem?_eq_some_iff.mp hi).1
    rw [← q, List.getElem?_take_of_lt hil] at hi
    exact r'.fz1 i o hi nf
  fz2 := r'.fz2
  fz3 := r'.fz3
theorem Post.cut {g : G} {m : Mp} {h : IH} {H : Hp} {E : XK} {Q : VK} {N : Nat} {b : MS} {ds : List D} (rh : RH g m h H) (p : Post (Rv g.K) g m h.length H E Q (fnC N b ds h)) : Post (Rv g.K) g m h.length H E Q (fnF N b ds h) := by
  unfold fnC at p
  cases e : fnF N b ds h with
  | bad => rw [e] at p; exact p
  | ok d h' =>
    rw [e] at p
    dsimp only at p
    split at p
    · rename_i q
      split at p
      · rename_i x hx
        intro m' H' v a1 a2 a3
        have hle := a1.le
        exact p m' H' v a1.cut (rh.cut a2 a1 q) (fz_ok a2 hle 3 a3 hx)
      · exact p.elim
    · exact p.elim
  | err c h' =>
    rw [e] at p
    dsimp only at p
    split at p
    · rename_i q
      intro m' H' C a1 a2 a3
      exact p m' H' C a1.cut (rh.cut a2 a1 q) a3
    · exact p.elim
theorem start_rel {g : G} {m : Mp} {h : IH} {H : Hp} {N : List Str} {vs : List V} {ds : List D} (rh : RH g m h H) (r : Rvs g.K m h.length H vs ds) : Rel g m h (start N vs) (ds.map some ++ List.replicate (N.length - ds.length) none) H := by
  have hl := r.length
  refine ⟨rh, ?_, fun i d hi => ?_⟩
  · unfold L2.start
    simp [hl]
  · by_cases hil : i < ds.length
    · rw [List.getElem?_append_left (by simpa using hil), List.getElem?_map] at hi
      cases e : ds[i]? with
      | none => rw [e] at hi; cases hi
      | some d' =>
        rw [e] at hi
        cases hi
        obtain ⟨v, h1, h2⟩ := r.get e
        refine ⟨v, ?_, h2⟩
        unfold L2.start
        rw [List.getElem?_append_left (by rw [List.length_map, hl]; exact hil), List.getElem?_map, h1]
        rfl
    · rw [List.getElem?_append_right (by simpa using hil)] at hi
      rw [List.getElem?_replicate] at hi
      split at hi <;> cases hi
section
variable {P : Program} {w : World} {K : PySem.W.Frag} {mg : Str → Option Value} {base : Heap} {T : List (Addr × Str)}
/-- what a def's body is to show -/
def BodyOk (P : Program) (w : World) (K : PySem.W.Frag) (mg : Str → Option Value) (base : Heap) (T : List (Addr × Str)) (qual : Str) (sc : Scope) (body : List Stmt) (N : List Str) (f : Addr) (cdv : Value) (k : Nat) (b : MS) : Prop :=
  ∀ (A : Around) (outer : List Env) (s : Shared) (H : Hp) (E : XK), PySem.W.codeIn K cdv qual = true → Room k (A.deeper (envOfC qual sc s.heap.objs.size f cdv)) →
    L2N.Takes (cxOf (L2N.CX P w) P w K mg base N qual sc f cdv A outer s H E) (fun cls d _ H => E cls d H) → PassesOwn (model P w) (A.deeper (envOfC qual sc s.heap.objs.size f cdv)) (envOfC qual sc s.heap.objs.size f cdv) (cxOf (L2N.CX P w) P w K mg base N qual sc f cdv A outer s H E).xe →
    DSs (cxOf (L2N.CX P w) P w K mg base N qual sc f cdv A outer s H E) T E body b
theorem spF_len {g : G} {n : Nat} {F : List D → IH → Out D} : ∀ vs H Q E, SpOf g n F vs H Q E → vs.length = n := fun _ _ _ _ h => h.1
theorem fn_ok {x qual : Str} {ar : Arguments} {body : List Stmt} {sc : Scope} {f : Addr} {fd : FuncData} {N ps : List Str} {k : Nat} {b : MS} (F : FunD K x qual ar body sc [] [] f fd) (S : FnScope N ps sc) (hb : BodyOk P w K mg base T qual sc body N f fd.code k b) :
    FnOk P w K mg base (L2N.CX P w) (k + 1) f fd ps (SpOf ⟨K, mg, T⟩ ps.length (fnF N.length b)) := by
  obtain ⟨⟨oc, od, dV, kV, doc, pm, an, cdv, ct, osl, rfl, lk, hcd, _⟩, _⟩ := F
  refine fn_of lk hcd S spF_len fun A outer s H vs Q E hr hsp => ?_
  obtain ⟨hl, m, h, ds, rh, rv, p⟩ := hsp
  refine ⟨_, hb A outer s H E hcd hr (L2N.takes_of rfl rfl rfl rfl) (passes_of rfl), m, h, _, start_rel rh rv, ?_⟩
  unfold fnF at p
  cases e : b (ds.map some ++ List.replicate (N.length - ds.length) none) h with
  | nx en h' => rw [e] at p; exact fun m' H' σ' a1 a2 => p m' H' _ a1 a2.rh .non
  | rt d h' => rw [e] at p; exact p
  | bk en h' => rw [e] at p; exact p.elim
  | ct en h' => rw [e] at p; exact p.elim
  | err c h' => rw [e] at p; exact p
  | bad => rw [e] at p; exact p.elim
theorem fn_okC {x qual : Str} {ar : Arguments} {body : List Stmt} {sc : Scope} {f : Addr} {fd : FuncData} {N ps : List Str} {k : Nat} {b : MS} (F : FunD K x qual ar body sc [] [] f fd) (S : FnScope N ps sc) (hb : BodyOk P w K mg base T qual sc body N f fd.code k b) :
    FnOk P w K mg base (L2N.CX P w) (k + 1) f fd ps (SpOf ⟨K, mg, T⟩ ps.length (fnC N.length b)) :=
  (fn_ok F S hb).imp fun vs H Q E ⟨hl, m, h, ds, rh, rv, p⟩ => ⟨hl, m, h, ds, rh, rv, Post.cut rh p⟩
end

section
variable {X : Cx} {T : List (Addr × Str)} {E : XK} {a b c e o : Expr} {es rest : List Expr} {pos : Pos} {f k l : ME}
/-- what the body of a def, of a comprehension wants of errors -/
abbrev Tk (X : Cx) (E : XK) : Prop := L2N.Takes X (fun cls d _ H => E cls d H)
def callF (n : Nat) (F : List D → IH → Out D) (t : MA) : ME := fun en h => (t en h).bind fun ds h1 => grd (decide (ds.length = n)) (F ds h1)
/-- a def as it may be called: its place, its function, its level -/
structure CallOk (X : Cx) (T : List (Addr × Str)) (x : Str) (k n : Nat) (F : List D → IH → Out D) : Prop where
  ex : ∃ f fd ps, ps.length = n ∧ X.mg x = some (.ref f) ∧ PySem.W.keepIn X.K (.ref f) = true ∧ Binds X.K fd ps [] ∧ FnOk X.prog X.w X.K X.mg X.base (L2N.CX X.prog X.w) k f fd ps (SpOf (gX X T) n F)
theorem de_call {x : Str} {k n : Nat} {F : List D → IH → Out D} {t : MA} {p : Pos} (G : CallOk X T x k n F) (hr : Room k X.A) (tk : Tk X E) (ha : DA X T E (e :: es) t) (hg : Gl X x := by rfl) (hdb : (x == ("__debug__" : Str)) = false := by decide)
    (he : starEach (e :: es) X.env = (false, eval e X.env) :: starEach es X.env := by rfl) (hpl : (backTo pos (starEach es X.env)).any (·.1) = false := by rfl) : DE X T E (.Call (.Name x p) (e :: es) [] pos) (callF n F t) := by
  obtain ⟨f, fd, ps, hn, hm, hk, hb, G⟩ := G.ex
  refine PE.imp (pe_call (E := E) G hr hg hm hk hb .nil (L2N.passes_call tk fun _ _ _ _ h => h) ha hdb he hpl) fun σ H Q ⟨m, h, en, rel, p⟩ => chain rel p fun m1 h1 H1 v d e1 rel1 rv1 p1 => ?_
  obtain ⟨hc, p1⟩ := Post.grd p1
  rw [List.append_nil]
  exact ⟨by rw [rv1.length]; exact of_decide_eq_true hc, m1, h1, d, rel1.rh, rv1, p1⟩
theorem de_call0 {x : Str} {k : Nat} {F : List D → IH → Out D} {p : Pos} (G : CallOk X T x k 0 F) (hr : Room k X.A) (tk : Tk X E) (hg : Gl X x := by rfl) (hdb : (x == ("__debug__" : Str)) = false := by decide) : DE X T E (.Call (.Name x p) [] [] pos) (callF 0 F nilA) := by
  obtain ⟨f, fd, ps, hn, hm, hk, hb, G⟩ := G.ex
  exact PE.imp (pe_call0 (E := E) G hr hg hm hk hb .nil (L2N.passes_call tk fun _ _ _ _ h => h) hdb) fun σ H Q ⟨m, h, en, rel, p⟩ => ⟨rfl, m, h, [], rel.rh, .nil, p⟩

/-! ### instances -/
/-- the class's facts -/
structure ClOk (K : PySem.W.Frag) (mg : Str → Option Value) (c : Nat) : Prop where
  ex : ∃ C, mg (cnm c) = some (.ref C) ∧ Cls K C ∧ ∀ f ∈ flds c, NoAttr K C f
def insAt (h : IH) (c : Nat) : D → Option (Nat × List D)
  | .ref i => match h[i]? with
    | some (.ins c' fs) => if c' = c then some (i, fs) else none
    | _ => none
  | _ => none
theorem insAt_ok {h : IH} {c i : Nat} {d : D} {fs : List D} (e : insAt h c d = some (i, fs)) : d = .ref i ∧ h[i]? = some (.ins c fs) := by
  unfold insAt at e
  split at e
  · split at e
    · rename_i q
      split at e
      · rename_i hc
        cases e
        rw [← hc]
        exact ⟨rfl, q⟩
      · cases e
    · cases e
  · cases e
theorem flds_nd (c : Nat) : (flds c).Nodup := by
  unfold flds
  split <;> first | decide +kernel | exact List.nodup_nil
theorem lookup_ix {K : PySem.W.Frag} {m : Mp} {n : Nat} {H : Hp} {x : Str} : ∀ {fvs : List (Str × V)} {ns : List Str} {fs : List D} {j : Nat} {d : D}, fvs.map (·.1) = ns.take fs.length → ns.Nodup → Rvs K m n H (fvs.map (·.2)) fs → ns[j]? = some x → fs[j]? = some d → ∃ v, fvs.lookup x = some v ∧ Rv K m n H v d
  | [], ns, fs, j, d, h1, _, r, _, hd => by
    cases r
    simp at hd
  | (y, v) :: fvs, ns, fs, j, d, h1, nd, r, hx, hd => by
    cases r with
    | cons a b =>
      cases ns with
      | nil => simp at h1
      | cons z ns =>
        rw [List.map_cons, List.length_cons, List.take_succ_cons, List.cons.injEq] at h1
        have e1 : y = z := h1.1
        subst e1
        cases j with
        | zero =>
          simp at hx hd
          subst hx hd
          exact ⟨v, by simp [List.lookup], a⟩
        | succ j =>
          simp at hx hd
          have hne : x ≠ y := fun z => by
            have hm : x ∈ ns := List.mem_of_getElem? hx
            rw [z] at hm
            exact (List.nodup_cons.mp nd).1 hm
          obtain ⟨u, h2, h3⟩ := lookup_ix h1.2 (List.nodup_cons.mp nd).2 b hx hd
          exact ⟨u, by simp only [List.lookup]; rw [beq_eq_false_iff_ne.mpr hne]; exact h2, h3⟩
def fldD (c j : Nat) (x : D) (h : IH) : Out D := match insAt h c x with
  | some (_, fs) => (match fs[j]? with
    | some d => .ok d h
    | none => .bad)
  | none => .bad
theorem de_fld (c j : Nat) {x : Str} (C : ClOk X.K X.mg c) (ha : DE X T E e f) (hx : (flds c)[j]? = some x := by rfl) (hb : attributeBase e x X.env (eval e X.env) = eval e X.env := by rfl) : DE X T E (.Attribute e x pos) (op1 (fldD c j) f) :=
  PE.imp (pe_fld ha hb) fun σ H Q ⟨m, h, en, rel, p⟩ => chain rel p fun m1 h1 H1 v d e1 rel1 rv1 p1 => by
    unfold fldD at p1
    cases q : insAt h1 c d with
    | none => rw [q] at p1; exact p1.elim
    | some r =>
      obtain ⟨i, fs⟩ := r
      rw [q] at p1
      dsimp only at p1
      cases q2 : fs[j]? with
      | none => rw [q2] at p1; exact p1.elim
      | some y =>
        rw [q2] at p1
        obtain ⟨rfl, q3⟩ := insAt_ok q
        obtain ⟨C1, dx, fvs, z1, z2, z3, z4⟩ := rel1.rh.obj i _ q3
        obtain ⟨C2, y1, y2, y3⟩ := C.ex
        have eC : some (Value.ref C1) = some (Value.ref C2) := z2.symm.trans y1
        cases eC
        cases rv1
        obtain ⟨u, w1, w2⟩ := lookup_ix z3 (flds_nd c) z4 hx q2
        exact ⟨_, C1, dx, fvs, u, rfl, z1, y2, y3 x (List.mem_of_getElem? hx), w1, Post.val p1 rel1.rh w2⟩
end
end DL

set_option Elab.async false
set_option linter.all false
set_option maxRecDepth 100000
set_option autoImplicit false
/-! Subscripts, slices, methods of lists; statements. -/
namespace DL
open PySem PySem.Spec PyProof.Rows L2

section
variable {X : Cx} {T : List (Addr × Str)} {E : XK} {a b c e o : Expr} {es rest : List Expr} {pos : Pos} {f k l : ME}
/-! ### subscripts -/
def ixD : D → D → IH → Out D := fun x y h => match getS h x, y with
  | some xs, .int i => (match atI xs i with
    | some d => .ok d h
    | none => .bad)
  | _, _ => .bad
theorem ixN_some {n : Nat} {i : Int} {j : Nat} (e : ixN n i = some j) : j < n := (ixN_seq e).2.1
theorem atI_rel {K : PySem.W.Frag} {m : Mp} {n : Nat} {H : Hp} {vs : List V} {ds : List D} {i : Int} {d : D} (r : Rvs K m n H vs ds) (e : atI ds i = some d) : ∃ v, atI vs i = some v ∧ Rv K m n H v d := by
  unfold atI at e ⊢
  cases q : ixN ds.length i with
  | none => rw [q] at e; cases e
  | some j =>
    rw [q] at e
    obtain ⟨v, h1, h2⟩ := r.get (show ds[j]? = some d from e)
    rw [r.length, q]
    exact ⟨v, h1, h2⟩
theorem ixD_ok {g : G} : OpS g (fun x y H Q => rIxL g.K x y H Q ∨ rIxT g.K x y H Q) ixD := by
  intro m h H x y dx dy E Q rh rx ry p
  unfold ixD at p
  cases e : getS h dx with
  | none => rw [e] at p; exact p.elim
  | some xs =>
    rw [e] at p
    cases dy with
    | int i =>
      cases ry
      dsimp only at p
      cases e2 : atI xs i with
      | none => rw [e2] at p; exact p.elim
      | some d =>
        rw [e2] at p
        obtain ⟨a, vs, rfl, s, r⟩ := getS_ok rh rx e
        obtain ⟨v, h1, h2⟩ := atI_rel r e2
        rcases s with s | s
        · exact .inl ⟨a, vs, i, v, rfl, rfl, s, h1, Post.val p rh h2⟩
        · exact .inr ⟨a, vs, i, v, rfl, rfl, s, h1, Post.val p rh h2⟩
    | _ => exact p.elim
theorem de_item (ha : DE X T E a f) (hb : DE X T E b k) (hp : PlainIx b := by exact fun _ _ => rfl) : DE X T E (.Subscript a b pos) (op2 ixD f k) := de_ix (ix_list.or ix_tup) ixD_ok ha hb hp

/-! ### slices -/
abbrev MO := En → IH → Out (Option Int)
abbrev RPt : (Mp) → Nat → Hp → Option Int → Option Int → Prop := fun _ _ _ a b => a = b
def DO (X : Cx) (T : List (Addr × Str)) (E : XK) (e : Option Expr) (f : MO) : Prop := PO X e (LX RPt (gX X T) E f)
theorem PO.imp {X : Cx} {e : Option Expr} {t t' : TO} (h : PO X e t) (q : ∀ σ H Q, t' σ H Q → t σ H Q) : PO X e t' := ⟨fun pins s σ H Q I w => h.run pins s σ H Q I (q σ H Q w)⟩
def noP : MO := fun _ h => .ok none h
def asI (d : D) (h : IH) : Out (Option Int) := match d with
  | .int i => .ok (some i) h
  | _ => .bad
def someP (f : ME) : MO := fun en h => (f en h).bind asI
theorem do_none : DO X T E none noP := PO.imp po_none fun σ H Q ⟨m, h, en, rel, p⟩ => p m H none (Ex.refl _ _ _) rel.rh rfl
theorem do_some (ha : DE X T E a f) : DO X T E (some a) (someP f) := PO.imp (po_some ha) fun σ H Q ⟨m, h, en, rel, p⟩ => chain rel p fun m1 h1 H1 v d e1 rel1 rv1 p1 => by
  cases d with
  | int i => cases rv1; exact ⟨i, rfl, p1 m1 H1 _ (Ex.refl _ _ _) rel1.rh rfl⟩
  | _ => exact p1.elim
def cutL {α : Type} (xs : List α) (lo hi : Option Int) : List α := (xs.drop (HT.sIx xs.length 0 lo)).take (HT.sIx xs.length xs.length hi - HT.sIx xs.length 0 lo)
def slD (r : Bool) (x : D) (lo hi : Option Int) (h : IH) : Out D := match getL h x with
  | some xs => outL r (cutL xs lo hi) h
  | none => (match x with
    | .tup xs => .ok (.tup (cutL xs lo hi)) h
    | _ => .bad)
theorem cutL_all {α : Type} {xs : List α} {lo hi : Option Int} (h : HT.sIx xs.length 0 lo = 0 ∧ HT.sIx xs.length xs.length hi = xs.length) : cutL xs lo hi = xs := by
  unfold cutL
  rw [h.1, h.2, Nat.sub_zero, List.drop_zero, List.take_length]
def slE (r : Bool) (f : ME) (lo hi : MO) : ME := fun en h => (f en h).bind fun x h1 => (lo en h1).bind fun a h2 => (hi en h2).bind fun b h3 => slD r x a b h3
theorem Rvs.cut {K : PySem.W.Frag} {m : Mp} {n : Nat} {H : Hp} {vs : List V} {ds : List D} (r : Rvs K m n H vs ds) (lo hi : Option Int) : Rvs K m n H (cutV vs lo hi) (cutL ds lo hi) := by
  unfold cutV cutL
  rw [r.length]
  exact (r.drop _).take _
theorem slD_ok {g : G} {r : Bool} {m : Mp} {h : IH} {H : Hp} {v : V} {d : D} {lo hi : Option Int} {E : XK} {Q : VK} (rh : RH g m h H) (rv : Rv g.K m h.length H v d) (p : Post (Rv g.K) g m h.length H E Q (slD r d lo hi h)) : rSlL g.K v lo hi H Q ∨ rSlA g.K v lo hi H Q := by
  unfold slD at p
  cases e : getL h d with
  | some xs =>
    rw [e] at p
    obtain ⟨a, vs, rfl, s, r⟩ := getL_ok rh rv e
    exact .inl ⟨a, vs, rfl, s, fun q hq => p.outL rh (r.cut lo hi) hq⟩
  | none =>
    rw [e] at p
    cases d with
    | tup xs =>
      obtain ⟨a, vs, rfl, s, r⟩ := getT_ok rv (show getT (.tup xs) = some xs from rfl)
      refine .inr ⟨a, vs, rfl, s, fun z => ?_, fun _ q hq => Post.tup p rh (r.cut lo hi) hq⟩
      rw [r.length] at z
      have p : Post (Rv g.K) g m h.length H E Q (.ok (.tup (cutL xs lo hi)) h) := p
      rw [cutL_all z] at p
      exact p.val rh rv
    | _ => exact p.elim
theorem de_slice (r : Bool) {lo hi : Option Expr} {fl fh : MO} {p2 : Pos} (ha : DE X T E a f) (hl : DO X T E lo fl) (hu : DO X T E hi fh) : DE X T E (.Subscript a (.Slice lo hi none p2) pos) (slE r f fl fh) :=
  PE.imp (pe_slice (sl_list.or sl_tupA) ha hl hu) fun σ H Q ⟨m, h, en, rel, p⟩ => chain rel p fun m1 h1 H1 v d e1 rel1 rv1 p1 => chain rel1 p1 fun m2 h2 H2 lo' lo e2 rel2 r2 p2 => chain rel2 p2 fun m3 h3 H3 hi' hi e3 rel3 r3 p3 => by
    cases (show lo' = lo from r2)
    cases (show hi' = hi from r3)
    exact slD_ok rel3.rh ((rv1.mono e2).mono e3) p3

/-! ### methods of lists -/
def bmE (o : D → List D → IH → Out D) (f : ME) (t : MA) : ME := fun en h => (f en h).bind fun x h1 => grd ((getL h1 x).isSome) ((t en h1).bind fun xs h2 => o x xs h2)
def MtS (g : G) (r : V → List V → Hp → VK → Prop) (o : D → List D → IH → Out D) : Prop := ∀ (m : Mp) (h : IH) (H : Hp) (x : V) (dx : D) (vs : List V) (ds : List D) (E : XK) (Q : VK), RH g m h H → Rv g.K m h.length H x dx → Rvs g.K m h.length H vs ds →
  Post (Rv g.K) g m h.length H E Q (o dx ds h) → r x vs H Q
theorem list_ty {g : G} {m : Mp} {h : IH} {H : Hp} {v : V} {d : D} (rh : RH g m h H) (rv : Rv g.K m h.length H v d) (e : (getL h d).isSome = true) : tyV g.K "list" v H := by
  obtain ⟨xs, q⟩ := Option.isSome_iff_exists.mp e
  obtain ⟨a, vs, rfl, s, r⟩ := getL_ok rh rv q
  exact .inl ⟨rfl, vs, s⟩
theorem de_bm {name : Str} {id : String} {r : V → List V → Hp → VK → Prop} {q : D → List D → IH → Out D} {t : MA} {apos : Pos} (slot : Slot "list" name id) (hty : typeOf (.builtin id) = pure (.type "method_descriptor")) (hm : MtR X id r) (hs : MtS (gX X T) r q) (ho : DE X T E o f) (ha : DA X T E (e :: es) t)
    (hbase : attributeBase o name X.env (eval o X.env) = eval o X.env := by rfl)
    (hfew : ((backTo pos (starEach (e :: es) X.env)).all (fun x => !x.1) && (backToKw pos (keywordEach [] X.env)).all (fun x => x.1.isSome)
      && decide ((e :: es).length + ([] : List Keyword).length + (if ([] : List Keyword).isEmpty then 0 else 1) < 30)) = true := by rfl)
    (hline : (apos.endLine == pos.line) = true := by rfl) (hst : starEach (e :: es) X.env = (false, eval e X.env) :: starEach es X.env := by rfl) (hplain : (backTo pos (starEach es X.env)).any (·.1) = false := by rfl) :
    DE X T E (.Call (.Attribute o name apos) (e :: es) [] pos) (bmE q f t) :=
  PE.imp (pe_bm PySem.F.plainAttrs_list slot hty hm ho ha hbase hfew hline hst hplain) fun σ H Q ⟨m, h, en, rel, p⟩ => chain rel p fun m1 h1 H1 v d e1 rel1 rv1 p1 => by
    obtain ⟨hc, p1⟩ := Post.grd p1
    exact ⟨list_ty rel1.rh rv1 hc, chain rel1 p1 fun m2 h2 H2 vs ds e2 rel2 rv2 p2 => hs m2 h2 H2 v d vs ds E Q rel2.rh (rv1.mono e2) rv2 p2⟩
theorem de_bm0 {name : Str} {id : String} {r : V → List V → Hp → VK → Prop} {q : D → List D → IH → Out D} {apos : Pos} (slot : Slot "list" name id) (hty : typeOf (.builtin id) = pure (.type "method_descriptor")) (hm : MtR X id r) (hs : MtS (gX X T) r q) (ho : DE X T E o f)
    (hbase : attributeBase o name X.env (eval o X.env) = eval o X.env := by rfl) (hline : (apos.endLine == pos.line) = true := by rfl) :
    DE X T E (.Call (.Attribute o name apos) [] [] pos) (bmE q f nilA) :=
  PE.imp (pe_bm0 PySem.F.plainAttrs_list slot hty hm ho hbase hline) fun σ H Q ⟨m, h, en, rel, p⟩ => chain rel p fun m1 h1 H1 v d e1 rel1 rv1 p1 => by
    obtain ⟨hc, p1⟩ := Post.grd p1
    exact ⟨list_ty rel1.rh rv1 hc, hs m1 h1 H1 v d [] [] E Q rel1.rh rv1 .nil p1⟩
/-- a list of the ideal heap -/
def refL (h : IH) : D → Option (Nat × List D)
  | .ref i => match lstAt h i with
    | some xs => some (i, xs)
    | none => none
  | _ => none
theorem refL_ok {h : IH} {d : D} {i : Nat} {xs : List D} (e : refL h d = some (i, xs)) : d = .ref i ∧ h[i]? = some (.lst xs) := by
  unfold refL at e
  split at e
  · split at e
    · rename_i q
      cases e
      exact ⟨rfl, lstAt_ok q⟩
    · cases e
  · cases e
/-- it is changed -/
theorem lst_store {g : G} {m : Mp} {h : IH} {H : Hp} {i : Nat} {xs ys : List D} {ws : List V} (rh : RH g m h H) (hi : h[i]? = some (.lst xs)) (r : Rvs g.K m h.length H ws ys) : Ex m h.length H m (h.set i (.lst ys)).length (upd H (m i) (.lst ws)) ∧ RH g m (h.set i (.lst ys)) (upd H (m i) (.lst ws)) := by
  have hl : i < h.length := (List.getElem?_eq_some_iff.mp hi).1
  have ex := Ex.store (o := .lst ws) rh hl NT.lst
  rw [List.length_set]
  exact ⟨ex, rh.store hl NT.lst (fun _ => rh.fz1 i _ hi (fun _ z => by cases z)) ⟨ws, upd_same, r.mono ex⟩⟩
def appD : D → List D → IH → Out D := fun x vs h => match refL h x, vs with
  | some (i, xs), [y] => grd (decide (xs.length < sizeLine)) (.ok .non (h.set i (.lst (xs ++ [y]))))
  | _, _ => .bad
theorem appD_ok {g : G} : MtS g rAppend appD := by
  intro m h H x dx vs ds E Q rh rx rv p
  unfold appD at p
  cases e : refL h dx with
  | none => rw [e] at p; exact p.elim
  | some z =>
    obtain ⟨i, xs⟩ := z
    rw [e] at p
    cases ds with
    | nil => exact p.elim
    | cons y ds =>
      cases ds with
      | cons _ _ => exact p.elim
      | nil =>
        obtain ⟨hc, p⟩ := Post.grd p
        obtain ⟨rfl, hi⟩ := refL_ok e
        obtain ⟨ws, h1, h2⟩ := rh.lst hi
        obtain ⟨u, rfl, ru⟩ := rv.one
        cases rx
        obtain ⟨ex, rh'⟩ := lst_store rh hi (h2.append (.cons ru .nil))
        exact ⟨m i, ws, u, rfl, rfl, h1, by rw [h2.length]; exact of_decide_eq_true hc, p m _ _ ex rh' .non⟩
theorem de_append {t : MA} {apos : Pos} (ho : DE X T E o f) (ha : DA X T E [e] t) (hbase : attributeBase o "append" X.env (eval o X.env) = eval o X.env := by rfl)
    (hfew : ((backTo pos (starEach [e] X.env)).all (fun x => !x.1) && (backToKw pos (keywordEach [] X.env)).all (fun x => x.1.isSome)
      && decide (([e] : List Expr).length + ([] : List Keyword).length + (if ([] : List Keyword).isEmpty then 0 else 1) < 30)) = true := by rfl)
    (hline : (apos.endLine == pos.line) = true := by rfl) (hst : starEach [e] X.env = (false, eval e X.env) :: starEach [] X.env := by rfl) : DE X T E (.Call (.Attribute o "append" apos) [e] [] pos) (bmE appD f t) :=
  de_bm PySem.F.slot_list_append PySem.F.type_list_append mt_append appD_ok ho ha hbase hfew hline hst
def popD : D → List D → IH → Out D := fun x vs h => match refL h x, vs with
  | some (i, xs), [] => (match xs[xs.length - 1]? with
    | some y => .ok y (h.set i (.lst xs.dropLast))
    | none => .bad)
  | _, _ => .bad
theorem popD_ok {g : G} : MtS g rPop popD := by
  intro m h H x dx vs ds E Q rh rx rv p
  unfold popD at p
  cases e : refL h dx with
  | none => rw [e] at p; exact p.elim
  | some z =>
    obtain ⟨i, xs⟩ := z
    rw [e] at p
    cases ds with
    | cons _ _ => exact p.elim
    | nil =>
      dsimp only at p
      cases e2 : xs[xs.length - 1]? with
      | none => rw [e2] at p; exact p.elim
      | some y =>
        rw [e2] at p
        obtain ⟨rfl, hi⟩ := refL_ok e
        obtain ⟨ws, h1, h2⟩ := rh.lst hi
        cases rv
        cases rx
        obtain ⟨ex, rh'⟩ := lst_store rh hi h2.dropLast
        obtain ⟨u, g1, g2⟩ := h2.get e2
        refine ⟨m i, ws, u, rfl, rfl, h1, by rw [h2.length]; exact g1, p m _ _ ex rh' ?_⟩
        exact g2.mono ex
theorem de_pop {apos : Pos} (ho : DE X T E o f) (hbase : attributeBase o "pop" X.env (eval o X.env) = eval o X.env := by rfl) (hline : (apos.endLine == pos.line) = true := by rfl) : DE X T E (.Call (.Attribute o "pop" apos) [] [] pos) (bmE popD f nilA) :=
  de_bm0 PySem.F.slot_list_pop PySem.F.type_list_pop mt_pop popD_ok ho hbase hline
end

/-! ### statements -/
theorem PostS.rebase {g : G} {m m' : Mp} {n n' : Nat} {H H' : Hp} {E : XK} {D : Ends} {o : SO} (e : Ex m n H m' n' H') (p : PostS g m n H E D o) : PostS g m' n' H' E D o := by
  cases o with
  | nx en h => exact fun a b c x y => p a b c (e.trans x) y
  | rt d h => exact fun a b c x y z => p a b c (e.trans x) y z
  | bk en h => exact fun a b c x y => p a b c (e.trans x) y
  | ct en h => exact fun a b c x y => p a b c (e.trans x) y
  | err c h => exact fun a b c x y z => p a b c (e.trans x) y z
  | bad => exact p
def Out.toS {α : Type} (o : Out α) (k : α → IH → SO) : SO := match o with
  | .ok a h => k a h
  | .err c h => .err c h
  | .bad => .bad
@[simp] theorem Out.toS_ok {α : Type} (a : α) (h : IH) (k : α → IH → SO) : (Out.ok a h).toS k = k a h := rfl
@[simp] theorem Out.toS_err {α : Type} (c : Nat) (h : IH) (k : α → IH → SO) : (Out.err c h : Out α).toS k = .err c h := rfl
@[simp] theorem Out.toS_bad {α : Type} (k : α → IH → SO) : (Out.bad : Out α).toS k = .bad := rfl
/-- an expression's part of a statement -/
theorem chainS {α β : Type} {R : (Mp) → Nat → Hp → β → α → Prop} {g : G} {E : XK} {f : En → IH → Out α} {k : α → IH → SO} {σ : L2.St} {H : Hp} {D : Ends} {m : Mp} {h : IH} {en : En} {P : β → Hp → Prop} (r : Rel g m h σ en H)
    (p : PostS g m h.length H E D ((f en h).toS k))
    (ok : ∀ m' h' H' v d, Ex m h.length H m' h'.length H' → Rel g m' h' σ en H' → R m' h'.length H' v d → PostS g m' h'.length H' E D (k d h') → P v H') : LX R g E f σ H P := by
  refine ⟨m, h, en, r, ?_⟩
  cases e : f en h with
  | ok d h' =>
    rw [e] at p
    exact fun m' H' v a b c => ok m' h' H' v d a (r.next a b) c (PostS.rebase a p)
  | err c h' => rw [e] at p; exact p
  | bad => rw [e] at p; exact p
section
variable {X : Cx} {T : List (Addr × Str)} {E : XK} {a b c e o : Expr} {es rest : List Expr} {pos : Pos} {f k l : ME} {st : Stmt} {sts sts2 : List Stmt} {fs ks : MS} {tA : MT}
def passS : MS := fun en h => .nx en h
theorem dss_nil : DSs X T E [] passS := PSs.imp pss_nil fun D σ H ⟨m, h, en, rel, p⟩ => p m H σ (Ex.refl _ _ _) rel
theorem ds_pass : DS X T E (.Pass pos) passS := PS.imp ps_pass fun D σ H ⟨m, h, en, rel, p⟩ => p m H σ (Ex.refl _ _ _) rel
def contS : MS := fun en h => .ct en h
theorem ds_continue : DS X T E (.Continue pos) contS := PS.imp ps_continue fun D σ H ⟨m, h, en, rel, p⟩ => p m H σ (Ex.refl _ _ _) rel
def SO.seq (o : SO) (k : MS) : SO := match o with
  | .nx en h => k en h
  | z => z
@[simp] theorem SO.seq_nx (en : En) (h : IH) (k : MS) : (SO.nx en h).seq k = k en h := rfl
@[simp] theorem SO.seq_rt (d : D) (h : IH) (k : MS) : (SO.rt d h).seq k = .rt d h := rfl
@[simp] theorem SO.seq_bk (en : En) (h : IH) (k : MS) : (SO.bk en h).seq k = .bk en h := rfl
@[simp] theorem SO.seq_ct (en : En) (h : IH) (k : MS) : (SO.ct en h).seq k = .ct en h := rfl
@[simp] theorem SO.seq_err (c : Nat) (h : IH) (k : MS) : (SO.err c h).seq k = .err c h := rfl
@[simp] theorem SO.seq_bad (k : MS) : SO.bad.seq k = .bad := rfl
def seqS (f k : MS) : MS := fun en h => (f en h).seq k
theorem dss_cons (h1 : DS X T E st fs) (h2 : DSs X T E sts ks) : DSs X T E (st :: sts) (seqS fs ks) :=
  PSs.imp (pss_cons h1 h2) fun D σ H ⟨m, h, en, rel, p⟩ => by
    refine ⟨m, h, en, rel, ?_⟩
    have p : PostS (gX X T) m h.length H E D ((fs en h).seq ks) := p
    cases q : fs en h with
    | nx en' h' =>
      rw [q] at p
      exact fun m' H' σ' e1 rel' => ⟨m', h', en', rel', PostS.rebase e1 p⟩
    | rt d h' => rw [q] at p; exact p
    | bk en' h' => rw [q] at p; exact p
    | ct en' h' => rw [q] at p; exact p
    | err c h' => rw [q] at p; exact p
    | bad => rw [q] at p; exact p
theorem dss_one (h1 : DS X T E st fs) : DSs X T E [st] fs := pss_one h1
def exprS (f : ME) : MS := fun en h => (f en h).toS fun _ h1 => .nx en h1
theorem ds_expr (ha : DE X T E a f) (hs : swapsWith a none pos.line X.env = pure false := by rfl) : DS X T E (.Expr a pos) (exprS f) :=
  PS.imp (ps_expr ha hs) fun D σ H ⟨m, h, en, rel, p⟩ => chainS rel p fun m1 h1 H1 v d e1 rel1 rv1 p1 => p1 m1 H1 σ (Ex.refl _ _ _) rel1
def retS (f : ME) : MS := fun en h => (f en h).toS fun d h1 => .rt d h1
theorem ds_ret (ha : DE X T E a f) : DS X T E (.Return (some a) pos) (retS f) :=
  PS.imp (ps_ret ha) fun D σ H ⟨m, h, en, rel, p⟩ => chainS rel p fun m1 h1 H1 v d e1 rel1 rv1 p1 => p1 m1 H1 v (Ex.refl _ _ _) rel1.rh rv1
def retN : MS := fun _ h => .rt .non h
theorem ds_retN : DS X T E (.Return none pos) retN := PS.imp ps_retN fun D σ H ⟨m, h, en, rel, p⟩ => p m H .non (Ex.refl _ _ _) rel.rh .non
def ifS (t : MT) (f k : MS) : MS := fun en h => (t en h).toS fun b h1 => match b with
  | true => f en h1
  | false => k en h1
theorem ds_if (hc : DT X T E c tA) (ha : DSs X T E sts fs) (hb : DSs X T E sts2 ks) : DS X T E (.If c sts sts2 pos) (ifS tA fs ks) :=
  PS.imp (ps_if hc ha hb) fun D σ H ⟨m, h, en, rel, p⟩ => chainS rel p fun m1 h1 H1 v d e1 rel1 rv1 p1 => by
    cases (show v = d from rv1)
    cases v with
    | true => rw [if_pos rfl]; exact ⟨m1, h1, en, rel1, p1⟩
    | false => rw [if_neg Bool.false_ne_true]; exact ⟨m1, h1, en, rel1, p1⟩
/-! ### targets -/
abbrev MG := D → En → IH → Out En
def LG (g : G) (gf : MG) : TG := fun v σ H Q => ∃ m h en d, Rel g m h σ en H ∧ Rv g.K m h.length H v d ∧ match gf d en h with
  | .ok en' h' => ∀ m' H' σ', Ex m h.length H m' h'.length H' → Rel g m' h' σ' en' H' → Q σ' H'
  | _ => False
def DG (X : Cx) (T : List (Addr × Str)) (e : Expr) (gf : MG) : Prop := PG X e (LG (gX X T) gf)
theorem PG.imp {X : Cx} {e : Expr} {t t' : TG} (h : PG X e t) (q : ∀ v σ H Q, t' v σ H Q → t v σ H Q) : PG X e t' := ⟨fun pins s σ H v u Q I r w => h.run pins s σ H v u Q I r (q v σ H Q w)⟩
theorem PGs.imp {X : Cx} {e : List Expr} {t t' : TGs} (h : PGs X e t) (q : ∀ v σ H Q, t' v σ H Q → t v σ H Q) : PGs X e t' := ⟨fun pins s σ H v u Q I r w => h.run pins s σ H v u Q I r (q v σ H Q w)⟩
def nameG (i : Nat) : MG := fun d en h => .ok (en.set i (some d)) h
theorem dg_name (i : Nat) {x : Str} (hN : X.N.Nodup) (hi : X.N[i]? = some x := by rfl) (hx : Loc X.env.scope x := by first | exact Or.inl rfl | exact Or.inr rfl) (hf : X.fn x = true ∨ X.env.scope.names.lookup x = some .local := by first | exact .inl rfl | exact .inr rfl) : DG X T (.Name x pos) (nameG i) :=
  PG.imp (pg_name hN hi hx hf) fun v σ H Q ⟨m, h, en, d, rel, rv, p⟩ => p m H _ (Ex.refl _ _ _) (rel.set i rv)
/-- several, one after another -/
abbrev MGs := List D → En → IH → Out En
def LGs (g : G) (gf : MGs) : TGs := fun vs σ H Q => ∃ m h en ds, Rel g m h σ en H ∧ Rvs g.K m h.length H vs ds ∧ match gf ds en h with
  | .ok en' h' => ∀ m' H' σ', Ex m h.length H m' h'.length H' → Rel g m' h' σ' en' H' → Q σ' H'
  | _ => False
def DGs (X : Cx) (T : List (Addr × Str)) (e : List Expr) (gf : MGs) : Prop := PGs X e (LGs (gX X T) gf)
def nilG : MGs := fun ds en h => match ds with
  | [] => .ok en h
  | _ => .bad
def consG (g1 : MG) (g2 : MGs) : MGs := fun ds en h => match ds with
  | d :: ds => (g1 d en h).bind fun en1 h1 => g2 ds en1 h1
  | [] => .bad
theorem dgs_nil : DGs X T [] nilG := PGs.imp pgs_nil fun v σ H Q ⟨m, h, en, ds, rel, rv, p⟩ => by
  cases ds with
  | nil => cases rv; exact ⟨rfl, p m H σ (Ex.refl _ _ _) rel⟩
  | cons _ _ => exact p.elim
theorem dgs_cons {g1 : MG} {g2 : MGs} (h1 : DG X T e g1) (h2 : DGs X T es g2) (hs : (assignEach (e :: es) X.env).map (·.2) = assign e X.env :: (assignEach es X.env).map (·.2) := by rfl) : DGs X T (e :: es) (consG g1 g2) :=
  PGs.imp (pgs_cons h1 h2 hs) fun v σ H Q ⟨m, h, en, ds, rel, rv, p⟩ => by
    cases ds with
    | nil => exact p.elim
    | cons d ds =>
      cases rv with
      | cons r1 r2 =>
        refine ⟨_, _, rfl, m, h, en, d, rel, r1, ?_⟩
        unfold consG at p
        dsimp only at p
        cases q : g1 d en h with
        | ok en1 h1 =>
          rw [q] at p
          intro m1 H1 σ1 e1 rel1
          refine ⟨m1, h1, en1, ds, rel1, r2.mono e1, ?_⟩
          cases q2 : g2 ds en1 h1 with
          | ok en2 h2 =>
            have p : (match g2 ds en1 h1 with
              | .ok en' h' => ∀ m' H' σ', Ex m h.length H m' h'.length H' → Rel (gX X T) m' h' σ' en' H' → Q σ' H'
              | _ => False) := p
            rw [q2] at p
            exact fun m2 H2 σ2 e2 rel2 => p m2 H2 σ2 (e1.trans e2) rel2
          | err c h2 =>
            have p : (match g2 ds en1 h1 with
              | .ok en' h' => ∀ m' H' σ', Ex m h.length H m' h'.length H' → Rel (gX X T) m' h' σ' en' H' → Q σ' H'
              | _ => False) := p
            rw [q2] at p
            exact p.elim
          | bad =>
            have p : (match g2 ds en1 h1 with
              | .ok en' h' => ∀ m' H' σ', Ex m h.length H m' h'.length H' → Rel (gX X T) m' h' σ' en' H' → Q σ' H'
              | _ => False) := p
            rw [q2] at p
            exact p.elim
        | err c h1 => rw [q] at p; exact p.elim
        | bad => rw [q] at p; exact p.elim
def tupG (n : Nat) (gs : MGs) : MG := fun d en h => match d with
  | .tup xs => grd (decide (xs.length = n)) (gs xs en h)
  | _ => .bad
theorem dg_tup {gs : MGs} {n k : Nat} (hc : X.calm = true) (hg : DGs X T es gs) (hn : (assignEach es X.env).length = n := by rfl) (hst : (assignEach es X.env).findIdx? (·.1) = none := by rfl) : DG X T (.Tuple es k pos) (tupG n gs) :=
  PG.imp (pg_tup hc hg hn hst) fun v σ H Q ⟨m, h, en, d, rel, rv, p⟩ => by
    cases d with
    | tup xs =>
      obtain ⟨a, vs, rfl, s, r⟩ := getT_ok rv (show getT (.tup xs) = some xs from rfl)
      have p : (match grd (decide (xs.length = n)) (gs xs en h) with
        | .ok en' h' => ∀ m' H' σ', Ex m h.length H m' h'.length H' → Rel (gX X T) m' h' σ' en' H' → Q σ' H'
        | _ => False) := p
      by_cases hl : xs.length = n
      · rw [grd_of _ (decide_eq_true hl)] at p
        exact ⟨a, vs, rfl, s, by rw [r.length]; exact hl, m, h, en, xs, rel, r, p⟩
      · rw [decide_eq_false hl] at p
        exact p.elim
    | _ => exact p.elim
def asgS (f : ME) (gf : MG) : MS := fun en h => (f en h).toS fun d h1 => match gf d en h1 with
  | .ok en' h2 => .nx en' h2
  | _ => .bad
theorem asg_post {gf : MG} {m : Mp} {h : IH} {H : Hp} {en : En} {σ : L2.St} {v : V} {d : D} {D : Ends} (rel : Rel (gX X T) m h σ en H) (rv : Rv X.K m h.length H v d) (p : PostS (gX X T) m h.length H E D (match gf d en h with | .ok en' h2 => .nx en' h2 | _ => .bad)) : LG (gX X T) gf v σ H D.nx := by
  refine ⟨m, h, en, d, rel, rv, ?_⟩
  cases q : gf d en h with
  | ok en' h' => rw [q] at p; exact p
  | err c h' => rw [q] at p; exact p.elim
  | bad => rw [q] at p; exact p.elim
theorem ds_asg {tg : Expr} {gf : MG} (ha : DE X T E a f) (hg : DG X T tg gf) (hs : swapsWithSole [tg] a pos.line X.env = pure false := by rfl) (hw : swappedStores [tg] a X.env = pure none := by rfl)
    (h1 : (assignEach [tg] X.env).map (·.2) = [assign tg X.env] := by rfl) : DS X T E (.Assign [tg] a pos) (asgS f gf) :=
  PS.imp (ps_asg ha hg hs hw h1) fun D σ H ⟨m, h, en, rel, p⟩ => chainS rel p fun m1 h1 H1 v d e1 rel1 rv1 p1 => asg_post rel1 rv1 p1
theorem ds_set (i : Nat) {x : Str} {pos' : Pos} (hN : X.N.Nodup) (ha : DE X T E a f) (hi : X.N[i]? = some x := by rfl) (hx : Loc X.env.scope x := by first | exact Or.inl rfl | exact Or.inr rfl)
    (hs : swapsWith a (some (.Name x pos')) pos.line X.env = pure false := by rfl) (hf : X.fn x = true ∨ X.env.scope.names.lookup x = some .local := by first | exact .inl rfl | exact .inr rfl) : DS X T E (.Assign [.Name x pos'] a pos) (asgS f (nameG i)) :=
  PS.imp (ps_set hN hi hx ha hs hf) fun D σ H ⟨m, h, en, rel, p⟩ => chainS rel p fun m1 h1 H1 v d e1 rel1 rv1 p1 => p1 m1 H1 _ (Ex.refl _ _ _) (rel1.set i rv1)
/-- a, b = x, y: two locals -/
def parS (i j : Nat) (t : MA) : MS := fun en h => (t en h).toS fun ds h1 => match ds with
  | [x, y] => .nx ((en.set i (some x)).set j (some y)) h1
  | _ => .bad
theorem ds_par (i j : Nat) {x y : Str} {t : MA} {px py pt pt2 : Pos} {kt k2 : Nat} (hc : X.calm = true) (hN : X.N.Nodup) (ha : DA X T E [a, b] t) (hi : X.N[i]? = some x := by rfl) (hj : X.N[j]? = some y := by rfl) (hij : i ≠ j := by decide)
    (hx : X.env.scope.names.lookup x = some .local := by rfl) (hy : X.env.scope.names.lookup y = some .local := by rfl)
    (hw : swappedStores [.Tuple [.Name x px, .Name y py] kt pt] (.Tuple [a, b] k2 pt2) X.env = pure (some [x, y]) := by rfl)
    (hs : swapsWithSole [.Tuple [.Name x px, .Name y py] kt pt] (.Tuple [a, b] k2 pt2) pos.line X.env = pure false := by rfl) :
    DS X T E (.Assign [.Tuple [.Name x px, .Name y py] kt pt] (.Tuple [a, b] k2 pt2) pos) (parS i j t) :=
  PS.imp (ps_par hc hN hi hj hij hx hy ha hw hs) fun D σ H ⟨m, h, en, rel, p⟩ => chainS rel p fun m1 h1 H1 v d e1 rel1 rv1 p1 => by
    cases d with
    | nil => exact p1.elim
    | cons x d =>
      cases d with
      | nil => exact p1.elim
      | cons y d =>
        cases d with
        | cons _ _ => exact p1.elim
        | nil =>
          obtain ⟨u, w, rfl, r1, r2⟩ := rv1.two
          exact ⟨u, w, rfl, p1 m1 H1 _ (Ex.refl _ _ _) ((rel1.set i r1).set j r2)⟩
/-- o[i] = v, a list of the ideal heap -/
def setD (x i v : D) (h : IH) : Out Unit := match refL h x, i with
  | some (p, xs), .int k => (match ixN xs.length k with
    | some j => .ok () (h.set p (.lst (xs.set j v)))
    | none => .bad)
  | _, _ => .bad
def setS (fv fo fi : ME) : MS := fun en h => (fv en h).toS fun v h1 => (fo en h1).toS fun x h2 => (fi en h2).toS fun i h3 => (setD x i v h3).toS fun _ h4 => .nx en h4
theorem ds_setItem {fv fo fi : ME} {i : Expr} {ipos : Pos} (hv : DE X T E a fv) (ho : DE X T E o fo) (hi : DE X T E i fi)
    (ha : ∀ v, assign (.Subscript o i ipos) X.env v = (do
      let ov ← holding [v] (eval o X.env)
      let iv ← holding [v, ov] (eval i X.env)
      standAt ipos
      holding [v, ov, iv] (setItem ov iv v)
      release [v, ov, iv] []) := by intro _; rfl)
    (hs : swapsWithSole [.Subscript o i ipos] a pos.line X.env = pure false := by rfl) (hw : swappedStores [.Subscript o i ipos] a X.env = pure none := by rfl)
    (h1 : (assignEach [.Subscript o i ipos] X.env).map (·.2) = [assign (.Subscript o i ipos) X.env] := by rfl) : DS X T E (.Assign [.Subscript o i ipos] a pos) (setS fv fo fi) :=
  PS.imp (ps_asg hv (pg_sub ho hi set_list ha) hs hw h1) fun D σ H ⟨m, h, en, rel, p⟩ => chainS rel p fun m1 h1 H1 v d e1 rel1 rv1 p1 => chainS rel1 p1 fun m2 h2 H2 ov od e2 rel2 rv2 p2 => chainS rel2 p2 fun m3 h3 H3 iv id e3 rel3 rv3 p3 => by
    unfold setD at p3
    cases q : refL h3 od with
    | none => rw [q] at p3; exact p3.elim
    | some z =>
      obtain ⟨j, xs⟩ := z
      rw [q] at p3
      cases id with
      | int k =>
        dsimp only at p3
        cases q2 : ixN xs.length k with
        | none => rw [q2] at p3; exact p3.elim
        | some n =>
          rw [q2] at p3
          obtain ⟨rfl, hi⟩ := refL_ok q
          obtain ⟨ws, z1, z2⟩ := rel3.rh.lst hi
          cases rv2.mono e3
          cases rv3
          have rv : Rv X.K m3 h3.length H3 v d := (rv1.mono e2).mono e3
          obtain ⟨ex, rh'⟩ := lst_store rel3.rh hi (z2.set rv n)
          exact ⟨_, ws, k, n, rfl, rfl, z1, by rw [z2.length]; exact q2, p3 m3 _ σ ex (rel3.next ex rh')⟩
      | _ => exact p3.elim
end
end DL

set_option Elab.async false
set_option linter.all false
set_option maxRecDepth 100000
set_option autoImplicit false
/-! What is walked; for, while, comprehensions. -/
namespace DL
open PySem PySem.Spec PyProof.Rows L2

abbrev View := IH → Option (List D)
def ItS (g : G) (m0 : Mp) (n0 : Nat) (H0 : Hp) (J : It) (w : View) : Prop := ∀ (m : Mp) (h : IH) (H : Hp), Ex m0 n0 H0 m h.length H → RH g m h H → ∀ xs, w h = some xs → ∀ i : Nat,
  (∀ d, xs[i]? = some d → J.go i H ∧ ∀ x H', J.yld i H x H' → Ex m h.length H m h.length H' ∧ RH g m h H' ∧ Rv g.K m h.length H' x d) ∧ (xs.length ≤ i → J.stop i H)
abbrev MV := En → IH → Out View
def DI (X : Cx) (T : List (Addr × Str)) (E : XK) (tg iter : Expr) (f : MV) : Prop := PI X tg iter (LX (ItS (gX X T)) (gX X T) E f)
theorem PI.imp {X : Cx} {tg e : Expr} {t t' : TI} (h : PI X tg e t) (q : ∀ σ H Q, t' σ H Q → t σ H Q) : PI X tg e t' := ⟨fun pins s σ H Q I w => h.run pins s σ H Q I (q σ H Q w)⟩
theorem PI.or {X : Cx} {tg e : Expr} {t t' : TI} (h : PI X tg e t) (h' : PI X tg e t') : PI X tg e (fun σ H R => t σ H R ∨ t' σ H R) := ⟨fun pins s σ H Q I w => w.elim (fun w => h.run pins s σ H Q I w) fun w => h'.run pins s σ H Q I w⟩
section
variable {g : G} {m : Mp} {h : IH} {H : Hp}
theorem its_list {a : Addr} {d : D} (rv : Rv g.K m h.length H (.ref a) d) : ItS g m h.length H (Itl g.K a) (fun h => getL h d) := by
  intro m1 h1 H1 ex rh xs e i
  obtain ⟨b, vs, eb, s, r⟩ := getL_ok rh (rv.mono ex) e
  cases eb
  refine ⟨fun y hy => ?_, fun hl => ⟨vs, s, by rw [r.length]; exact hl⟩⟩
  obtain ⟨v, q1, q2⟩ := r.get hy
  refine ⟨⟨vs, v, s, q1⟩, fun x H' ⟨eH, hx⟩ => ?_⟩
  subst eH
  have z := hx vs s
  rw [q1] at z
  cases z
  exact ⟨Ex.refl _ _ _, rh, q2⟩
theorem its_tup {a : Addr} {d : D} (rv : Rv g.K m h.length H (.ref a) d) : ItS g m h.length H (Itt g.K a) (fun _ => getT d) := by
  intro m1 h1 H1 ex rh xs e i
  obtain ⟨b, vs, eb, s, r⟩ := getT_ok (rv.mono ex) e
  cases eb
  refine ⟨fun y hy => ?_, fun hl => ⟨vs, s, by rw [r.length]; exact hl⟩⟩
  obtain ⟨v, q1, q2⟩ := r.get hy
  refine ⟨⟨vs, v, s, q1⟩, fun x H' ⟨eH, hx⟩ => ?_⟩
  subst eH
  have z := hx vs s
  rw [q1] at z
  cases z
  exact ⟨Ex.refl _ _ _, rh, q2⟩
def rangeL (lo : Int) (n : Nat) : List D := (List.range n).map fun i => .int (lo + (i : Nat))
theorem its_range {lo : Int} {n : Nat} : ItS g m h.length H (Itr lo n) (fun _ => some (rangeL lo n)) := by
  intro m1 h1 H1 ex rh xs e i
  cases e
  unfold rangeL
  refine ⟨fun y hy => ?_, fun hl => (show n ≤ i by simpa using hl)⟩
  rw [List.getElem?_map] at hy
  by_cases hi : i < n
  · rw [List.getElem?_range hi] at hy
    cases hy
    refine ⟨hi, fun x H' ⟨eH, hx⟩ => ?_⟩
    subst eH hx
    exact ⟨Ex.refl _ _ _, rh, .int _⟩
  · rw [List.getElem?_eq_none (by simpa using hi)] at hy
    cases hy
def enumFrom (k : Nat) : List D → List D
  | [] => []
  | x :: xs => .tup [.int (k : Nat), x] :: enumFrom (k + 1) xs
theorem enumFrom_get : ∀ (xs : List D) (k i : Nat), (enumFrom k xs)[i]? = (xs[i]?).map fun x => .tup [.int ((k + i : Nat) : Int), x]
  | [], k, i => by simp [enumFrom]
  | x :: xs, k, 0 => by simp [enumFrom]
  | x :: xs, k, i + 1 => by
    simp only [enumFrom, List.getElem?_cons_succ]
    rw [enumFrom_get xs (k + 1) i]
    have : k + 1 + i = k + (i + 1) := by omega
    rw [this]
theorem enumFrom_length : ∀ (xs : List D) (k : Nat), (enumFrom k xs).length = xs.length
  | [], k => rfl
  | x :: xs, k => by simp [enumFrom, enumFrom_length xs (k + 1)]
theorem its_enum {a : Addr} {d : D} (rv : Rv g.K m h.length H (.ref a) d) : ItS g m h.length H (Ite g.K a) (fun h => (getL h d).map (enumFrom 0)) := by
  intro m1 h1 H1 ex rh xs e i
  obtain ⟨ys, e0, rfl⟩ := Option.map_eq_some_iff.mp e
  obtain ⟨b, vs, eb, s, r⟩ := getL_ok rh (rv.mono ex) e0
  cases eb
  refine ⟨fun y hy => ?_, fun hl => ⟨vs, s, by rw [r.length]; rw [enumFrom_length] at hl; exact hl⟩⟩
  rw [enumFrom_get] at hy
  obtain ⟨z, hz, rfl⟩ := Option.map_eq_some_iff.mp hy
  obtain ⟨v, q1, q2⟩ := r.get hz
  refine ⟨⟨vs, v, s, q1⟩, fun x H' ⟨T, w, eT, hT, eH, hx⟩ => ?_⟩
  subst eT eH
  have z2 := hx vs s
  rw [q1] at z2
  cases z2
  rw [Nat.zero_add]
  have ex2 := Ex.fresh (m := m1) (n := h1.length) (o := .tup [.int (i : Nat), v]) hT NT.tup
  exact ⟨ex2, rh.fresh hT NT.tup, .tup (.inr ⟨.inl upd_same, rh.off hT⟩) (.cons (.int _) (.cons (q2.mono ex2) .nil))⟩
def zipL : List D → List D → List D
  | x :: xs, y :: ys => .tup [x, y] :: zipL xs ys
  | _, _ => []
theorem zipL_get : ∀ (xs ys : List D) (i : Nat) (d : D), (zipL xs ys)[i]? = some d → ∃ x y, xs[i]? = some x ∧ ys[i]? = some y ∧ d = .tup [x, y]
  | [], _, i, d, h => by simp [zipL] at h
  | _ :: _, [], i, d, h => by simp [zipL] at h
  | x :: xs, y :: ys, 0, d, h => by simp [zipL] at h; exact ⟨x, y, rfl, rfl, h.symm⟩
  | x :: xs, y :: ys, i + 1, d, h => by
    simp only [zipL, List.getElem?_cons_succ] at h
    obtain ⟨a, b, h1, h2, h3⟩ := zipL_get xs ys i d h
    exact ⟨a, b, by simpa using h1, by simpa using h2, h3⟩
theorem zipL_length : ∀ (xs ys : List D), (zipL xs ys).length = min xs.length ys.length
  | [], _ => by simp [zipL]
  | _ :: _, [] => by simp [zipL]
  | x :: xs, y :: ys => by simp [zipL, zipL_length xs ys]
def zipV (d e : D) : View := fun h => match getL h d, getL h e with
  | some xs, some ys => some (zipL xs ys)
  | _, _ => none
theorem its_zip {a b : Addr} {d e : D} (rv : Rv g.K m h.length H (.ref a) d) (rw' : Rv g.K m h.length H (.ref b) e) : ItS g m h.length H (Itz g.K a b) (zipV d e) := by
  intro m1 h1 H1 ex rh xs e1 i
  unfold zipV at e1
  split at e1
  · rename_i ys zs q1 q2
    cases e1
    obtain ⟨a', vs, eb, s, r⟩ := getL_ok rh (rv.mono ex) q1
    cases eb
    obtain ⟨b', us, eb, s2, r2⟩ := getL_ok rh (rw'.mono ex) q2
    cases eb
    refine ⟨fun y hy => ?_, fun hl => ⟨vs, us, s, s2, ?_⟩⟩
    · obtain ⟨x, z, hx, hz, rfl⟩ := zipL_get _ _ _ _ hy
      obtain ⟨v, k1, k2⟩ := r.get hx
      obtain ⟨u, l1, l2⟩ := r2.get hz
      refine ⟨⟨vs, us, v, u, s, s2, k1, l1⟩, fun x' H' ⟨T, w1, w2, eT, hT, eH, hx1, hx2⟩ => ?_⟩
      subst eT eH
      have z1 := hx1 vs s
      rw [k1] at z1
      cases z1
      have z2 := hx2 us s2
      rw [l1] at z2
      cases z2
      have ex2 := Ex.fresh (m := m1) (n := h1.length) (o := .tup [v, u]) hT NT.tup
      exact ⟨ex2, rh.fresh hT NT.tup, .tup (.inr ⟨.inl upd_same, rh.off hT⟩) (.cons (k2.mono ex2) (.cons (l2.mono ex2) .nil))⟩
    · rw [zipL_length] at hl
      rw [r.length, r2.length]
      omega
  · cases e1
end
section
variable {X : Cx} {T : List (Addr × Str)} {E : XK} {tg a b c e e2 : Expr} {es : List Expr} {pos p : Pos} {f k : ME} {t : MA}
theorem Rv.isRef {g : G} {m : Mp} {h : IH} {H : Hp} {v : V} {d : D} {xs : List D} (rh : RH g m h H) (rv : Rv g.K m h.length H v d) (e : getS h d = some xs) : ∃ a, v = .ref a := by
  obtain ⟨a, vs, e1, _⟩ := getS_ok rh rv e
  exact ⟨a, e1⟩
/-- a list, a tuple -/
def seqV (f : ME) : MV := fun en h => (f en h).bind fun d h1 => match getL h1 d with
  | some _ => .ok (fun h => getL h d) h1
  | none => (match getT d with
    | some xs => .ok (fun _ => some xs) h1
    | none => .bad)
theorem di_seq (ha : DE X T E a f) : DI X T E tg a (seqV f) := by
  refine PI.imp (PI.or (pi_list ha) (pi_tup ha)) fun σ H R ⟨m, h, en, rel, p⟩ => ?_
  have p : Post (ItS (gX X T)) (gX X T) m h.length H E R ((f en h).bind fun d h1 => match getL h1 d with
    | some _ => .ok (fun h => getL h d) h1
    | none => (match getT d with
      | some xs => .ok (fun _ => some xs) h1
      | none => .bad)) := p
  cases q : f en h with
  | bad => rw [q] at p; exact p.elim
  | err c h1 =>
    rw [q] at p
    exact .inl ⟨m, h, en, rel, by rw [q]; exact p⟩
  | ok d h1 =>
    rw [q] at p
    rw [Out.bind_ok] at p
    cases q2 : getL h1 d with
    | some xs =>
      rw [q2] at p
      refine .inl ⟨m, h, en, rel, ?_⟩
      rw [q]
      intro m1 H1 v e1 rh1 rv1
      obtain ⟨a, vs, rfl, s, r⟩ := getL_ok rh1 rv1 q2
      exact ⟨a, rfl, ⟨vs, s⟩, p m1 H1 _ e1 rh1 (its_list rv1)⟩
    | none =>
      rw [q2] at p
      dsimp only at p
      cases q3 : getT d with
      | none => rw [q3] at p; exact p.elim
      | some xs =>
        rw [q3] at p
        refine .inr ⟨m, h, en, rel, ?_⟩
        rw [q]
        intro m1 H1 v e1 rh1 rv1
        obtain ⟨a, vs, rfl, s, r⟩ := getT_ok rv1 q3
        refine ⟨a, rfl, ⟨vs, s⟩, p m1 H1 _ e1 rh1 ?_⟩
        have z := its_tup rv1
        rw [q3] at z
        exact z
def inB (i : Int) : Bool := decide (-(2 ^ 62) ≤ i) && decide (i < 2 ^ 62)
def rng1V (t : MA) : MV := fun en h => (t en h).bind fun ds h1 => match ds with
  | [.int j] => grd (inB j) (.ok (fun _ => some (rangeL 0 j.toNat)) h1)
  | _ => .bad
def rng2V (t : MA) : MV := fun en h => (t en h).bind fun ds h1 => match ds with
  | [.int i, .int j] => grd (inB i && inB j) (.ok (fun _ => some (rangeL i (j - i).toNat)) h1)
  | _ => .bad
theorem di_range1 (hm : X.mg "range" = none) (ha : DA X T E [a] t) (hg : Gl X "range" := by rfl) (hs : starEach [a] X.env = [(false, eval a X.env)] := by rfl) : DI X T E tg (.Call (.Name "range" p) [a] [] pos) (rng1V t) :=
  PI.imp (pi_range1 hg hm ha hs) fun σ H R ⟨m, h, en, rel, p⟩ => chain rel p fun m1 h1 H1 v d e1 rel1 rv1 p1 => by
    split at p1
    · obtain ⟨hc, p1⟩ := Post.grd p1
      unfold inB at hc
      simp only [Bool.and_eq_true, decide_eq_true_eq] at hc
      obtain ⟨u, rfl, ru⟩ := rv1.one
      cases ru
      exact ⟨_, rfl, hc.1, hc.2, p1 m1 H1 _ (Ex.refl _ _ _) rel1.rh its_range⟩
    · exact p1.elim
theorem di_range2 (hm : X.mg "range" = none) (ha : DA X T E [a, b] t) (hg : Gl X "range" := by rfl) (hs : starEach [a, b] X.env = [(false, eval a X.env), (false, eval b X.env)] := by rfl) (hs2 : starEach [b] X.env = [(false, eval b X.env)] := by rfl) : DI X T E tg (.Call (.Name "range" p) [a, b] [] pos) (rng2V t) :=
  PI.imp (pi_range2 hg hm ha hs hs2) fun σ H R ⟨m, h, en, rel, p⟩ => chain rel p fun m1 h1 H1 v d e1 rel1 rv1 p1 => by
    split at p1
    · obtain ⟨hc, p1⟩ := Post.grd p1
      unfold inB at hc
      simp only [Bool.and_eq_true, decide_eq_true_eq] at hc
      obtain ⟨u, w, rfl, ru, rw'⟩ := rv1.two
      cases ru
      cases rw'
      exact ⟨_, _, rfl, ⟨hc.1.1, hc.1.2, hc.2.1, hc.2.2⟩, p1 m1 H1 _ (Ex.refl _ _ _) rel1.rh its_range⟩
    · exact p1.elim
def enumV (t : MA) : MV := fun en h => (t en h).bind fun ds h1 => match ds with
  | [d] => grd ((getL h1 d).isSome) (.ok (fun h => (getL h d).map (enumFrom 0)) h1)
  | _ => .bad
theorem di_enum {tpos : Pos} {elts : List Expr} {kk : Nat} (hm : X.mg "enumerate" = none) (ha : DA X T E [a] t) (hg : Gl X "enumerate" := by rfl) (hs : starEach [a] X.env = [(false, eval a X.env)] := by rfl) : DI X T E (.Tuple elts kk tpos) (.Call (.Name "enumerate" p) [a] [] pos) (enumV t) :=
  PI.imp (pi_enum hg hm ha hs) fun σ H R ⟨m, h, en, rel, p⟩ => chain rel p fun m1 h1 H1 v d e1 rel1 rv1 p1 => by
    split at p1
    · obtain ⟨hc, p1⟩ := Post.grd p1
      obtain ⟨xs, q⟩ := Option.isSome_iff_exists.mp hc
      obtain ⟨u, rfl, ru⟩ := rv1.one
      obtain ⟨a, vs, rfl, s, r⟩ := getL_ok rel1.rh ru q
      exact ⟨a, vs, rfl, s, p1 m1 H1 _ (Ex.refl _ _ _) rel1.rh (its_enum ru)⟩
    · exact p1.elim
def zipE (t : MA) : MV := fun en h => (t en h).bind fun ds h1 => match ds with
  | [d, e] => grd ((getL h1 d).isSome && (getL h1 e).isSome) (.ok (zipV d e) h1)
  | _ => .bad
theorem di_zip {tpos : Pos} {elts : List Expr} {kk : Nat} (hm : X.mg "zip" = none) (ha : DA X T E [e, e2] t) (hg : Gl X "zip" := by rfl) (hs : starEach [e, e2] X.env = (false, eval e X.env) :: starEach [e2] X.env := by rfl) (hpl : (backTo pos (starEach [e2] X.env)).any (·.1) = false := by rfl) :
    DI X T E (.Tuple elts kk tpos) (.Call (.Name "zip" p) [e, e2] [] pos) (zipE t) :=
  PI.imp (pi_zip hg hm ha hs hpl) fun σ H R ⟨m, h, en, rel, p⟩ => chain rel p fun m1 h1 H1 v d e1 rel1 rv1 p1 => by
    split at p1
    · obtain ⟨hc, p1⟩ := Post.grd p1
      rw [Bool.and_eq_true] at hc
      obtain ⟨xs, q⟩ := Option.isSome_iff_exists.mp hc.1
      obtain ⟨ys, q2⟩ := Option.isSome_iff_exists.mp hc.2
      obtain ⟨u, w, rfl, ru, rw'⟩ := rv1.two
      obtain ⟨a, vs, rfl, s, r⟩ := getL_ok rel1.rh ru q
      obtain ⟨b, us, rfl, s2, r2⟩ := getL_ok rel1.rh rw' q2
      exact ⟨a, b, vs, us, rfl, s, s2, p1 m1 H1 _ (Ex.refl _ _ _) rel1.rh (its_zip ru rw')⟩
    · exact p1.elim

/-! ### for -/
def forV (w : View) (body : D → En → IH → SO) : Nat → Nat → En → IH → SO
  | fuel, i, en, h => match w h with
    | none => .bad
    | some xs => match xs[i]? with
      | none => .nx en h
      | some x => match fuel with
        | 0 => .bad
        | fuel + 1 => match body x en h with
          | .nx en' h' => forV w body fuel (i + 1) en' h'
          | .ct en' h' => forV w body fuel (i + 1) en' h'
          | .bk en' h' => .nx en' h'
          | z => z
def stepB (gf : MG) (b : MS) : D → En → IH → SO := fun d en h => match gf d en h with
  | .ok en' h' => b en' h'
  | _ => .bad
def forS (fi : MV) (gf : MG) (b : MS) : MS := fun en h => (fi en h).toS fun w h1 => match w h1 with
  | some xs => forV w (stepB gf b) xs.length 0 en h1
  | none => .bad
theorem ds_for {iter : Expr} {body : List Stmt} {fi : MV} {gf : MG} {fb : MS} (hp : PassesOwn (model X.prog X.w) X.A X.env X.xe) (hc : X.calm = true) (hi : DI X T E tg iter fi) (hg : DG X T tg gf) (hb : DSs X T E body fb)
    (hs : ∀ x, foldedSetIterable iter X.env x = pure x := by intro _; rfl) : DS X T E (.For tg iter body [] pos) (forS fi gf fb) := by
  refine PS.imp (ps_for hp hc hi hg hb hs) fun D σ H ⟨m, h, en, rel, p⟩ => chainS rel p fun m1 h1 H1 J w e1 rel1 its p1 => ?_
  cases q0 : w h1 with
  | none => rw [q0] at p1; exact p1.elim
  | some xs0 =>
  rw [q0] at p1
  refine ⟨fun i μ σ' H' => ∃ m' h' en', Rel (gX X T) m' h' σ' en' H' ∧ Ex m1 h1.length H1 m' h'.length H' ∧ PostS (gX X T) m' h'.length H' E D (forV w (stepB gf fb) μ i en' h'),
    ⟨xs0.length, m1, h1, en, rel1, Ex.refl _ _ _, p1⟩, fun i μ σ' H' ⟨m', h', en', rel', ex', p'⟩ => ?_⟩
  unfold forV at p'
  cases q : w h' with
  | none => rw [q] at p'; exact p'.elim
  | some xs =>
    rw [q] at p'
    obtain ⟨its1, its2⟩ := its m' h' H' ex' rel'.rh xs q i
    dsimp only at p'
    cases q2 : xs[i]? with
    | none =>
      rw [q2] at p'
      exact .inl ⟨its2 (List.getElem?_eq_none_iff.mp q2), p' m' H' σ' (Ex.refl _ _ _) rel'⟩
    | some d =>
      rw [q2] at p'
      obtain ⟨go, yl⟩ := its1 d q2
      dsimp only at p'
      cases μ with
      | zero => exact p'.elim
      | succ μ =>
        dsimp only at p'
        refine .inr ⟨go, fun σ2 H2 => ∃ m2 h2 en2, Rel (gX X T) m2 h2 σ2 en2 H2 ∧ Ex m1 h1.length H1 m2 h2.length H2 ∧ PostS (gX X T) m2 h2.length H2 E D (forV w (stepB gf fb) μ (i + 1) en2 h2), fun σ2 H2 z => ⟨μ, Nat.lt_succ_self _, z⟩, fun x Hx y => ?_⟩
        obtain ⟨ex2, rh2, rv2⟩ := yl x Hx y
        refine ⟨m', h', en', d, rel'.next ex2 rh2, rv2, ?_⟩
        have p' := PostS.rebase ex2 p'
        unfold stepB at p'
        cases q3 : gf d en' h' with
        | err c h3 => rw [q3] at p'; exact p'.elim
        | bad => rw [q3] at p'; exact p'.elim
        | ok en3 h3 =>
          rw [q3] at p'
          intro m3 H3 σ3 ex3 rel3
          refine ⟨m3, h3, en3, rel3, ?_⟩
          dsimp only at p'
          have p' := PostS.rebase ex3 p'
          have exx := (ex'.trans ex2).trans ex3
          cases q4 : fb en3 h3 with
          | nx en4 h4 =>
            rw [q4] at p'
            exact fun m4 H4 σ4 ex4 rel4 => ⟨m4, h4, en4, rel4, exx.trans ex4, PostS.rebase ex4 p'⟩
          | ct en4 h4 =>
            rw [q4] at p'
            exact fun m4 H4 σ4 ex4 rel4 => ⟨m4, h4, en4, rel4, exx.trans ex4, PostS.rebase ex4 p'⟩
          | bk en4 h4 => rw [q4] at p'; exact p'
          | rt d4 h4 => rw [q4] at p'; exact p'
          | err c4 h4 => rw [q4] at p'; exact p'
          | bad => rw [q4] at p'; exact p'

/-! ### while, by so many turns at most -/
def whV (t : MT) (b : MS) : Nat → En → IH → SO
  | 0, _, _ => .bad
  | n + 1, en, h => (t en h).toS fun c h1 => match c with
    | true => (match b en h1 with
      | .nx en' h' => whV t b n en' h'
      | .ct en' h' => whV t b n en' h'
      | .bk en' h' => .nx en' h'
      | z => z)
    | false => .nx en h1
def whS (fuel : En → IH → Nat) (t : MT) (b : MS) : MS := fun en h => whV t b (fuel en h) en h
theorem ds_while (fuel : En → IH → Nat) {body : List Stmt} {tA : MT} {fb : MS} (hp : PassesOwn (model X.prog X.w) X.A X.env X.xe) (hc : DT X T E c tA) (hb : DSs X T E body fb) : DS X T E (.While c body [] pos) (whS fuel tA fb) := by
  refine PS.imp (ps_while hp hc hb) fun D σ H ⟨m, h, en, rel, p⟩ => ?_
  refine ⟨fun μ σ' H' => ∃ m' h' en', Rel (gX X T) m' h' σ' en' H' ∧ PostS (gX X T) m' h'.length H' E D (whV tA fb μ en' h'), ⟨fuel en h, m, h, en, rel, p⟩, fun μ σ' H' ⟨m', h', en', rel', p'⟩ => ?_⟩
  cases μ with
  | zero => exact p'.elim
  | succ μ =>
    refine chainS rel' p' fun m1 h1 H1 v d e1 rel1 rv1 p1 => ?_
    cases (show v = d from rv1)
    cases v with
    | false => rw [if_neg Bool.false_ne_true]; exact p1 m1 H1 σ' (Ex.refl _ _ _) rel1
    | true =>
      rw [if_pos rfl]
      refine ⟨fun σ2 H2 => ∃ m2 h2 en2, Rel (gX X T) m2 h2 σ2 en2 H2 ∧ PostS (gX X T) m2 h2.length H2 E D (whV tA fb μ en2 h2), fun σ2 H2 z => ⟨μ, Nat.lt_succ_self _, z⟩, m1, h1, en', rel1, ?_⟩
      dsimp only at p1
      cases q4 : fb en' h1 with
      | nx en4 h4 =>
        rw [q4] at p1
        exact fun m4 H4 σ4 ex4 rel4 => ⟨m4, h4, en4, rel4, PostS.rebase ex4 p1⟩
      | ct en4 h4 =>
        rw [q4] at p1
        exact fun m4 H4 σ4 ex4 rel4 => ⟨m4, h4, en4, rel4, PostS.rebase ex4 p1⟩
      | bk en4 h4 => rw [q4] at p1; exact p1
      | rt d4 h4 => rw [q4] at p1; exact p1
      | err c4 h4 => rw [q4] at p1; exact p1
      | bad => rw [q4] at p1; exact p1
end
end DL

set_option Elab.async false
set_option linter.all false
set_option maxRecDepth 100000
set_option autoImplicit false
/-! Comprehensions. -/
namespace DL
open PySem PySem.Spec PyProof.Rows L2

/-! ### an address that no value shows -/
def Mp.add (m : Mp) (D : Addr) : Mp := ⟨fun a => m.P a ∨ a = D, m.pt, m.F⟩
def Mp.bas (m : Mp) (P : Addr → Prop) : Mp := ⟨P, m.pt, m.F⟩
section
variable {K : PySem.W.Frag} {m : Mp} {n : Nat} {H : Hp} {D0 : Addr}
theorem Off.add {a : Addr} {o : HO} (q : Off m n a) (h : H a = some o) (hD : H D0 = none) : Off (m.add D0) n a := by
  refine ⟨fun z => ?_, q.2⟩
  rcases z with z | z
  · exact q.1 z
  · rw [z, hD] at h
    cases h
theorem Rd.add {a : Addr} {u : HO} (r : Rd H a u) (q : Off m n a) (hD : H D0 = none) : Off (m.add D0) n a := by
  rcases r with h | ⟨o, h⟩
  · exact q.add h hD
  · exact q.add h hD
mutual
theorem Rv.add (hD : H D0 = none) : ∀ {v : V} {d : D}, Rv K m n H v d → Rv K (m.add D0) n H v d
  | _, _, .non => .non
  | _, _, .bl b => .bl b
  | _, _, .int i => .int i
  | _, _, .str x => .str x
  | _, _, .wd h1 h2 => .wd h1 h2
  | _, _, .tup (.inl h) r => .tup (.inl h) (Rvs.add hD r)
  | _, _, .tup (.inr h) r => .tup (.inr ⟨h.1, Rd.add h.1 h.2 hD⟩) (Rvs.add hD r)
  | _, _, .vl h q r => .vl h (q.add h hD) (Rvs.add hD r)
  | _, _, .fl (.inl h) r => .fl (.inl h) (Rvs.add hD r)
  | _, _, .fl (.inr h) r => .fl (.inr ⟨h.1, Rd.add h.1 h.2 hD⟩) (Rvs.add hD r)
  | _, _, .ref (i := i) hi => Rv.ref (m := m.add D0) hi
theorem Rvs.add (hD : H D0 = none) : ∀ {vs : List V} {ds : List D}, Rvs K m n H vs ds → Rvs K (m.add D0) n H vs ds
  | _, _, .nil => .nil
  | _, _, .cons a b => .cons (Rv.add hD a) (Rvs.add hD b)
end
theorem Off.bas {P : Addr → Prop} (hP : ∀ a, P a → m.P a) {a : Addr} (q : Off m n a) : Off (m.bas P) n a := ⟨fun z => q.1 (hP a z), q.2⟩
mutual
theorem Rv.bas {P : Addr → Prop} (hP : ∀ a, P a → m.P a) : ∀ {v : V} {d : D}, Rv K m n H v d → Rv K (m.bas P) n H v d
  | _, _, .non => .non
  | _, _, .bl b => .bl b
  | _, _, .int i => .int i
  | _, _, .str x => .str x
  | _, _, .wd h1 h2 => .wd h1 h2
  | _, _, .tup (.inl h) r => .tup (.inl h) (Rvs.bas hP r)
  | _, _, .tup (.inr h) r => .tup (.inr ⟨h.1, h.2.bas hP⟩) (Rvs.bas hP r)
  | _, _, .vl h q r => .vl h (q.bas hP) (Rvs.bas hP r)
  | _, _, .fl (.inl h) r => .fl (.inl h) (Rvs.bas hP r)
  | _, _, .fl (.inr h) r => .fl (.inr ⟨h.1, h.2.bas hP⟩) (Rvs.bas hP r)
  | _, _, .ref (i := i) hi => Rv.ref (m := m.bas P) hi
theorem Rvs.bas {P : Addr → Prop} (hP : ∀ a, P a → m.P a) : ∀ {vs : List V} {ds : List D}, Rvs K m n H vs ds → Rvs K (m.bas P) n H vs ds
  | _, _, .nil => .nil
  | _, _, .cons a b => .cons (Rv.bas hP a) (Rvs.bas hP b)
end
/-- the protected row is written: no value leans on it -/
theorem Off.ne {a : Addr} (q : Off m n a) (hD : m.P D0) : a ≠ D0 := fun z => q.1 (by rw [z]; exact hD)
mutual
theorem Rv.upd (hD : m.P D0) {o : HO} : ∀ {v : V} {d : D}, Rv K m n H v d → Rv K m n (L2.upd H D0 o) v d
  | _, _, .non => .non
  | _, _, .bl b => .bl b
  | _, _, .int i => .int i
  | _, _, .str x => .str x
  | _, _, .wd h1 h2 => .wd h1 h2
  | _, _, .tup (.inl h) r => .tup (.inl h) (Rvs.upd hD r)
  | _, _, .tup (.inr h) r => .tup (.inr ⟨by
      rcases h.1 with z | ⟨ob, z⟩
      · exact .inl (by rw [upd_ne (h.2.ne hD)]; exact z)
      · exact .inr ⟨ob, by rw [upd_ne (h.2.ne hD)]; exact z⟩, h.2⟩) (Rvs.upd hD r)
  | _, _, .vl h q r => .vl (by rw [upd_ne (q.ne hD)]; exact h) q (Rvs.upd hD r)
  | _, _, .fl (.inl h) r => .fl (.inl h) (Rvs.upd hD r)
  | _, _, .fl (.inr h) r => .fl (.inr ⟨by
      rcases h.1 with z | ⟨ob, z⟩
      · exact .inl (by rw [upd_ne (h.2.ne hD)]; exact z)
      · exact .inr ⟨ob, by rw [upd_ne (h.2.ne hD)]; exact z⟩, h.2⟩) (Rvs.upd hD r)
  | _, _, .ref hi => .ref hi
theorem Rvs.upd (hD : m.P D0) {o : HO} : ∀ {vs : List V} {ds : List D}, Rvs K m n H vs ds → Rvs K m n (L2.upd H D0 o) vs ds
  | _, _, .nil => .nil
  | _, _, .cons a b => .cons (Rv.upd hD a) (Rvs.upd hD b)
end
end
section
variable {g : G} {m : Mp} {h : IH} {H : Hp} {D0 : Addr}
theorem RH.add (r : RH g m h H) (hD : H D0 = none) {o : HO} (ho : NT o) : RH g (m.add D0) h (L2.upd H D0 o) where
  obj := fun i u hi => by
    have q := r.obj i u hi
    have ex : Ex (m.add D0) h.length H (m.add D0) h.length (L2.upd H D0 o) := Ex.fresh hD ho
    cases u with
    | lst ds => obtain ⟨vs, h1, h2⟩ := q; exact ⟨vs, by rw [show (m.add D0) i = m i from rfl, upd_ne (ne_of_none h1 hD)]; exact h1, (h2.add hD).mono ex⟩
    | dct kvs => obtain ⟨vs, h1, h2⟩ := q; exact ⟨vs, by rw [show (m.add D0) i = m i from rfl, upd_ne (ne_of_none h1 hD)]; exact h1, Paired.mapP h2 fun _ _ z => ⟨z.1, z.2.1, (z.2.2.add hD).mono ex⟩⟩
    | ins c fs => obtain ⟨C, dx, vs, h1, h2, h3, h4⟩ := q; exact ⟨C, dx, vs, by rw [show (m.add D0) i = m i from rfl, upd_ne (ne_of_none h1 hD)]; exact h1, h2, h3, (h4.add hD).mono ex⟩
    | frz kvs => obtain ⟨od, vs, h1, h0, h2⟩ := q; exact ⟨od, vs, by rw [show (m.add D0) i = m i from rfl, upd_ne (ne_of_none h1 hD)]; exact h1, h0, Paired.mapP h2 fun _ _ z => ⟨z.1, z.2.1, (z.2.2.add hD).mono ex⟩⟩
  inj := r.inj
  tab := r.tab.ext (upd_keeps hD)
  prt := fun a z => by
    rcases z with z | z
    · obtain ⟨u, e, k⟩ := r.prt a z
      exact ⟨u, upd_keeps hD _ _ e, k⟩
    · exact ⟨o, by rw [z, upd_same], ho⟩
  npr := fun i hi z => by
    rcases z with z | z
    · exact r.npr i hi z
    · obtain ⟨u, e, _⟩ := r.is hi
      rw [show (m.add D0) i = m i from rfl] at z
      rw [z, hD] at e
      cases e
  fz1 := r.fz1
  fz2 := fun a u z => by
    obtain ⟨v, e, k⟩ := r.fz2 a u z
    exact ⟨v, upd_keeps hD _ _ e, k⟩
  fz3 := fun a z => by
    rcases z with z | z
    · exact r.fz3 a z
    · subst z
      cases q : m.F a with
      | none => exact q
      | some u =>
        obtain ⟨v, e, _⟩ := r.fz2 a u q
        rw [hD] at e
        cases e
theorem RH.bas (r : RH g m h H) {P : Addr → Prop} (hP : ∀ a, P a → m.P a) : RH g (m.bas P) h H where
  obj := fun i u hi => by
    have q := r.obj i u hi
    cases u with
    | lst ds => obtain ⟨vs, h1, h2⟩ := q; exact ⟨vs, h1, h2.bas hP⟩
    | dct kvs => obtain ⟨vs, h1, h2⟩ := q; exact ⟨vs, h1, Paired.mapP h2 fun _ _ z => ⟨z.1, z.2.1, z.2.2.bas hP⟩⟩
    | ins c fs => obtain ⟨C, dx, vs, h1, h2, h3, h4⟩ := q; exact ⟨C, dx, vs, h1, h2, h3, h4.bas hP⟩
    | frz kvs => obtain ⟨od, vs, h1, h0, h2⟩ := q; exact ⟨od, vs, h1, h0, Paired.mapP h2 fun _ _ z => ⟨z.1, z.2.1, z.2.2.bas hP⟩⟩
  inj := r.inj
  tab := r.tab
  prt := fun a z => r.prt a (hP a z)
  npr := fun i hi z => r.npr i hi (hP _ z)
  fz1 := r.fz1
  fz2 := r.fz2
  fz3 := fun a z => r.fz3 a (hP a z)
theorem RH.updP (r : RH g m h H) (hD : m.P D0) {xs ys : List V} (hl : H D0 = some (.lst xs)) : RH g m h (L2.upd H D0 (.lst ys)) where
  obj := fun i u hi => by
    have q := r.obj i u hi
    have hil : i < h.length := (List.getElem?_eq_some_iff.mp hi).1
    have ne : m i ≠ D0 := fun z => r.npr i hil (by rw [z]; exact hD)
    cases u with
    | lst ds => obtain ⟨vs, h1, h2⟩ := q; exact ⟨vs, by rw [upd_ne ne]; exact h1, h2.upd hD⟩
    | dct kvs => obtain ⟨vs, h1, h2⟩ := q; exact ⟨vs, by rw [upd_ne ne]; exact h1, Paired.mapP h2 fun _ _ z => ⟨z.1, z.2.1, z.2.2.upd hD⟩⟩
    | ins c fs => obtain ⟨C, dx, vs, h1, h2, h3, h4⟩ := q; exact ⟨C, dx, vs, by rw [upd_ne ne]; exact h1, h2, h3, h4.upd hD⟩
    | frz kvs => obtain ⟨od, vs, h1, h0, h2⟩ := q; exact ⟨od, vs, by rw [upd_ne ne]; exact h1, h0, Paired.mapP h2 fun _ _ z => ⟨z.1, z.2.1, z.2.2.upd hD⟩⟩
  inj := r.inj
  tab := tabs_store r.tab hl NT.lst (fun _ z => by cases z)
  prt := fun a z => by
    obtain ⟨u, e, k⟩ := r.prt a z
    by_cases ha : a = D0
    · exact ⟨.lst ys, by rw [ha, upd_same], NT.lst⟩
    · exact ⟨u, by rw [upd_ne ha]; exact e, k⟩
  npr := r.npr
  fz1 := r.fz1
  fz2 := fun a u z => by
    obtain ⟨v, e, k⟩ := r.fz2 a u z
    by_cases ha : a = D0
    · exact ⟨.lst ys, by rw [ha, upd_same], NT.lst⟩
    · exact ⟨v, by rw [upd_ne ha]; exact e, k⟩
  fz3 := r.fz3
end

/-! ### slots of a block -/
def wipeE (en : En) : List Nat → En
  | [] => en
  | v :: vs => (wipeE en vs).set v none
theorem wipeE_length (en : En) : ∀ vs : List Nat, (wipeE en vs).length = en.length
  | [] => rfl
  | v :: vs => by unfold wipeE; rw [List.length_set, wipeE_length en vs]
theorem wipeE_some {en : En} {i : Nat} {x : D} : ∀ {vs : List Nat}, (wipeE en vs)[i]? = some (some x) → en[i]? = some (some x) ∧ i ∉ vs
  | [], h => ⟨h, by simp⟩
  | v :: vs, h => by
    unfold wipeE at h
    by_cases hv : i = v
    · subst hv
      rw [List.getElem?_set] at h
      split at h
      · split at h <;> cases h
      · rename_i z; exact absurd rfl z
    · rw [List.getElem?_set_ne (Ne.symm hv)] at h
      obtain ⟨h1, h2⟩ := wipeE_some h
      exact ⟨h1, by simp [hv, h2]⟩
theorem wipe_in {σ : L2.St} {i : Nat} : ∀ {vs : List Nat}, i ∈ vs → (wipe σ vs)[i]? = if i < σ.length then some none else none
  | [], h => by cases h
  | v :: vs, h => by
    unfold wipe
    by_cases hv : i = v
    · subst hv
      rw [List.getElem?_set, if_pos rfl, wipe_length]
    · rw [List.getElem?_set_ne (Ne.symm hv)]
      exact wipe_in (by simpa [hv] using h)
theorem Rel.wipe {g : G} {m : Mp} {h : IH} {σ : L2.St} {en : En} {H : Hp} (r : Rel g m h σ en H) (vs : List Nat) : Rel g m h (L2.wipe σ vs) (wipeE en vs) H :=
  ⟨r.rh, by rw [wipe_length, wipeE_length, r.len], fun i d hi => by
    obtain ⟨h1, h2⟩ := wipeE_some hi
    obtain ⟨v, q1, q2⟩ := r.env i d h1
    exact ⟨v, by rw [wipe_out h2]; exact q1, q2⟩⟩
/-- the names of a target, one or several -/
inductive Pat where
  | one (i : Nat) | many (is : List Nat)
def Pat.slots : Pat → List Nat
  | .one i => [i]
  | .many is => is
def setsV (σ : L2.St) : List Nat → List V → L2.St
  | i :: is, v :: vs => setsV (σ.set i (some v)) is vs
  | _, _ => σ
def setsE (en : En) : List Nat → List D → En
  | i :: is, v :: vs => setsE (en.set i (some v)) is vs
  | _, _ => en
theorem Rel.sets {g : G} {m : Mp} {h : IH} {H : Hp} : ∀ {σ : L2.St} {en : En} (is : List Nat) {vs : List V} {ds : List D}, Rel g m h σ en H → Rvs g.K m h.length H vs ds → Rel g m h (setsV σ is vs) (setsE en is ds) H
  | _, _, [], _, _, r, _ => r
  | _, _, i :: is, _, _, r, .nil => r
  | _, _, i :: is, _, _, r, .cons a b => Rel.sets is (r.set i a) b
theorem setsV_out {i : Nat} : ∀ {σ : L2.St} (is : List Nat) (vs : List V), i ∉ is → (setsV σ is vs)[i]? = σ[i]?
  | σ, [], vs, _ => by cases vs <;> rfl
  | σ, j :: is, [], _ => rfl
  | σ, j :: is, v :: vs, h => by
    have h' : i ≠ j ∧ i ∉ is := by simpa using h
    show (setsV (σ.set j (some v)) is vs)[i]? = _
    rw [setsV_out is vs h'.2, List.getElem?_set_ne (Ne.symm h'.1)]
theorem setsV_length : ∀ {σ : L2.St} (is : List Nat) (vs : List V), (setsV σ is vs).length = σ.length
  | σ, [], vs => by cases vs <;> rfl
  | σ, j :: is, [] => rfl
  | σ, j :: is, v :: vs => by
    show (setsV (σ.set j (some v)) is vs).length = _
    rw [setsV_length is vs, List.length_set]
theorem wipe_sets {σ : L2.St} {vs : List Nat} (is : List Nat) (ws : List V) (hi : ∀ i ∈ is, i ∈ vs) : wipe (setsV (wipe σ vs) is ws) vs = wipe σ vs := by
  apply List.ext_getElem?
  intro i
  by_cases h : i ∈ vs
  · rw [wipe_in h, wipe_in h, setsV_length, wipe_length]
  · rw [wipe_out h, setsV_out _ _ (fun z => h (hi i z))]
def gNames : List Nat → TGs
  | [] => gNil
  | i :: is => gCons (gName i) (gNames is)
theorem gNames_red : ∀ (is : List Nat) (vs : List V) (σ : L2.St) (H : Hp) (Q : L2.St → Hp → Prop), vs.length = is.length → Q (setsV σ is vs) H → gNames is vs σ H Q
  | [], [], σ, H, Q, _, q => ⟨rfl, q⟩
  | [], _ :: _, _, _, _, h, _ => by simp at h
  | i :: is, [], _, _, _, h, _ => by simp at h
  | i :: is, v :: vs, σ, H, Q, h, q => ⟨v, vs, rfl, gNames_red is vs (σ.set i (some v)) H Q (by simpa using h) q⟩
def Pat.tg (K : PySem.W.Frag) : Pat → TG
  | .one i => gName i
  | .many is => gTup K is.length (gNames is)
def Pat.set (p : Pat) (d : D) (en : En) : Option En := match p with
  | .one i => some (en.set i (some d))
  | .many is => match d with
    | .tup xs => if xs.length = is.length then some (setsE en is xs) else none
    | _ => none
theorem Pat.run {g : G} {m : Mp} {h : IH} {H : Hp} {σ : L2.St} {en en' : En} {v : V} {d : D} {vs : List Nat} {Q : L2.St → Hp → Prop} (p : Pat) (hp : ∀ i ∈ p.slots, i ∈ vs) (r : Rel g m h (wipe σ vs) en H) (rv : Rv g.K m h.length H v d) (e : p.set d en = some en')
    (k : ∀ σ2, Rel g m h σ2 en' H → wipe σ2 vs = wipe σ vs → Q σ2 H) : p.tg g.K v (wipe σ vs) H Q := by
  cases p with
  | one i =>
    cases e
    exact k _ (r.set i rv) (wipe_sets (is := [i]) (ws := [v]) hp)
  | many is =>
    cases d with
    | tup xs =>
      have e : (if xs.length = is.length then some (setsE en is xs) else none) = some en' := e
      split at e
      · rename_i hl
        cases e
        obtain ⟨a, ws, rfl, s, r2⟩ := getT_ok rv (show getT (.tup xs) = some xs from rfl)
        exact ⟨a, ws, rfl, s, by rw [r2.length]; exact hl, gNames_red is ws _ H Q (by rw [r2.length]; exact hl) (k _ (r.sets is r2) (wipe_sets is ws hp))⟩
      · cases e
    | _ => cases e

/-! ### the comprehension -/
/-- lc w p t e vs: from the i-th turn on; ys: the list so far -/
def lcV (w : View) (p : Pat) (t : MT) (e : ME) (vs : List Nat) (en : En) : Nat → Nat → List D → IH → Out (List D)
  | fuel, i, ys, h => match w h with
    | none => .bad
    | some xs => match xs[i]? with
      | none => .ok ys h
      | some x => match fuel with
        | 0 => .bad
        | fuel + 1 => match p.set x (wipeE en vs) with
          | none => .bad
          | some en' => match t en' h with
            | .ok true h1 => (match e en' h1 with
              | .ok y h2 => grd (decide (ys.length < sizeLine)) (lcV w p t e vs en fuel (i + 1) (ys ++ [y]) h2)
              | _ => .bad)
            | .ok false h1 => lcV w p t e vs en fuel (i + 1) ys h1
            | _ => .bad
def lcE (r : Bool) (fi : MV) (p : Pat) (t : MT) (e : ME) (vs : List Nat) : ME := fun en h => (fi en h).bind fun w h1 => match w h1 with
  | some xs => (lcV w p t e vs en xs.length 0 [] h1).bind fun ys h2 => outL r ys h2
  | none => .bad
def yesT : MT := fun _ h => .ok true h
def DTs (X : Cx) (T : List (Addr × Str)) (E : XK) (es : List Expr) (f : MT) : Prop := PTs X es (LT (gX X T) E f)
theorem PTs.imp {X : Cx} {e : List Expr} {t t' : TT} (h : PTs X e t) (q : ∀ σ H Q, t' σ H Q → t σ H Q) : PTs X e t' := ⟨fun pins s σ H Q I w => h.run pins s σ H Q I (q σ H Q w)⟩
theorem dts_nil {X : Cx} {T : List (Addr × Str)} {E : XK} : DTs X T E [] yesT := PTs.imp pts_nil fun σ H Q ⟨m, h, en, rel, p⟩ => p m H _ (Ex.refl _ _ _) rel.rh rfl
theorem dts_one {X : Cx} {T : List (Addr × Str)} {E : XK} {c : Expr} {f : MT} (h : DT X T E c f) : DTs X T E [c] f := pts_one h
theorem Ex.bas {m m' : Mp} {n n' : Nat} {H H' : Hp} {P : Addr → Prop} (e : Ex m n H m' n' H') : Ex (m.bas P) n H (m'.bas P) n' H' := ⟨e.le, ⟨fun _ z => z, fun _ z => .inl z⟩, e.same, e.new, e.keep, e.dom, e.fz⟩
/-- the end: the list is handed on -/
theorem lc_end {g : G} {E : XK} {Q : VK} {r : Bool} {m0 m' : Mp} {n0 : Nat} {H0 H : Hp} {h : IH} {D0 : Addr} {acc : List V} {ys : List D} (ex : Ex m0 n0 H0 (m'.bas m0.P) h.length H) (hP : ∀ a, m0.P a → m'.P a) (rh : RH g m' h H) (hD : H D0 = some (.lst acc)) (hn : H0 D0 = none) (pD : m'.P D0) (np : ¬ m0.P D0)
    (r2 : Rvs g.K m' h.length H acc ys) (p : Post (Rv g.K) g m0 n0 H0 E Q (outL r ys h)) : Q (.ref D0) H := by
  have offI : ∀ i, i < h.length → m' i ≠ D0 := fun i hi z => rh.npr i hi (by rw [z]; exact pD)
  have rh' := rh.bas (P := m0.P) hP
  cases r with
  | false => exact p _ H _ ex rh' (.vl hD ⟨np, offI⟩ (r2.bas hP))
  | true =>
    have hl : (h ++ [O.lst ys]).length = h.length + 1 := by simp
    -- D0 becomes an object of the ideal heap
    have exA : Ex m0 n0 H0 (put (m'.bas m0.P) h.length D0) (h.length + 1) H := by
      refine ⟨Nat.le_succ_of_le ex.le, ⟨fun _ z => z, fun _ z => .inl z⟩, fun i hi => ?_, fun i h1 h2 o ho k => ?_, ex.keep, ex.dom, ex.fz⟩
      · rw [put_ne (Nat.ne_of_lt (Nat.lt_of_lt_of_le hi ex.le))]
        exact ex.same i hi
      · by_cases hi : i = h.length
        · rw [hi, put_same, hn] at ho
          cases ho
        · rw [put_ne hi] at ho
          exact ex.new i h1 (by omega) o ho k
    -- values of the old image stand in the new one
    have up : ∀ {v : V} {d : D}, Rv g.K m' h.length H v d → Rv g.K (put (m'.bas m0.P) h.length D0) (h.length + 1) H v d := by
      have offU : ∀ {a : Addr}, Off m' h.length a → Off (put (m'.bas m0.P) h.length D0) (h.length + 1) a := fun {a} q => ⟨fun z => q.1 (hP a z), fun i hi z => by
        by_cases h1 : i = h.length
        · rw [h1, put_same] at z
          exact q.1 (by rw [← z]; exact pD)
        · rw [put_ne h1] at z
          exact q.2 i (by omega) z⟩
      intro v d q
      exact Rv.rec (motive_1 := fun v d _ => Rv g.K (put (m'.bas m0.P) h.length D0) (h.length + 1) H v d) (motive_2 := fun vs ds _ => Rvs g.K (put (m'.bas m0.P) h.length D0) (h.length + 1) H vs ds)
        .non .bl .int .str (fun h1 h2 => .wd h1 h2)
        (fun h1 _ ih => .tup (h1.elim .inl fun z => .inr ⟨z.1, offU z.2⟩) ih)
        (fun h1 h2 _ ih => .vl h1 (offU h2) ih)
        (fun h1 _ ih => .fl (h1.elim .inl fun z => .inr ⟨z.1, offU z.2⟩) ih)
        (fun {i} hi => by
          have z := Rv.ref (K := g.K) (m := put (m'.bas m0.P) h.length D0) (n := h.length + 1) (H := H) (i := i) (Nat.lt_succ_of_lt hi)
          rw [put_ne (Nat.ne_of_lt hi)] at z
          exact z)
        .nil (fun _ _ a b => .cons a b) q
    have ups : ∀ {vs : List V} {ds : List D}, Rvs g.K m' h.length H vs ds → Rvs g.K (put (m'.bas m0.P) h.length D0) (h.length + 1) H vs ds := by
      intro vs ds q
      induction ds generalizing vs with
      | nil => cases q; exact .nil
      | cons d ds ih =>
        cases q with
        | cons a b => exact .cons (up a) (ih b)
    have rhA : RH g (put (m'.bas m0.P) h.length D0) (h ++ [.lst ys]) H := by
      refine ⟨fun i u hi => ?_, fun i j hi hj e => ?_, rh.tab, fun a z => rh.prt a (hP a z), fun i hi z => ?_, fun i u hi nf => ?_, rh.fz2, fun a z => rh.fz3 a (hP a z)⟩
      · rw [hl]
        by_cases h1 : i < h.length
        · rw [List.getElem?_append_left h1] at hi
          rw [put_ne (Nat.ne_of_lt h1)]
          have q := rh.obj i u hi
          cases u with
          | lst ds => obtain ⟨vs, q1, q2⟩ := q; exact ⟨vs, q1, ups q2⟩
          | dct kvs => obtain ⟨vs, q1, q2⟩ := q; exact ⟨vs, q1, Paired.mapP q2 fun _ _ z => ⟨z.1, z.2.1, up z.2.2⟩⟩
          | ins c fs => obtain ⟨C, dx, vs, q1, q2, q3, q4⟩ := q; exact ⟨C, dx, vs, q1, q2, q3, ups q4⟩
          | frz kvs => obtain ⟨od, vs, q1, q0, q2⟩ := q; exact ⟨od, vs, q1, q0, Paired.mapP q2 fun _ _ z => ⟨z.1, z.2.1, up z.2.2⟩⟩
        · have : i = h.length := by
            have := (List.getElem?_eq_some_iff.mp hi).1
            rw [hl] at this
            omega
          subst this
          simp at hi
          subst hi
          rw [put_same]
          exact ⟨acc, hD, ups r2⟩
      · rw [hl] at hi hj
        by_cases h1 : i = h.length
        · by_cases h2 : j = h.length
          · rw [h1, h2]
          · rw [h1, put_same, put_ne h2] at e
            exact absurd e.symm (offI j (by omega))
        · by_cases h2 : j = h.length
          · rw [h2, put_same, put_ne h1] at e
            exact absurd e (offI i (by omega))
          · rw [put_ne h1, put_ne h2] at e
            exact rh.inj i j (by omega) (by omega) e
      · rw [hl] at hi
        by_cases h1 : i = h.length
        · rw [h1, put_same] at z
          exact np z
        · rw [put_ne h1] at z
          exact rh.npr i (by omega) (hP _ z)
      · show m'.F (put (m'.bas m0.P) h.length D0 i) = none
        by_cases h1 : i < h.length
        · rw [List.getElem?_append_left h1] at hi
          rw [put_ne (Nat.ne_of_lt h1)]
          exact rh.fz1 i u hi nf
        · have : i = h.length := by
            have := (List.getElem?_eq_some_iff.mp hi).1
            rw [hl] at this
            omega
          subst this
          rw [put_same]
          exact rh.fz3 D0 pD
    have p : Post (Rv g.K) g m0 n0 H0 E Q (.ok (.ref h.length) (h ++ [.lst ys])) := p
    have z := Rv.ref (K := g.K) (m := put (m'.bas m0.P) h.length D0) (n := h.length + 1) (H := H) (Nat.lt_succ_self h.length)
    rw [put_same] at z
    exact p _ H _ (by rw [hl]; exact exA) rhA (by rw [hl]; exact z)
theorem redLc {g : G} {E : XK} {σ : L2.St} {H : Hp} {Q : VK} {r : Bool} {fi : MV} {p : Pat} {t : MT} {e : ME} {vs : List Nat} (hp : ∀ i ∈ p.slots, i ∈ vs) (q : LE g E (lcE r fi p t e vs) σ H Q) :
    tLc (LX (ItS g) g E fi) (p.tg g.K) (LT g (fun _ _ _ => False) t) (LE g (fun _ _ _ => False) e) vs σ H Q := by
  obtain ⟨m, h, en, rel, pp⟩ := q
  refine chain rel pp fun m1 h1 H1 J w e1 rel1 its p1 => ?_
  intro D0 hD0
  cases q0 : w h1 with
  | none => rw [q0] at p1; exact p1.elim
  | some xs0 =>
  rw [q0] at p1
  have exS : Ex m1 h1.length H1 (m1.add D0) h1.length (upd H1 D0 (.lst [])) :=
    ⟨Nat.le_refl _, ⟨fun _ z => .inl z, fun a z => z.elim .inl fun y => .inr fun o ho => by rw [y, hD0] at ho; cases ho⟩, fun _ _ => rfl, fun i a b => absurd (Nat.lt_of_lt_of_le b a) (Nat.lt_irrefl _), fun a o ha _ _ => upd_keeps hD0 _ _ ha, fun a o ha k => ⟨o, upd_keeps hD0 _ _ ha, k⟩, fun _ _ z => z⟩
  have np : ¬ m1.P D0 := (rel1.rh.off hD0).1
  refine ⟨fun i μ H' => ∃ m' h' acc ys, Rel g m' h' (wipe σ vs) (wipeE en vs) H' ∧ Ex m1 h1.length H1 m' h'.length H' ∧ m'.P D0 ∧ H' D0 = some (.lst acc) ∧ Rvs g.K m' h'.length H' acc ys ∧ Post (Rv g.K) g m1 h1.length H1 E Q ((lcV w p t e vs en μ i ys h').bind fun ys h2 => outL r ys h2),
    ⟨xs0.length, m1.add D0, h1, [], [], ?_, exS, .inr rfl, upd_same, .nil, p1⟩, fun i μ H' ⟨m', h', acc, ys, rel', ex', pD, hD, racc, p'⟩ => ?_⟩
  · exact (rel1.next exS (rel1.rh.add hD0 NT.lst)).wipe vs
  unfold lcV at p'
  cases q : w h' with
  | none => rw [q] at p'; exact p'.elim
  | some xs =>
    rw [q] at p'
    obtain ⟨its1, its2⟩ := its m' h' H' ex' rel'.rh xs q i
    dsimp only at p'
    cases q2 : xs[i]? with
    | none =>
      rw [q2] at p'
      refine .inl ⟨its2 (List.getElem?_eq_none_iff.mp q2), ?_⟩
      exact lc_end (m0 := m1) (m' := m') ⟨ex'.le, ⟨fun _ z => z, fun _ z => .inl z⟩, ex'.same, ex'.new, ex'.keep, ex'.dom, ex'.fz⟩ ex'.prot.1 rel'.rh hD hD0 pD np racc p'
    | some d =>
      rw [q2] at p'
      obtain ⟨go, yl⟩ := its1 d q2
      dsimp only at p'
      cases μ with
      | zero => exact p'.elim
      | succ μ =>
        dsimp only at p'
        refine .inr ⟨go, fun H2 => ∃ m2 h2 acc ys, Rel g m2 h2 (wipe σ vs) (wipeE en vs) H2 ∧ Ex m1 h1.length H1 m2 h2.length H2 ∧ m2.P D0 ∧ H2 D0 = some (.lst acc) ∧ Rvs g.K m2 h2.length H2 acc ys ∧ Post (Rv g.K) g m1 h1.length H1 E Q ((lcV w p t e vs en μ (i + 1) ys h2).bind fun ys h2 => outL r ys h2),
          fun H2 z => ⟨μ, Nat.lt_succ_self _, z⟩, fun x Hx y => ?_⟩
        obtain ⟨ex2, rh2, rv2⟩ := yl x Hx y
        have rel2 := rel'.next ex2 rh2
        cases q3 : p.set d (wipeE en vs) with
        | none => rw [q3] at p'; exact p'.elim
        | some en3 =>
          rw [q3] at p'
          dsimp only at p'
          have keepD : ∀ {ma : Mp} {ha : IH} {Ha : Hp} {mb : Mp} {hb : IH} {Hb : Hp} {ac : List V}, RH g ma ha Ha → ma.P D0 → Ha D0 = some (.lst ac) → Ex ma ha.length Ha mb hb.length Hb → Hb D0 = some (.lst ac) := fun {ma ha Ha mb hb Hb ac} ra pa hd ex => ex.keep _ _ hd (fun i hi z => ra.npr i hi (by rw [z]; exact pa)) NT.lst
          have hD2 := keepD rel'.rh pD hD ex2
          refine p.run hp rel2 rv2 q3 fun σ3 rel3 ws => ⟨ws, ?_⟩
          refine ⟨m', h', en3, rel3, ?_⟩
          cases q4 : t en3 h' with
          | bad => rw [q4] at p'; exact p'.elim
          | err c h4 => rw [q4] at p'; exact p'.elim
          | ok b h4 =>
            rw [q4] at p'
            intro m4 H4 b' ex4 rh4 eb
            cases (show b' = b from eb)
            have rel4 := rel2.next ex4 rh4
            have rel4s := rel3.next ex4 rh4
            have ex14 := (ex'.trans ex2).trans ex4
            have pD4 := ex4.prot.1 _ (ex2.prot.1 _ pD)
            have hD4 := keepD rh2 (ex2.prot.1 _ pD) hD2 ex4
            cases b with
            | false =>
              rw [if_neg Bool.false_ne_true]
              exact ⟨m4, h4, acc, ys, rel4, ex14, pD4, hD4, (racc.mono ex2).mono ex4, p'⟩
            | true =>
              rw [if_pos rfl]
              dsimp only at p'
              refine ⟨m4, h4, en3, rel4s, ?_⟩
              cases q5 : e en3 h4 with
              | bad => rw [q5] at p'; exact p'.elim
              | err c h5 => rw [q5] at p'; exact p'.elim
              | ok y h5 =>
                rw [q5] at p'
                dsimp only at p'
                intro m5 H5 u ex5 rh5 ru
                by_cases hl : ys.length < sizeLine
                · rw [grd_of _ (decide_eq_true hl)] at p'
                  have racc5 := ((racc.mono ex2).mono ex4).mono ex5
                  have pD5 := ex5.prot.1 _ pD4
                  have hD5 := keepD rh4 pD4 hD4 ex5
                  refine ⟨acc, hD5, by rw [racc5.length]; exact hl, m5, h5, acc ++ [u], ys ++ [y], ?_, ?_, pD5, upd_same, (racc5.append (.cons ru .nil)).upd pD5, p'⟩
                  · have r5 := rel4.next ex5 rh5
                    exact ⟨r5.rh.updP pD5 hD5, r5.len, fun j dj hj => let ⟨v, z1, z2⟩ := r5.env j dj hj; ⟨v, z1, z2.upd pD5⟩⟩
                  · have exA := ex14.trans ex5
                    refine ⟨exA.le, exA.prot, exA.same, exA.new, fun a o ha oi k => ?_, fun a o ha k => ?_, exA.fz⟩
                    · rw [upd_ne (ne_of_none ha hD0)]
                      exact exA.keep a o ha oi k
                    · rw [upd_ne (ne_of_none ha hD0)]
                      exact exA.dom a o ha k
                · rw [decide_eq_false hl] at p'
                  exact p'.elim
section
variable {X : Cx} {T : List (Addr × Str)} {E : XK} {elt tg iter : Expr} {ifs : List Expr} {scope : Scope} {pos : Pos} {fi : MV} {t : MT} {e : ME}
abbrev NoE : XK := fun _ _ _ => False
/-- [elt for tg in iter if ..] -/
theorem de_lc (r : Bool) (p : Pat) (own : List (Str × Nat)) (hc : X.calm = true) (hN : X.N.Nodup) (hi : DI X T E tg iter fi) (ok : BlkOk X.N X.env.scope scope own)
    (hg : ∀ (s : Shared) (H : Hp) (C : Addr) (cl : List (Str × Addr)) (fp : List Addr), PG (X.blk s H scope (compEnvC scope cl C X.env) fp) tg (p.tg X.K))
    (ht : ∀ (s : Shared) (H : Hp) (C : Addr) (cl : List (Str × Addr)) (fp : List Addr), DTs (X.blk s H scope (compEnvC scope cl C X.env) fp) T NoE ifs t)
    (he : ∀ (s : Shared) (H : Hp) (C : Addr) (cl : List (Str × Addr)) (fp : List Addr), DE (X.blk s H scope (compEnvC scope cl C X.env) fp) T NoE elt e)
    (hp : ∀ i ∈ p.slots, i ∈ own.map (·.2) := by decide) (hs : ∀ x, foldedSetIterable iter X.env x = pure x := by intro _; rfl) : DE X T E (.ListComp elt [⟨tg, iter, ifs, 0⟩] scope pos) (lcE r fi p t e (own.map (·.2))) :=
  PE.imp (pe_lc (tt := LT (gX X T) NoE t) (te := LE (gX X T) NoE e) hc hN hi ok hg ht he hs) fun _ _ _ q => redLc hp q
/-- x = [..], x a local -/
theorem ds_setLc (i : Nat) (r : Bool) (p : Pat) (own : List (Str × Nat)) {y : Str} {py spos : Pos} (hc : X.calm = true) (hN : X.N.Nodup) (hi : DI X T E tg iter fi) (ok : BlkOk X.N X.env.scope scope own)
    (hg : ∀ (s : Shared) (H : Hp) (C : Addr) (cl : List (Str × Addr)) (fp : List Addr), PG (X.blk s H scope (compEnvC scope cl C X.env) fp) tg (p.tg X.K))
    (ht : ∀ (s : Shared) (H : Hp) (C : Addr) (cl : List (Str × Addr)) (fp : List Addr), DTs (X.blk s H scope (compEnvC scope cl C X.env) fp) T NoE ifs t)
    (he : ∀ (s : Shared) (H : Hp) (C : Addr) (cl : List (Str × Addr)) (fp : List Addr), DE (X.blk s H scope (compEnvC scope cl C X.env) fp) T NoE elt e)
    (hsw : swapsWith (.ListComp elt [⟨tg, iter, ifs, 0⟩] scope pos) (some (.Name y py)) spos.line X.env = pure true := by exact sw_true rfl rfl rfl (by decide +kernel))
    (hy : X.N[i]? = some y := by rfl) (hyl : X.env.scope.names.lookup y = some .local := by rfl) (hp : ∀ i ∈ p.slots, i ∈ own.map (·.2) := by decide) (hs : ∀ x, foldedSetIterable iter X.env x = pure x := by intro _; rfl) :
    DS X T E (.Assign [.Name y py] (.ListComp elt [⟨tg, iter, ifs, 0⟩] scope pos) spos) (asgS (lcE r fi p t e (own.map (·.2))) (nameG i)) :=
  PS.imp (ps_setLc (tt := LT (gX X T) NoE t) (te := LE (gX X T) NoE e) hc hN hy hyl hsw hi ok hg ht he hs) fun D σ H ⟨m, h, en, rel, pp⟩ => by
    have q : LE (gX X T) E (lcE r fi p t e (own.map (·.2))) σ H (fun x H1 => gName i x σ H1 D.nx) := chainS rel pp fun m1 h1 H1 v d e1 rel1 rv1 p1 => p1 m1 H1 _ (Ex.refl _ _ _) (rel1.set i rv1)
    exact redLc hp q
end
end DL

set_option Elab.async false
set_option linter.all false
set_option maxRecDepth 100000
set_option autoImplicit false
set_option maxHeartbeats 1000000
/-! While an error is handled: lists walked, summed, a comprehension. -/
namespace DL
open PySem PySem.Spec PyProof.Rows L2 HotX L2H

section
variable {prog : Program} {w : World} {A : Around} {E : Value → Shared → Prop} {s : Shared}
/-- the end of a list's walk -/
theorem end_hot {it l x1 : Addr} {i : Nat} {items : Array Value} {Q : Option Value → Shared → Prop} (hot : HotAt A x1 s.heap) (ne : x1 ≠ it) (hit : s.heap.IsListIter it l i) (hl : s.heap.IsList l items) (hx : items[i]? = none)
    (hQ : ∀ h', Heap.ExtBut it s.heap h' → Q none { s with heap := h' }) : wpAny (model prog w) A (pyNext (.ref it)) Q E s := by
  obtain ⟨o, ho, hc, hd⟩ := id hit
  obtain ⟨ol, hol, _, nl, hdl⟩ := hl
  obtain ⟨hh, o1, vs1, h1, d1, c1⟩ := hot
  unfold pyNext
  refine wpAny_bind (wpAny_attempt (wpAny_callSpecial?_slot (name := Str.ofString "__next__") hit.typeIs slot_listiter_next (wpAny_call_entry slot_listiter_next hit.typeIs entry_listiter_next ?_ (args_listiter_next _))))
  show wpAny _ _ (field (.ref it) 0 >>= _) _ _ s
  refine wpAny_bind (wpAny_field ho hd (x := .ref l) rfl ?_)
  show wpAny _ _ (if (Value.ref l == Value.none) = true then _ else _) _ _ s
  rw [if_neg (show ¬ ((Value.ref l == Value.none) = true) from Bool.false_ne_true)]
  show wpAny _ _ (field (.ref it) 1 >>= _) _ _ s
  refine wpAny_bind (wpAny_field ho hd (x := .int i 0) rfl ?_)
  show wpAny _ _ (seqItems? (.ref l) >>= _) _ _ s
  refine wpAny_bind (wpAny_seqItems hol hdl ?_)
  simp only [Int.toNat_natCast, hx]
  refine wpAny_bind (wpAny_rule (wpAny_bind (wpAny_setField ho hd (by simp) ?_)))
  show wpAny _ _ (newExc (.type "StopIteration") [] >>= _) _ _ _
  refine wpAny_bind ?_
  simp only [newExc, newTuple]
  refine wpAny_bind (wpAny_newObj_type ?_ (by size_fits))
  refine wpAny_bind (m := firstArgMember _ _) (wpAny_of_eq (a := Value.none) (by first | rfl | (simp only [firstArgMember]; rfl)) ?_)
  refine wpAny_newObj_type ?_ (by size_fits)
  have g1 : (s.heap.update it (Obj.mapFields (·.setIfInBounds 0 Value.none))).get? x1 = some o1 := (Heap.get?_update_other _ _ (Ne.symm ne)).trans h1
  refine raiseNew_hot (x1 := x1) ⟨hh, o1, vs1, Heap.get?_push_of_some _ (Heap.get?_push_of_some _ g1), d1, c1⟩ (Nat.ne_of_lt (Heap.lt_size (Heap.get?_push_of_some _ g1))) (Heap.get?_push_size _ rfl) rfl (by first | (simp; done) | (simp; omega) | (simp only [Array.size_append]; simp; omega)) ?_
  refine wpAny_bind (wpAny_isInstance (T := "StopIteration") (b := true) ⟨_, Heap.get?_update_self _ (Heap.get?_push_size _ rfl) rfl, rfl⟩ isSubtype_stop ?_)
  refine wpAny_pure (hQ _ fun b u nb e => ?_)
  have g2 : (s.heap.update it (Obj.mapFields (·.setIfInBounds 0 Value.none))).get? b = some u := (Heap.get?_update_other _ _ (Ne.symm nb)).trans e
  rw [Heap.get?_update_other _ _ (Nat.ne_of_gt (Heap.lt_size (Heap.get?_push_of_some _ g2)))]
  exact Heap.get?_push_of_some _ (Heap.get?_push_of_some _ g2)
/-- a list walked -/
theorem walks_hot {I ax x1 : Addr} (hne : ax ≠ I) (hx : x1 ≠ I) (items : Array Value) :
    Walks prog w A I [I, ax, x1] [I] items.size (fun i v => items[i]? = some v) (fun i h => h.IsListIter I ax i ∧ h.IsList ax items ∧ HotAt A x1 h) where
  sub := fun b hb => by simp at hb; simp [hb]
  frame := fun _ h h' st hk => ⟨st.1.at fun o e => hk I (by simp) o e, st.2.1.at fun o e => hk ax (by simp) o e, let ⟨a, o, vs, b, c, d⟩ := st.2.2; ⟨a, o, vs, hk x1 (by simp) o b, c, d⟩⟩
  item := fun i s Q E hi st hQ => by
    refine wpAny_pyNext_list_item st.1 st.2.1 (x := items[i]) (by simp [hi]) fun h' hit' hs' => ?_
    obtain ⟨a, o, vs, b, c, d⟩ := st.2.2
    exact hQ _ h' s.toks (by simp [hi]) ⟨hit', st.2.1.extBut hs'.extBut hne, a, o, vs, hs'.extBut x1 o hx b, c, d⟩ fun b o hb e => hs'.extBut b o (fun h => hb (by simp [h])) e
  done := fun s Q E st hQ => end_hot st.2.2 hx st.1 st.2.1 (by simp) fun h' he' => hQ h' s.toks fun b o hb e => he' b o (fun h => hb (by simp [h])) e
  self := fun _ _ _ _ st hQ => wpAny_pyIter_listiter st.1 hQ
/-- sum of a list of ints -/
theorem sum_hot {l x1 : Addr} {its : List Value} {ns : List Int} {Q : Value → Shared → Prop} (hot : HotAt A x1 s.heap) (hl : s.heap.IsList l its.toArray) (hi : IntsAre its ns)
    (h : ∀ h' tk t', (∀ b o, s.heap.get? b = some o → h'.get? b = some o) → Q (.int ns.sum t') { s with heap := h', toks := tk }) : wpAny (model prog w) A (call (.builtin "sum") [.ref l]) Q E s := by
  obtain ⟨xs, e⟩ := hi.allInts.items
  have hn : numsOf (intItems xs).toList = ns := by rw [← e]; exact hi.numsOf
  rw [nums_intItems] at hn
  rw [e] at hl
  obtain ⟨hh, o1, vs1, h1, d1, c1⟩ := hot
  have lt1 : x1 < s.heap.objs.size := Heap.lt_size h1
  refine call_sum_walkG (iter_intList hl fun s2 e2 st hfp hlI => ?_)
  subst e2
  refine ⟨_, _, _, _, _, _, numAt xs, rfl, walks_hot (A := A.in1) (x1 := x1) hlI (Nat.ne_of_lt lt1) (intItems xs), ⟨st.1, st.2, hh, o1, vs1, Heap.get?_push_of_some _ h1, d1, c1⟩, fun b hb => ?_, (fun _ _ => intItems_at), fun h' tk t' hk => ?_⟩
  · rcases List.mem_cons.mp hb with z | z
    · exact hfp b (by rw [z]; exact List.mem_cons_self)
    · rcases List.mem_cons.mp z with z | z
      · exact hfp b (by rw [z]; exact List.mem_cons_of_mem _ List.mem_cons_self)
      · have z : b = x1 := by simpa using z
        rw [z]
        show x1 < (s.heap.push _).objs.size
        rw [Heap.size_push]
        exact Nat.lt_succ_of_lt lt1
  · have q := h h' tk t' (old_kept hk)
    have e3 : (intItems xs).size = xs.size := by simp [intItems]
    rw [e3, preSum_eq, List.take_of_length_le (by simp), hn]
    exact q
end
section
variable {X : Cx} {T : List (Addr × Str)}
theorem cr_sumH (hc : HotC X) : CallR X (.builtin "sum") (rSum X.K) := by
  intro pins s σ H vs us Q I r h
  obtain ⟨a, ns, rfl, hq, q⟩ := h
  have eu := r.ref1
  subst eu
  obtain ⟨its, rv, pl, hz⟩ := I.list hq
  obtain ⟨x1, hot⟩ := hc.at I
  refine sum_hot hot pl.isList rv.ints fun h' tk t' hk => ?_
  exact ⟨.int ns.sum, H, I.kept (t' := tk) hk, ⟨t', rfl⟩, q⟩
/-- a new object is tracked, wherever it was laid -/
theorem inv_new {pins : List (Addr × Obj)} {σ : L2.St} {H : Hp} {s : Shared} {h' : Heap} {D : Addr} {o : HO} {t' : Nat} (I : Inv X pins σ H s) (k : ∀ b u, s.heap.get? b = some u → h'.get? b = some u) (hD : s.heap.get? D = none) (hH : H D = none)
    (new : ObjOk X.prog X.w (upd H D o) h' D o) : Inv X pins σ (upd H D o) { s with heap := h', toks := t' } := by
  have nD : ∀ b u, s.heap.get? b = some u → b ≠ D := fun b u e z => by rw [z, hD] at e; cases e
  refine I.un ⟨fun b u q _ _ _ => k b u q, fun b u q _ _ _ => ⟨u.slots, k b u q⟩, fun b u q n _ => by rw [upd_ne (nD b u q)]; exact n, fun b u q _ => ⟨u, k b u q⟩, fun b xs q => upd_keeps hH _ _ q, fun b ob u q => upd_keeps hH _ _ q, fun b ps q => ⟨#[], by rw [upd_keeps hH _ _ q]; simp⟩⟩ fun b u e => ?_
  by_cases hb : b = D
  · subst hb
    rw [upd_same] at e
    cases e
    exact new
  · rw [upd_ne hb] at e
    exact (I.hok b u e).stay (fun c v _ q => k c v q) (fun c q => upd_keeps hH _ _ q) fun c xs q => upd_keeps hH _ _ q
theorem ints_vals : ∀ {bs : List Bool} {zs : List Value}, Paired (fun v y => ∃ b t, v = Value.bool b ∧ y = Value.int (if b then 1 else 0) t) (bs.map Value.bool) zs → Vals (bs.map fun b => V.int (if b then 1 else 0)) zs
  | [], _, h => by cases h; exact .nil
  | b :: bs, _, h => by
    cases h with
    | cons a r =>
      obtain ⟨b', t, e1, e2⟩ := a
      cases e1
      exact .cons ⟨t, e2⟩ (ints_vals r)
/-- [int(x) for x in y], y a list of truths -/
def tInts (K : PySem.W.Frag) (ti : TE) : TE := fun σ H Q => ti σ H fun v H1 => ∃ (a : Addr) (bs : List Bool), v = .ref a ∧ SqL K H1 a (bs.map V.bl) ∧ ∀ p, H1 p = none → Q (.ref p) (upd H1 p (.lst (bs.map fun b => V.int (if b then 1 else 0))))
theorem pe_intsH {x : Str} {px p1 p2 p3 pos : Pos} {iter : Expr} {ti : TE} {scope : Scope} (hc : HotC X) (hi : PE X iter ti) (hmi : X.mg "int" = none)
    (hk : scope.kind = .function) (hn : ∀ y ∈ scope.names, y.2 ≠ .cell ∧ y.2 ≠ .free) (hx : scope.names.lookup x = some .local) (hg : scope.names.lookup ("int" : Str) = some .globalImplicit) (hnm : ∀ y ∈ scope.names, y.2 = .local → scope.names.lookup y.1 = some .local)
    (hd : (x == ("__debug__" : Str)) = false) (hs : ∀ z, foldedSetIterable iter X.env z = pure z := by intro _; rfl) :
    PE X (.ListComp (.Call (.Name "int" p1) [.Name x p2] [] p3) [⟨.Name x px, iter, [], 0⟩] scope pos) (tInts X.K ti) := by
  refine ⟨fun pins s σ H Q I h => ?_⟩
  have hcl : closureFor scope X.env = pure [] := by
    have z := closure_ok (scope := scope) (env := X.env) fun y hy e => absurd e (hn y hy).2
    rw [z]
    congr 1
    cases q : cloFrom X.env.cells scope.names [] with
    | nil => rfl
    | cons p r =>
      have hm : (p.1, p.2) ∈ cloFrom X.env.cells scope.names [] := by rw [q]; exact List.mem_cons_self
      rcases cloFrom_mem hm with z | z
      · cases z
      · exact absurd rfl (hn _ z.1).2
  refine wpAny_ListComp_free (fun _ => true) (fun v y => ∃ b t, v = Value.bool b ∧ y = Value.int (if b then 1 else 0) t) hcl (fun y hy => (hn y hy).1) hk hnm hx (thn (hi.run pins s σ H _ I h) fun v s1 hh => ?_) hs
  obtain ⟨x0, H1, I1, r1, a, bs, rfl, hq, q⟩ := hh
  cases r1
  obtain ⟨its, rv, pl, hz⟩ := I1.list hq
  obtain ⟨x1, hot⟩ := hc.at I1
  have lt1 : x1 < s1.heap.objs.size := by obtain ⟨_, o, vs, e, _⟩ := hot; exact Heap.lt_size e
  refine wpAny_pyIter_list pl.isList ?_
  have hlt : a < s1.heap.objs.size := pl.lt
  have eb := rv.bls
  refine ⟨_, _, _, _, _, _, rfl, walks_hot (x1 := x1) (Nat.ne_of_lt hlt) (Nat.ne_of_lt lt1) its.toArray, ?_, ⟨⟨_, Heap.get?_push_size _ rfl, rfl, rfl⟩, pl.isList.push _, ?_⟩, fun b hb => ?_, ⟨?_, ?_⟩, ?_⟩
  · rw [List.size_toArray, ← rv.length]
    exact hz
  · obtain ⟨hh, o, vs, e, d, c⟩ := hot
    exact ⟨hh, o, vs, Heap.get?_push_of_some _ e, d, c⟩
  · show b < (s1.heap.push _).objs.size
    rw [Heap.size_push]
    have hb : b = s1.heap.objs.size ∨ b = a ∨ b = x1 := by simpa using hb
    rcases hb with z | z | z
    · rw [z]; exact Nat.lt_succ_self _
    · rw [z]; exact Nat.lt_succ_of_lt hlt
    · rw [z]; exact Nat.lt_succ_of_lt lt1
  · intro C i v s3 m3 E' _ hP hn3 hm3 hk3 ht
    exact wpAny_tests_nil ⟨rfl, ⟨s3.heap, s3.toks, rfl, fun _ _ e => e⟩⟩
  · intro C i v s3 m3 E' hC hP _ hn3 hm3 hk3 ht
    have hv : ∃ b, v = Value.bool b := by
      have z : its[i]? = some v := by simpa using hP
      rw [eb, List.getElem?_map] at z
      obtain ⟨b, _, e⟩ := Option.map_eq_some_iff.mp z
      exact ⟨b, e.symm⟩
    obtain ⟨b, rfl⟩ := hv
    have base3 : ∀ c o, X.base.get? c = some o → s3.heap.get? c = some o := fun c o e => by
      refine hk3 c o ?_ (Heap.get?_push_of_some _ (I1.bk c o e))
      have z := Heap.lt_size (I1.bk c o e)
      intro y
      have y : c = s1.heap.objs.size := by simpa using y
      rw [y] at z
      exact absurd z (Nat.lt_irrefl _)
    obtain ⟨mb, b1, b2⟩ := I1.mod.blt
    have kI : (compEnvC scope [] C X.env).kindOf "int" = some .globalImplicit := lookup_relS_keep (sc := X.env.scope) (by decide) hg
    have kX : (compEnvC scope [] C X.env).kindOf x = some .local := lookup_relabel_local hx
    refine Call_ (Calls.Name_function_global (show (compEnvC scope [] C X.env).scope.kind = .function from hk) kI (Calls.loadGlobal_builtin (v := Value.type "int") (by show s3.heap.Ns X.env.globals X.mg; rw [I1.ok.glob]; exact I1.mod.glob.keeps base3) hmi (by show s3.heap.Ns X.env.builtins mb; rw [I1.ok.blt]; exact b1.keeps base3) ((b2 "int" (by decide)).trans PyProof.Rows.boot_int) ?_) (by decide))
    refine PyProof.Rows.callWith_type1 ?_ (by rfl) (by rfl)
    refine Calls.spliced_cons (wpAny_Name (wpAny_loadName_local (show (compEnvC scope [] C X.env).scope.kind = .function from hk) kX hn3 hm3 (Calls.spliced_nil ?_)) hd)
    refine call_int_bool ?_
    exact ⟨⟨b, _, rfl, rfl⟩, ⟨s3.heap, _, rfl, fun _ _ e => e⟩⟩
  · intro D h' tk ys vs hD hl hpl hlen hP hF hkp
    have e1 : vs = its := by
      apply List.ext_getElem?
      intro j
      by_cases hj : j < vs.length
      · have z := hP j vs[j] (List.getElem?_eq_getElem hj)
        rw [List.getElem?_eq_getElem hj]
        exact (show its[j]? = some vs[j] by simpa using z).symm
      · rw [List.getElem?_eq_none (by omega), List.getElem?_eq_none]
        rw [hlen, List.size_toArray] at hj
        omega
    subst e1
    rw [List.filter_eq_self.mpr (fun _ _ => rfl)] at hF
    rw [eb] at hF
    have vv := ints_vals hF
    have hD1 : s1.heap.get? D = none := by
      cases z : s1.heap.get? D with
      | none => rfl
      | some u =>
        have y := Heap.get?_push_of_some { cls := .type "list_iterator", data := .fields #[.ref a, .int 0 0] } z
        rw [hD] at y
        cases y
    have hHD := I1.hok.gone hD1
    have kk : ∀ b o, s1.heap.get? b = some o → h'.get? b = some o := fun b o e => hkp b o (fun z => by
      have z : b = s1.heap.objs.size := by simpa using z
      have y := Heap.lt_size e
      rw [z] at y
      exact absurd y (Nat.lt_irrefl _)) (Heap.get?_push_of_some _ e)
    obtain ⟨n, hpl⟩ := hpl
    have new : ObjOk X.prog X.w (upd H1 D (.lst (bs.map fun b => V.int (if b then 1 else 0)))) h' D (.lst (bs.map fun b => V.int (if b then 1 else 0))) :=
      ⟨by rw [List.length_map] at hz ⊢; exact hz, ys.toList, n, vv, by simpa using hpl⟩
    exact ⟨.ref D, _, inv_new (s := s1) (t' := tk) I1 kk hD1 hHD new, rfl, q D hHD⟩
end
end DL

set_option Elab.async false
set_option linter.all false
set_option maxRecDepth 100000
set_option autoImplicit false
set_option maxHeartbeats 1000000
/-! A lambda handed to the law's own helper that calls it and tells the class of what is raised. -/
namespace DL
open PySem PySem.Spec PyProof.Rows L2 HotX L2H

/-! ### isinstance of the error that is handled -/
section
variable {X : Cx}
theorem call_isX {a D : Addr} {oe : Obj} (hp : (a, oe) ∈ X.pn) (C : ExcC X.K D) (hz : Zc (.ref D) none oe) (hf : ∃ vs, oe.data = .fields vs) : CallR X (.builtin "isinstance") (rIsE X.K D a) := by
  intro pins s σ H xs us Q I r h
  obtain ⟨c, cv, b, rfl, hcv, e, q⟩ := h
  obtain ⟨u1, u2, rfl, r1, r2⟩ := vals2 r
  cases r1
  have ec := hcv _ r2
  subst ec
  obtain ⟨hget, _⟩ := I.pin (a, oe) (List.mem_append_left _ hp)
  obtain ⟨vs, hv⟩ := hf
  have J : PySem.W.InstAt s.heap a oe D none := by
    obtain ⟨oc, od, oda, osl⟩ := oe
    obtain ⟨h1, h2⟩ := hz
    dsimp only at h1 h2 hv
    subst h1 h2 hv
    exact ⟨hget, rfl, rfl, trivial⟩
  exact PySem.W.kia_one (PySem.W.handS_kitx_exc C.hg C.hk C.hs C.hd C.ha C.hn C.ht C.hm) I.kIn J e (fun z => nomatch z) fun tk => ⟨.bl b, H, I.kept (t' := tk) fun _ _ z => z, rfl, q⟩
end

/-! ### a def of one parameter called in the suite, with the error -/
abbrev cxW (P : Program) (w : World) (K : PySem.W.Frag) (mg : Str → Option Value) (base : Heap) (N : List Str) (qual : Str) (scope : Scope) (f : Addr) (cd : Value) (A : Around) (outer : List Env) (s : Shared) (H : Hp) (p : Addr × Obj) : Cx :=
  (cxH L2.CX0 P w K mg base N qual scope f cd A outer s H E0 p).nox
/-- such a def, as it stands; R: from the error (at a, its class cls), the heap, what is wanted -/
structure HotFn (P : Program) (w : World) (K : PySem.W.Frag) (mg : Str → Option Value) (base : Heap) (x : Str) (k : Nat) (R : Value → Option Addr → Hp → VK → Prop) : Prop where
  ex : ∃ (f : Addr) (par : Arguments) (body : List Stmt) (sc : Scope) (N : List Str) (a : Str) (oc : Value) (od : Option Addr) (dV kV doc pm : Value) (an : Option Addr) (cdv ct : Value) (osl : Array (Option Value)),
    mg x = some (.ref f) ∧ PySem.W.keepIn K (.ref f) = true ∧ K.lookup f = some ⟨oc, od, .func (PySem.W.fnOf x x par body sc dV kV doc pm an cdv ct), osl⟩ ∧ PySem.W.codeIn K cdv x = true ∧ FnScope N [a] sc ∧ Binds K (PySem.W.fnOf x x par body sc dV kV doc pm an cdv ct) [a] [] ∧
    ∀ (A : Around) (outer : List Env) (s : Shared) (H : Hp) (Q : VK) (p : Addr × Obj) (cls : Value) (d : Option Addr), Hot1 A p → RoomH k (A.deeper (envOfC x sc s.heap.objs.size f cdv)) → L2N.Zn cls d p.2 → (∃ vs, p.2.data = .fields vs) → R cls d H Q →
      ∃ t, PSs (cxW P w K mg base N x sc f cdv A outer s H p) body t ∧ t { nx := fun _ H' => Q .non H', rt := Q } (L2.start N [.ref p.1]) H
theorem pe_hot {X : Cx} {a : Addr} {oe : Obj} {pn : List (Addr × Obj)} {cls : Value} {d : Option Addr} {x : Str} {k : Nat} {R : Value → Option Addr → Hp → VK → Prop} {e : Expr} {te : TE} {q pos : Pos} (F : HotFn X.prog X.w X.K X.mg X.base x k R)
    (hr : RoomH (k + 1) X.A) (hz : L2N.Zn cls d oe) (hf : ∃ vs, oe.data = .fields vs) (he : PE (X.suite a ((a, oe) :: pn)) e te) (hg : Gl X x)
    (hdb : (x == ("__debug__" : Str)) = false) (hs : starEach [e] X.env = (false, eval e X.env) :: starEach [] X.env := by rfl) :
    PE (X.suite a ((a, oe) :: pn)) (.Call (.Name x q) [e] [] pos) (fun σ H Q => tCons te tNil σ H fun vs H1 => vs = [.ref a] ∧ R cls d H1 Q) := by
  obtain ⟨f, par, body, sc, N, pa, oc, od, dV, kV, doc, pm, an, cdv, ct, osl, hm, hk, lk, hcd, S, hb, hbody⟩ := F.ex
  refine ⟨fun pins s σ H Q I h => ?_⟩
  refine wpAny_Call_Name_kw (ld_glob (X := X.suite a ((a, oe) :: pn)) I hg hm ?_ hdb)
  have hA : PA (X.suite a ((a, oe) :: pn)) [e] (tCons te tNil) := pa_cons he pa_nil hs
  refine PySem.W.callWith_K (h₀ := X.base) I.ok.mod.kin hk (thn (hA.run pos pins s σ H _ I h) fun us s1 hh => ?_) hs (by rfl)
  obtain ⟨vs, H1, I1, r, rfl, q⟩ := hh
  refine ⟨I1.kIn, ?_⟩
  have hot : Hot1 (X.suite a ((a, oe) :: pn)).A (a, oe) := by
    obtain ⟨vs, hv⟩ := hf
    exact ⟨rfl, vs, hv, hz.2.2 vs hv⟩
  have hrs : RoomH (k + 1) (X.suite a ((a, oe) :: pn)).A := ⟨hr.dp, hr.un⟩
  have P1 := I1.pin (a, oe) (List.mem_append_left _ List.mem_cons_self)
  have hpin : PinOk (X.suite a ((a, oe) :: pn)).stack H1 s1 (a, oe) := ⟨P1.1, P1.2.1, fun hm => (List.mem_cons.mp (I1.stkSub a hm)).elim P1.2.2.1 P1.2.2.2.1, P1.2.2.2.2⟩
  have e0 := I1.env0
  have KX : X.K.In s1.heap := I1.kIn
  have lim : s1.heap.NoLimit := I1.nolimit
  have hl : us.length = 1 := by rw [← r.length]; rfl
  have bt := hb s1 us KX (by rw [List.append_nil]; exact hl)
  rw [List.append_nil] at bt
  have hkind : ∀ y ∈ [pa].zip us, sc.names.lookup y.1 = some .local ∨ (sc.names.lookup y.1 = some .cell ∧ ((cellsFrom (s1.heap.objs.size + 1) sc.names []).lookup y.1).isSome = true) := fun y hy => by
    obtain ⟨n, v⟩ := y
    rcases S.par n (List.of_mem_zip hy).1 with z | z
    · exact .inl z
    · exact .inr ⟨z, PySem.W.cellsFrom_some _ _ _ (.inl z)⟩
  have rc : codeAny (model X.prog X.w) (X.suite a ((a, oe) :: pn)).A (.call (.ref f) ⟨us, []⟩) (CR L2.CX0 X.stack X.prog X.w H1 s1 Q E0) s1 := by
    refine codeAny_call_function hrs.depth (KX _ _ lk) rfl S.co S.gen rfl (PySem.W.codeRec_of KX hcd) (bt _ _ _ _ ?_)
    refine wpAny_newFunctionEnv_cells S.kind hkind fun env hen s2 x => ?_
    subst hen
    refine ⟨lim.keeps x.toInCall.keep, codeAny_func ?_⟩
    obtain ⟨t, ht, hq⟩ := hbody _ X.stack s1 H1 Q (a, oe) cls d hot (hrs.deeper _) hz hf q
    have J := inv_startH (CX := L2.CX0) (E := E0) S hpin e0 rfl r x
    refine wpAny_mono (ht.nox.run [] s2 _ H1 _ J hq) (fun fl s' hs => ?_) fun e s' hs => hs
    cases fl with
    | ret u =>
      obtain ⟨v, σ', H', J', rv, q'⟩ := hs
      exact ⟨v, H', J'.os, J'.bare, J'.base, J'.hok, rv, q'⟩
    | next =>
      obtain ⟨σ', H', J', q'⟩ := hs
      exact ⟨V.non, H', J'.os, J'.bare, J'.base, J'.hok, rfl, q'⟩
    | brk => obtain ⟨_, _, _, q'⟩ := hs; exact q'.elim
    | cont => obtain ⟨_, _, _, q'⟩ := hs; exact q'.elim
  refine wpAny_call (codeAny_mono rc fun rr s' hq => ?_)
  cases rr with
  | error e => exact (show False from hq).elim
  | ok fl =>
    cases fl with
    | ret u => exact I1.after hq
    | next => exact (show False from hq).elim
    | brk => exact (show False from hq).elim
    | cont => exact (show False from hq).elim
end DL

set_option Elab.async false
set_option linter.all false
set_option maxRecDepth 100000
set_option autoImplicit false
set_option maxHeartbeats 1000000
/-! Raising an error of the program. -/
namespace DL
open PySem PySem.Spec PyProof.Rows L2 HotX L2H
/-- an error class of the program, as it stands -/
structure ErOk (K : PySem.W.Frag) (mg : Str → Option Value) (c : Nat) : Prop where
  ex : ∃ C, mg (cnm c) = some (.ref C) ∧ PySem.W.excIn K C He.veBase "ValueError.__new__" = true ∧ PySem.W.keepIn K (.ref C) = true ∧ PySem.W.subIn K (.ref C) (.type "BaseException") = some true ∧ PySem.W.typeIn K (.ref C) = some (.type "type")
def raiseS (c : Nat) : MS := fun _ h => .err c h
theorem ds_raise {X : Cx} {T : List (Addr × Str)} {E : XK} (c : Nat) {x m : Str} {j : Nat} {p p2 pos pos2 : Pos} (C : ErOk X.K X.mg c) (hc : X.calm = true) (tk : Tk X E) (hx : x = cnm c := by rfl) (hg : Gl X x := by rfl) (hdb : (x == ("__debug__" : Str)) = false := by decide) :
    DS X T E (.Raise (some (.Call (.Name x p) [.Constant (.str m) j p2] [] pos)) none pos2) (raiseS c) := by
  obtain ⟨C, h1, h2, h3, h4, h5⟩ := C.ex
  subst hx
  refine PS.imp (L2N.ps_raise hc tk (L2N.pmk_own PySem.F.excBase_ValueError h2 h1 h3 (raises_own h4 h5) hg hdb)) fun D σ H ⟨m, h, en, rel, p⟩ => ?_
  exact p m H C (Ex.refl _ _ _) rel.rh h1
end DL

set_option Elab.async false
set_option linter.all false
set_option maxRecDepth 100000
set_option autoImplicit false
set_option maxHeartbeats 1000000
/-! A lambda handed to the helper that calls it and tells the class of what is raised. -/
namespace DL
open PySem PySem.Spec PyProof.Rows L2 HotX L2H
theorem de_wd {X : Cx} {T : List (Addr × Str)} {E : XK} (n : Nat) {x : Str} {j : Nat} {pos : Pos} (hx : x = wds n := by decide +kernel) (hn : n < nW := by decide) : DE X T E (.Constant (.str x) j pos) (cE (.wd n)) :=
  PE.imp pe_str fun _ _ _ ⟨_, _, _, r, p⟩ => Post.val p r.rh (.wd hn hx)
/-! ### the tables have grown -/
theorem Ex.extN {m : Mp} {n : Nat} {H H' : Hp} (e : LamX.ExtN H H') : Ex m n H m n H' :=
  ⟨Nat.le_refl _, ⟨fun _ z => z, fun _ z => .inl z⟩, fun _ _ => rfl, fun i h1 h2 => absurd (Nat.lt_of_lt_of_le h2 h1) (Nat.lt_irrefl _), fun a o h _ k => e a o h k, fun a o h k => ⟨o, e a o h k, k⟩, fun _ _ z => z⟩
theorem RH.extN {g : G} {m : Mp} {h : IH} {H H' : Hp} (r : RH g m h H) (e : LamX.ExtN H H') (t : LamX.Tabs g.T H') : RH g m h H' where
  obj := fun i u hi => by
    have q := r.obj i u hi
    obtain ⟨z, e1, k⟩ := q.is
    exact q.mono (Ex.extN e) (by rw [e _ _ e1 k, e1])
  inj := r.inj
  tab := t
  prt := fun a z => by
    obtain ⟨u, e1, k⟩ := r.prt a z
    exact ⟨u, e _ _ e1 k, k⟩
  npr := r.npr
  fz1 := r.fz1
  fz2 := fun a u z => by
    obtain ⟨v, e1, k⟩ := r.fz2 a u z
    exact ⟨v, e _ _ e1 k, k⟩
  fz3 := r.fz3
/-! ### the lambda's body -/
abbrev lamN (X : Cx) (A : Around) (outer : List Env) (s : Shared) (H : Hp) (E : XK) (sc : Scope) (f c' : Addr) : Cx :=
  (LamX.lamCx X A outer s H E sc f c').wish fun e s' => wpAny (model X.prog X.w) (A.deeper (LamX.lamEnv X sc s.heap.objs.size f c')) (leaving (LamX.lamEnv X sc s.heap.objs.size f c') e) (fun _ s2 => L2N.CX X.prog X.w outer H s E e s2) (fun e' s2 => L2N.CX X.prog X.w outer H s E e' s2) s'
theorem lamN_tk {X : Cx} {A : Around} {outer : List Env} {s : Shared} {H : Hp} {E : XK} {sc : Scope} {f c' : Addr} : Tk (lamN X A outer s H E sc f c') E := L2N.takes_of rfl rfl rfl rfl
/-- what the helper needs of the word's telling -/
def RW (K : PySem.W.Frag) (mg : Str → Option Value) (nE : Nat) (CS : Addr) : Value → Option Addr → Hp → VK → Prop := fun cls d H Q => d = none ∧ ∃ c, c < nE ∧ mg (cnm (11 + c)) = some cls ∧ PySem.W.exmOne K cls (.ref CS) = some true ∧ ∀ H', (∀ b o, H b = some o → H' b = some o) → Q (.str (wds c)) H'
section
variable {X : Cx} {pins : List (Addr × Obj)} {σ : L2.St} {H : Hp} {s : Shared}
/-- the deed is called, in the helper -/
theorem pe_deed {Eg : XK} {Ng : List Str} {qg : Str} {sg : Scope} {g f c' : Addr} {cdg pm ctv : Value} {par : Arguments} {body : Expr} {sc : Scope} {k : Nat} {a : Str} {pn : List (Addr × Obj)} {xe : Value → Shared → Prop} {W : WX} {t : XK → TE} {p1 p2 : Pos}
    (I : Inv X pins σ H s) (L : LamX.LamS X.env.scope sc) (hf : s.heap.get? f = some (PySem.W.kla_obj "<lambda>" (X.env.qual ++ "<lambda>") par body sc (cloFrom X.env.cells sc.names []) pm c' ctv)) (nf : H f = none) (ns : f ∉ frs X.stack)
    (hbi : bindArgs (PySem.W.kla_fn "<lambda>" (X.env.qual ++ "<lambda>") par body sc (cloFrom X.env.cells sc.names []) pm (.ref c') ctv) ⟨[], []⟩ = pure [])
    (tk : L2N.Takes ((cxOf L2.CX0 X.prog X.w X.K X.mg X.base Ng qg sg g cdg X.A X.stack s H Eg).tr pn xe) W) (hr : Room (k + 1) (X.A.deeper (envOfC qg sg s.heap.objs.size g cdg)))
    (hbody : ∀ (A : Around) (outer : List Env) (s : Shared) (H : Hp) (E : XK), Room k (A.deeper (LamX.lamEnv X sc s.heap.objs.size f c')) → PE (lamN X A outer s H E sc f c') body (t E))
    (hN : Ng[0]? = some a) (hv : Vis sg a) (d1 : (a == ("__debug__" : Str)) = false) (d2 : (a == ("__classdict__" : Str)) = false) :
    PE ((cxOf L2.CX0 X.prog X.w X.K X.mg X.base Ng qg sg g cdg X.A X.stack s H Eg).tr pn xe) (.Call (.Name a p1) [] [] p2)
      (fun τ HZ Q => τ[0]? = some (some (.ref f)) ∧ HZ c' = some (LamX.CodeO c' (X.env.qual ++ "<lambda>")) ∧ ∃ E : XK, (∀ cls d H', E cls d H' → W cls d τ H') ∧ t E σ HZ Q) := by
  refine ⟨fun pinsZ sZ τ HZ Q J h => ?_⟩
  obtain ⟨h1, h2, E, hW, h3⟩ := h
  refine wpAny_Call_Name_kw (thn ((pe_var (pos := p1) (i := 0) hN hv d1 d2).run pinsZ sZ τ HZ (fun v H1 => v = .ref f ∧ H1 = HZ) J ⟨.ref f, h1, rfl, rfl⟩) fun u s1 z => ?_)
  obtain ⟨v, H1, J1, r1, ev, eH⟩ := z
  subst ev eH
  have eu : u = Value.ref f := r1
  subst eu
  have of1 : s1.heap.get? f = some (PySem.W.kla_obj "<lambda>" (X.env.qual ++ "<lambda>") par body sc (cloFrom X.env.cells sc.names []) pm c' ctv) :=
    J1.base.keep f _ hf nf ns (fun z => nomatch (show f ∈ ([] : List Addr) from z))
  refine PySem.W.callWith_F0 ⟨_, _, _, _, of1⟩ ?_
  have un : Un (frs X.stack) [] H H1 s.heap s1.heap := J1.base
  obtain ⟨⟨oc, vs, tt, q1, q2, q3⟩, _, _⟩ := J1.hok c' _ h2
  have run : codeAny (model X.prog X.w) (X.A.deeper (envOfC qg sg s.heap.objs.size g cdg)) (.call (.ref f) ⟨[], []⟩) (CR (L2N.CX X.prog X.w) (envOfC qg sg s.heap.objs.size g cdg :: X.stack) X.prog X.w H1 s1 Q E) s1 := by
    refine PySem.W.kla_callFunE hr.depth of1 rfl L.co L.gen rfl ⟨c', oc, vs, tt, rfl, q1, q2, q3⟩ ?_
    rw [hbi]
    refine wpAny_pure (wpAny_newFunctionEnv (fun y hy => (L.own y hy).2) (fun y hy => absurd hy (by simp)) (fun h2 n1 n2 => ⟨J1.nolimit.fresh _ n2, ?_⟩) L.kind)
    show codeAny _ _ (.expr body (LamX.lamEnv X sc s1.heap.objs.size f c')) _ _
    have kp : ∀ b o, s1.heap.get? b = some o → h2.get? b = some o := fun b o e => n2.extBut b o (Nat.ne_of_lt (Heap.lt_size e)) (Heap.get?_push_of_some _ e)
    have Z := LamX.lam_start2 (E := E) (f := f) (c' := c') (tk := s1.toks + ([] : List (Str × Value)).length) I L J1.env0 hr.hd un n1 kp
    refine PySem.W.kla_codeExpr (wpAny_mono ((hbody _ _ s1 H1 E (hr.deeper _)).run [] _ _ H1 Q (Z.wish _) h3) (fun v s' hq => ?_) fun e s' hq => hq)
    obtain ⟨w', H', J', rv, q⟩ := hq
    exact ⟨w', H', J'.os, J'.bare, J'.base, J'.hok, rv, q⟩
  refine wpAny_call (codeAny_mono run fun r s' hq => ?_)
  cases r with
  | error e => exact tk e s' (L2N.XE.of_call J1 hW hq)
  | ok fl =>
    cases fl with
    | ret u => exact J1.after hq
    | next => exact (show False from hq).elim
    | brk => exact (show False from hq).elim
    | cont => exact (show False from hq).elim
end
/-- the helper as it stands: try: return deed() / except x as e: return word(e) -/
structure ToldOk (P : Program) (w : World) (K : PySem.W.Frag) (mg : Str → Option Value) (base : Heap) (nE : Nat) : Prop where
  ex : ∃ (g CS : Addr) (pg : Arguments) (bg : List Stmt) (sg : Scope) (oc : Value) (od : Option Addr) (dV kV doc pm : Value) (an : Option Addr) (cdv ct : Value) (osl : Array (Option Value)) (p1 p2 p3 p4 p5 p6 p7 p8 p9 p10 : Pos),
    mg "_law_told" = some (.ref g) ∧ PySem.W.keepIn K (.ref g) = true ∧ K.lookup g = some ⟨oc, od, .func (PySem.W.fnOf "_law_told" "_law_told" pg bg sg dV kV doc pm an cdv ct), osl⟩ ∧ PySem.W.codeIn K cdv "_law_told" = true ∧
    Binds K (PySem.W.fnOf "_law_told" "_law_told" pg bg sg dV kV doc pm an cdv ct) ["deed"] [] ∧ FnScope ["deed", "e"] ["deed"] sg ∧ sg.names.lookup ("BoardError" : Str) = some .globalImplicit ∧ sg.names.lookup ("_law_word" : Str) = some .globalImplicit ∧ sg.names.lookup ("e" : Str) = some .local ∧ Vis sg "deed" ∧ mg "BoardError" = some (.ref CS) ∧
    bg = [.Try [.Return (some (.Call (.Name "deed" p1) [] [] p2)) p3] [.ExceptHandler (some (.Name "BoardError" p4)) (some "e") [.Return (some (.Call (.Name "_law_word" p5) [.Name "e" p6] [] p7)) p8] p9] [] [] p10] ∧
    (∀ c, c < nE → ∃ C, mg (cnm (11 + c)) = some (.ref C) ∧ PySem.W.exmOne K (.ref C) (.ref CS) = some true) ∧ HotFn P w K mg base "_law_word" 0 (RW K mg nE CS)
theorem takesN0 {X : Cx} : L2N.Takes X (fun _ _ _ _ => False) := fun _ _ ⟨_, _, _, _, _, _, _, _, _, _, _, _, _, _, _, _, z⟩ => z.elim
def toldE (nE : Nat) (f : ME) : ME := fun en h => match f en h with
  | .ok d h' => .ok d h'
  | .err c h' => if 11 ≤ c ∧ c < 11 + nE then .ok (.wd (c - 11)) h' else .bad
  | .bad => .bad
/-- told(lambda: body) -/
theorem de_told {X : Cx} {T : List (Addr × Str)} {E : XK} {nE : Nat} {c P : Addr} {k : Nat} {par : Arguments} {body : Expr} {sc : Scope} {fb : ME} {p lpos pos : Pos} (G : ToldOk X.prog X.w X.K X.mg X.base nE) (TB : LamX.TabB X.base X.mg c P) (hcode : X.env.code = .ref c)
    (hmT : (P, X.env.qual ++ "<lambda>") ∈ T) (hu : ∀ p ∈ T, p.1 = P → p.2 = X.env.qual ++ "<lambda>") (hr : Room (k + 3) X.A) (L : LamX.LamS X.env.scope sc)
    (hbody : ∀ (A : Around) (outer : List Env) (s : Shared) (H : Hp) (E : XK) (f c' : Addr), Room (k + 1) (A.deeper (LamX.lamEnv X sc s.heap.objs.size f c')) → DE (lamN X A outer s H E sc f c') T E body fb)
    (hg : Gl X "_law_told" := by rfl) (hnE : nE ≤ 11 := by decide) (hdef : defaultsOf par X.env = ([], []) := by rfl)
    (hbi : ∀ (q : Str) (cl : List (Str × Addr)) (pm cv ctv : Value), bindArgs (PySem.W.kla_fn "<lambda>" q par body sc cl pm cv ctv) ⟨[], []⟩ = pure [] := by intros; rfl) :
    DE X T E (.Call (.Name "_law_told" p) [.Lambda par body sc lpos] [] pos) (toldE nE fb) := by
  obtain ⟨g, CS, pg, bg, sg, oc, od, dV, kV, doc, pm, an, cdv, ct, osl, p1, p2, p3, p4, p5, p6, p7, p8, p9, p10, hm, hk, lk, hcg, hb, Sg, sB, sW, sE, sD, mB, rfl, hcls, HW⟩ := G.ex
  refine ⟨fun pins s σ H Q I hh => ?_⟩
  obtain ⟨m, h, en, rel, post⟩ := hh
  refine wpAny_Call_Name_kw (ld_glob I hg hm ?_ (by decide))
  refine PySem.W.callWith_K (h₀ := X.base) I.ok.mod.kin hk ?_ (by rfl) (by rfl)
  show wpAny _ _ (spliced ((false, eval (.Lambda par body sc lpos) X.env) :: backTo pos (starEach [] X.env))) _ _ s
  refine Calls.spliced_cons (LamX.lam_make2 I TB hcode hmT hu rel.rh.tab hdef (L.has I.ok) fun f c' pm' ctv H1 s' I1 eN T1 hf nf ns hco => ?_)
  refine Calls.spliced_nil ⟨I1.kIn, ?_⟩
  have rh1 := rel.rh.extN eN T1
  have rel1 : Rel (gX X T) m h σ en H1 := rel.next (Ex.extN eN) rh1
  have run : codeAny (model X.prog X.w) X.A (.call (.ref g) ⟨[.ref f], []⟩) (CR L2.CX0 X.stack X.prog X.w H1 s' Q E0) s' := by
    refine LamX.run_ofS (N := ["deed", "e"]) (ps := ["deed"]) (us := [.ref f]) (vs := [.ref f]) lk hcg Sg hr I1.env0 (hb s' [.ref f] I1.kIn rfl) (.cons rfl .nil) rfl fun hr' => ?_
    have gB : Gl (cxOf L2.CX0 X.prog X.w X.K X.mg X.base ["deed", "e"] "_law_told" sg g cdv X.A X.stack s' H1 E0).nox "BoardError" := sB
    refine ⟨_, PSs.nox (pss_one (L2N.ps_try_as (X := (cxOf L2.CX0 X.prog X.w X.K X.mg X.base ["deed", "e"] "_law_told" sg g cdv X.A X.stack s' H1 E0).nox) (i := 1) (c := .ref CS) (Wout := fun _ _ _ _ => False)
      (tb := fun W D τ HZ => τ[0]? = some (some (.ref f)) ∧ HZ c' = some (LamX.CodeO c' (X.env.qual ++ "<lambda>")) ∧ ∃ E : XK, (∀ cls d H', E cls d H' → W cls d τ H') ∧ LE (gX X T) E fb σ HZ D.rt)
      (ts := fun a cls d => tRet fun τ H Q => tCons (tVar 1) tNil τ H fun vs H1 => vs = [.ref a] ∧ RW X.K X.mg nE CS cls d H1 Q)
      rfl rfl Sg.nd rfl sE ⟨gB, by decide, .inl mB⟩ takesN0 (fun W pn xe tk _ => ?_) (fun a oe cls d pn hz hf => ?_))), ?_⟩
    · have hp := pe_deed (t := fun E => LE (gX X T) E fb) (Eg := E0) (cdg := cdv) (p1 := p1) (p2 := p2) (k := k + 1) I1 L hf nf ns (hbi _ _ _ _ _) tk hr' (fun A outer s H E hr2 => hbody A outer s H E f c' hr2) rfl sD (by decide) (by decide)
      have hq := pss_one (ps_ret (pos := p3) hp)
      exact ⟨fun pins s σ H D I h => hq.run pins s σ H D I h⟩
    · have hrw : RoomH (0 + 1) (cxOf L2.CX0 X.prog X.w X.K X.mg X.base ["deed", "e"] "_law_told" sg g cdv X.A X.stack s' H1 E0).nox.A := (roomH_of hr').mono (by omega)
      have gW : Gl (cxOf L2.CX0 X.prog X.w X.K X.mg X.base ["deed", "e"] "_law_told" sg g cdv X.A X.stack s' H1 E0).nox "_law_word" := sW
      exact pss_one (ps_ret (pe_hot HW hrw hz hf (pe_var (i := 1) rfl (.inl sE)) gW (by decide)))
    · refine ⟨rfl, hco, fun cls d H' => RW X.K X.mg nE CS cls d H' Q, fun cls d H' hR => ?_, m, h, en, rel1, ?_⟩
      · obtain ⟨hd, c, hc, e1, e2, e3⟩ := hR
        exact ⟨true, e2, fun _ a ha => ⟨_, rfl, rfl, hd, c, hc, e1, e2, e3⟩, fun z => by cases z⟩
      · unfold toldE at post
        cases q : fb en h with
        | ok d h' =>
          rw [q] at post
          exact fun m' H' v a b z => post m' H' v ((Ex.extN eN).trans a) b z
        | bad =>
          rw [q] at post
          exact post
        | err c h' =>
          rw [q] at post
          dsimp only at post
          split at post
          · rename_i hc
            intro m' H' C a b z
            obtain ⟨C2, y1, y2⟩ := hcls (c - 11) (by omega)
            have ec : 11 + (c - 11) = c := by omega
            rw [ec] at y1
            have e3 := z.symm.trans y1
            cases e3
            refine ⟨rfl, c - 11, by omega, by rw [ec]; exact z, y2, fun H'' hx => ?_⟩
            have eN2 : LamX.ExtN H' H'' := LamX.ExtN.of hx
            exact post m' H'' _ (((Ex.extN eN).trans a).trans (Ex.extN eN2)) (b.extN eN2 (b.tab.ext hx)) (.wd (by show c - 11 < 60; omega) rfl)
          · exact post.elim
  refine wpAny_call (codeAny_mono run fun r s2 hq => ?_)
  cases r with
  | error e => exact (show False from hq).elim
  | ok fl =>
    cases fl with
    | ret u => exact I1.after hq
    | next => exact (show False from hq).elim
    | brk => exact (show False from hq).elim
    | cont => exact (show False from hq).elim
end DL

set_option Elab.async false
set_option linter.all false
set_option maxRecDepth 100000
set_option autoImplicit false
set_option maxHeartbeats 1000000
/-! The word of an error's class. -/
namespace DL
open PySem PySem.Spec PyProof.Rows L2 HotX L2H
/-- isinstance of the error: a flag -/
def tFl (a : Addr) (b : Bool) : TE := fun σ H Q => σ[0]? = some (some (.ref a)) ∧ Q (.bl b) H
abbrev fj (a : Addr) (c j : Nat) : TE := tFl a (decide (j = c))
abbrev L4 (a : Addr) (c j : Nat) : TA := tCons (fj a c j) (tCons (fj a c (j + 1)) (tCons (fj a c (j + 2)) (tCons (fj a c (j + 3)) tNil)))
abbrev L3 (a : Addr) (c j : Nat) : TA := tCons (fj a c j) (tCons (fj a c (j + 1)) (tCons (fj a c (j + 2)) tNil))
abbrev sw (n : Nat) : TE := tC (.str (wds n))
abbrev W9 : TA := tCons (sw 0) (tCons (sw 1) (tCons (sw 2) (tCons (sw 3) (tCons (sw 4) (tCons (sw 5) (tCons (sw 6) (tCons (sw 7) (tCons (sw 8) tNil))))))))
def tTestW (K : PySem.W.Frag) (a : Addr) : TT := tOr (tTest (tOp rNe (tCB (rSum K) (tCons (tInts K (tVar 1)) tNil)) (tC (.int 1)))) (tNot (tB (tFl a true)))
def tEnd9 (K : PySem.W.Frag) (a : Addr) : TS := tSeq (tIfS (tTestW K a) (tRet (sw 11)) tNext) (tSeq (tAsg (tLst W9) (gName 2)) (tRet (tOp (rIxL K) (tVar 2) (tBM K "list" (rIndex K) (tVar 1) (tCons (tC (.bl true)) tNil)))))
def tEnd11 (K : PySem.W.Frag) (a : Addr) : TS := tSeq (tIfS (tTestW K a) (tRet (sw 11)) tNext) (tSeq (tAsg (tLst W9) (gName 2)) (tRet (tOp (rIxL K) (tOp rCat (tVar 2) (tLst (tCons (sw 9) (tCons (sw 10) tNil)))) (tBM K "list" (rIndex K) (tVar 1) (tCons (tC (.bl true)) tNil)))))
def tWord9 (K : PySem.W.Frag) (a : Addr) (c : Nat) : TS := tSeq (tAsg (tLst (L4 a c 0)) (gName 1)) (tSeq (tAsg (tOp rCat (tVar 1) (tLst (L4 a c 4))) (gName 1)) (tSeq (tDrop (tBM K "list" rAppend (tVar 1) (tCons (fj a c 8) tNil))) (tEnd9 K a)))
def tWord11 (K : PySem.W.Frag) (a : Addr) (c : Nat) : TS := tSeq (tAsg (tLst (L4 a c 0)) (gName 1)) (tSeq (tAsg (tOp rCat (tVar 1) (tLst (L4 a c 4))) (gName 1)) (tSeq (tAsg (tOp rCat (tVar 1) (tLst (L3 a c 8))) (gName 1)) (tEnd11 K a)))
def flg (n c : Nat) : List Bool := (List.range n).map fun j => decide (j = c)
theorem flg_sum : ∀ n, n < 12 → ∀ c, c < n → ((flg n c).map fun b => if b then (1 : Int) else 0).sum = 1 := by decide +kernel
theorem flg_at {n c : Nat} (h : c < n) : (flg n c)[c]? = some true := by
  unfold flg
  rw [List.getElem?_map, List.getElem?_range h]
  simp
theorem flg_lt {n c j : Nat} {z : Bool} (h : j < c) (e : (flg n c)[j]? = some z) : z = false := by
  unfold flg at e
  rw [List.getElem?_map] at e
  obtain ⟨k, h1, rfl⟩ := Option.map_eq_some_iff.mp e
  have h2 := List.getElem?_eq_some_iff.mp h1
  obtain ⟨h3, h4⟩ := h2
  rw [List.getElem_range] at h4
  subst h4
  exact decide_eq_false (by omega)
/-- the test, behind the flags -/
theorem test_w {K : PySem.W.Frag} {a l : Addr} {n c : Nat} {σ : L2.St} {H : Hp} {Q : Bool → Hp → Prop} (hn : n < 12) (hc : c < n) (h0 : σ[0]? = some (some (.ref a))) (h1 : σ[1]? = some (some (.ref l))) (hl : H l = some (.lst ((flg n c).map V.bl)))
    (q : ∀ p, H p = none → Q false (upd H p (.lst (((flg n c).map fun b => V.int (if b then 1 else 0)))))) : tTestW K a σ H Q := by
  refine ⟨_, h1, l, flg n c, rfl, .inl (.inl hl), fun p hp => ?_⟩
  refine ⟨p, (flg n c).map fun b => if b then (1 : Int) else 0, rfl, .inl (.inl ?_), rfl, false, ?_, ?_⟩
  · rw [upd_same, List.map_map]
    rfl
  · rw [flg_sum n hn c hc] <;> rfl
  · exact ⟨h0, true, rfl, q p hp⟩
abbrev ExH (H H' : Hp) : Prop := ∀ b o, H b = some o → H' b = some o
theorem ExH.upd {H : Hp} {p : Addr} {o : HO} (h : H p = none) : ExH H (upd H p o) := upd_keeps h
theorem ExH.trans {H H1 H2 : Hp} (a : ExH H H1) (b : ExH H1 H2) : ExH H H2 := fun c o h => b c o (a c o h)
theorem idx_w {K : PySem.W.Frag} {l : Addr} {n c : Nat} {σ : L2.St} {H : Hp} {Q : VK} (hc : c < n) (h1 : σ[1]? = some (some (.ref l))) (hl : H l = some (.lst ((flg n c).map V.bl))) (q : Q (.int (c : Nat)) H) :
    tBM K "list" (rIndex K) (tVar 1) (tCons (tC (.bl true)) tNil) σ H Q := by
  refine ⟨_, h1, .inl ⟨rfl, _, .inl (.inl hl)⟩, l, (flg n c).map V.bl, .bl true, c, .bl true, rfl, rfl, .inl (.inl hl), rfl, ?_, ?_, rfl, fun j z hj hz => ?_, q⟩
  · rw [List.all_map]
    exact List.all_eq_true.mpr fun _ _ => rfl
  · rw [List.getElem?_map, flg_at hc]
    rfl
  · rw [List.getElem?_map] at hz
    obtain ⟨b, e1, rfl⟩ := Option.map_eq_some_iff.mp hz
    rw [flg_lt hj e1]
    rfl
def w9 : List V := (List.range 9).map fun n => V.str (wds n)
def w11 : List V := (List.range 11).map fun n => V.str (wds n)
theorem w9_at : ∀ c, c < 9 → atI w9 (c : Nat) = some (.str (wds c)) := fun c hc => by
  have e : (c : Nat) < w9.length := by unfold w9; rw [List.length_map, List.length_range]; exact hc
  unfold atI
  rw [show ixN w9.length ((c : Nat) : Int) = some c from by unfold ixN; rw [if_pos (Int.natCast_nonneg c), if_pos (by exact_mod_cast e)]; rfl]
  show w9[c]? = _
  unfold w9
  rw [List.getElem?_map, List.getElem?_range hc] <;> rfl
theorem w11_at : ∀ c, c < 11 → atI w11 (c : Nat) = some (.str (wds c)) := fun c hc => by
  have e : (c : Nat) < w11.length := by unfold w11; rw [List.length_map, List.length_range]; exact hc
  unfold atI
  rw [show ixN w11.length ((c : Nat) : Int) = some c from by unfold ixN; rw [if_pos (Int.natCast_nonneg c), if_pos (by exact_mod_cast e)]; rfl]
  show w11[c]? = _
  unfold w11
  rw [List.getElem?_map, List.getElem?_range hc] <;> rfl
theorem seq_set {te : TE} {i : Nat} {u : TS} {D : Ends} {σ : L2.St} {H : Hp} (h : te σ H fun x H1 => u D (σ.set i (some x)) H1) : tSeq (tAsg te (gName i)) u D σ H := h
theorem seq_drop {te : TE} {u : TS} {D : Ends} {σ : L2.St} {H : Hp} (h : te σ H fun _ H1 => u D σ H1) : tSeq (tDrop te) u D σ H := h
theorem sz16 {n : Nat} (h : n ≤ 16) : n ≤ sizeLine := by rw [sizeLine_eq]; omega
theorem end9 {K : PySem.W.Frag} {a l : Addr} {c : Nat} {σ : L2.St} {H : Hp} {D : Ends} (hc : c < 9) (hz : σ.length = 3) (h0 : σ[0]? = some (some (.ref a))) (h1 : σ[1]? = some (some (.ref l))) (hl : H l = some (.lst ((flg 9 c).map V.bl)))
    (q : ∀ H', ExH H H' → D.rt (.str (wds c)) H') : tEnd9 K a D σ H := by
  refine test_w (n := 9) (c := c) (by decide) hc h0 h1 hl fun p hp => ?_
  show (tSeq (tAsg (tLst W9) (gName 2)) (tRet (tOp (rIxL K) (tVar 2) (tBM K "list" (rIndex K) (tVar 1) (tCons (tC (.bl true)) tNil))))) D σ _
  refine seq_set ⟨sz16 (by simp), fun r hr => ?_⟩
  have eH : ExH H (upd (upd H p (.lst ((flg 9 c).map fun b => V.int (if b then 1 else 0)))) r (.lst w9)) := (ExH.upd hp).trans (ExH.upd hr)
  refine ⟨.ref r, by rw [List.getElem?_set_self (by omega)], ?_⟩
  refine idx_w (n := 9) hc (by rw [List.getElem?_set_ne (by decide)]; exact h1) (eH _ _ hl) ?_
  exact ⟨r, w9, _, _, rfl, rfl, .inl (.inl upd_same), w9_at c hc, q _ eH⟩
theorem end11 {K : PySem.W.Frag} {a l : Addr} {c : Nat} {σ : L2.St} {H : Hp} {D : Ends} (hc : c < 11) (hz : σ.length = 3) (h0 : σ[0]? = some (some (.ref a))) (h1 : σ[1]? = some (some (.ref l))) (hl : H l = some (.lst ((flg 11 c).map V.bl)))
    (q : ∀ H', ExH H H' → D.rt (.str (wds c)) H') : tEnd11 K a D σ H := by
  refine test_w (n := 11) (c := c) (by decide) hc h0 h1 hl fun p hp => ?_
  show (tSeq (tAsg (tLst W9) (gName 2)) (tRet (tOp (rIxL K) (tOp rCat (tVar 2) (tLst (tCons (sw 9) (tCons (sw 10) tNil)))) (tBM K "list" (rIndex K) (tVar 1) (tCons (tC (.bl true)) tNil))))) D σ _
  refine seq_set ⟨sz16 (by simp), fun r hr => ?_⟩
  have eH : ExH H (upd (upd H p (.lst ((flg 11 c).map fun b => V.int (if b then 1 else 0)))) r (.lst w9)) := (ExH.upd hp).trans (ExH.upd hr)
  refine ⟨.ref r, by rw [List.getElem?_set_self (by omega)], sz16 (by simp), fun r2 hr2 => ?_⟩
  refine ⟨r, r2, w9, _, rfl, rfl, upd_keeps hr2 _ _ upd_same, upd_same, sz16 (by unfold w9; simp), fun r3 hr3 => ?_⟩
  have eH3 := eH.trans ((ExH.upd hr2).trans (ExH.upd (o := .lst (w9 ++ [V.str (wds 9), V.str (wds 10)])) hr3))
  refine idx_w (n := 11) hc (by rw [List.getElem?_set_ne (by decide)]; exact h1) (eH3 _ _ hl) ?_
  exact ⟨r3, w11, _, _, rfl, rfl, .inl (.inl upd_same), w11_at c hc, q _ eH3⟩
theorem word9 {K : PySem.W.Frag} {a : Addr} {c : Nat} {H : Hp} {D : Ends} (hc : c < 9) (q : ∀ H', ExH H H' → D.rt (.str (wds c)) H') : tWord9 K a c D [some (.ref a), none, none] H := by
  refine seq_set ⟨rfl, rfl, rfl, rfl, sz16 (by simp), fun p1 h1 => ?_⟩
  refine seq_set ⟨_, rfl, rfl, rfl, rfl, rfl, sz16 (by simp), fun p2 h2 => ?_⟩
  refine ⟨p1, p2, _, _, rfl, rfl, upd_keeps h2 _ _ upd_same, upd_same, sz16 (by simp), fun p3 h3 => ?_⟩
  refine seq_drop ⟨_, rfl, .inl ⟨rfl, _, .inl (.inl upd_same)⟩, rfl, p3, _, _, rfl, rfl, upd_same, sz16 (by simp), ?_⟩
  have n3 : H p3 = none := by
    cases e : H p3 with
    | none => rfl
    | some o =>
      rw [((ExH.upd h1).trans (ExH.upd h2)) _ _ e] at h3
      cases h3
  refine end9 (l := p3) hc rfl rfl rfl (by rw [upd_same]; rfl) fun H' hx => q H' fun b o e => hx b o ?_
  have nb : b ≠ p3 := fun z => by rw [z, n3] at e; cases e
  rw [upd_ne nb, upd_ne nb]
  exact ((ExH.upd h1).trans (ExH.upd h2)) _ _ e
theorem word11 {K : PySem.W.Frag} {a : Addr} {c : Nat} {H : Hp} {D : Ends} (hc : c < 11) (q : ∀ H', ExH H H' → D.rt (.str (wds c)) H') : tWord11 K a c D [some (.ref a), none, none] H := by
  refine seq_set ⟨rfl, rfl, rfl, rfl, sz16 (by simp), fun p1 h1 => ?_⟩
  refine seq_set ⟨_, rfl, rfl, rfl, rfl, rfl, sz16 (by simp), fun p2 h2 => ?_⟩
  refine ⟨p1, p2, _, _, rfl, rfl, upd_keeps h2 _ _ upd_same, upd_same, sz16 (by simp), fun p3 h3 => ?_⟩
  refine seq_set ⟨_, rfl, rfl, rfl, rfl, sz16 (by simp), fun p4 h4 => ?_⟩
  refine ⟨p3, p4, _, _, rfl, rfl, upd_keeps h4 _ _ upd_same, upd_same, sz16 (by simp), fun p5 h5 => ?_⟩
  have eH := (ExH.upd (o := HO.lst [V.bl (decide (0 = c)), V.bl (decide (0 + 1 = c)), V.bl (decide (0 + 2 = c)), V.bl (decide (0 + 3 = c))]) h1).trans ((ExH.upd h2).trans ((ExH.upd h3).trans ((ExH.upd h4).trans (ExH.upd (o := .lst ((flg 11 c).map V.bl)) h5))))
  exact end11 (l := p5) hc rfl rfl rfl upd_same fun H' hx => q H' (eH.trans hx)
/-! ### the error classes as isinstance sees them -/
structure WdF (K : PySem.W.Frag) (mg : Str → Option Value) (nE : Nat) : Prop where
  ex : ∀ c, c < nE → ∃ C, mg (cnm (11 + c)) = some (.ref C) ∧ ExcC K C ∧ PySem.W.kitOne K (.ref C) (.type "ValueError") = some true ∧ ∀ j, j < nE → ∃ C', mg (cnm (11 + j)) = some (.ref C') ∧ PySem.W.kitOne K (.ref C) (.ref C') = some (decide (j = c))
section
variable {X : Cx} {a C : Addr} {oe : Obj} {pos p p2 p3 : Pos}
theorem pe_flag {x : Str} {C' : Addr} {b : Bool} (hp : (a, oe) ∈ X.pn) (F : ExcC X.K C) (hz : Zc (.ref C) none oe) (hf : ∃ vs, oe.data = .fields vs) (hm : X.mg x = some (.ref C')) (hk : PySem.W.kitOne X.K (.ref C) (.ref C') = some b)
    (hmi : X.mg "isinstance" = none) (hN : X.N[0]? = some ("e" : Str) := by rfl) (hv : Vis X.env.scope "e" := by exact Or.inl rfl) (hg : Gl X "isinstance" := by rfl) (hgx : Gl X x := by rfl) (hdb : (x == ("__debug__" : Str)) = false := by decide) :
    PE X (.Call (.Name "isinstance" p) [.Name "e" p2, .Name x p3] [] pos) (tFl a b) :=
  PE.imp (pe_callB (call_isX hp F hz hf) hg hmi boot_isinstance (pa_cons (pe_var (i := 0) hN hv) (pa_cons (pe_glob (v := .ref C') hgx hm rfl hdb) pa_nil))) fun σ H Q ⟨h0, q⟩ =>
    ⟨_, h0, .ref C', .ref C', b, rfl, fun u r => r, hk, q⟩
theorem pe_flagV {x : Str} {b : Bool} (hp : (a, oe) ∈ X.pn) (F : ExcC X.K C) (hz : Zc (.ref C) none oe) (hf : ∃ vs, oe.data = .fields vs) (hm : X.mg x = none) (hv' : bootBuiltins x = some (.type "ValueError")) (hk : PySem.W.kitOne X.K (.ref C) (.type "ValueError") = some b)
    (hmi : X.mg "isinstance" = none) (hN : X.N[0]? = some ("e" : Str) := by rfl) (hv : Vis X.env.scope "e" := by exact Or.inl rfl) (hg : Gl X "isinstance" := by rfl) (hgx : Gl X x := by rfl) (hn : x ≠ "__name__" := by decide) (hdb : (x == ("__debug__" : Str)) = false := by decide) :
    PE X (.Call (.Name "isinstance" p) [.Name "e" p2, .Name x p3] [] pos) (tFl a b) :=
  PE.imp (pe_callB (call_isX hp F hz hf) hg hmi boot_isinstance (pa_cons (pe_var (i := 0) hN hv) (pa_cons (pe_bltn (v := .ty "ValueError") hgx hm hv' rfl hn hdb) pa_nil))) fun σ H Q ⟨h0, q⟩ =>
    ⟨_, h0, .ty "ValueError", .type "ValueError", b, rfl, fun u r => r, hk, q⟩
end
end DL

set_option Elab.async false
set_option linter.all false
set_option maxRecDepth 100000
set_option autoImplicit false
set_option maxHeartbeats 1000000
/-! list(x), tuple(x). -/
namespace DL
open PySem PySem.Spec PyProof.Rows L2
section
variable {X : Cx} {T : List (Addr × Str)} {E : XK} {a b c e o : Expr} {es rest : List Expr} {pos : Pos} {f k l : ME}
def listD (r : Bool) (x : D) (h : IH) : Out D := match getS h x with
  | some xs => outL r xs h
  | none => .bad
theorem de_list (r : Bool) {t : MA} {p : Pos} (hm : X.mg "list" = none) (ha : DA X T E [e] t) (hg : Gl X "list" := by rfl) (he : starEach (e :: []) X.env = (false, eval e X.env) :: starEach [] X.env := by rfl) : DE X T E (.Call (.Name "list" p) [e] [] pos) (callB (one (listD r)) t) :=
  de_callTy call_list_of (one_ok fun m h H v d E Q rh rv p => by
    unfold listD at p
    cases q : getS h d with
    | none => rw [q] at p; exact p.elim
    | some xs =>
      rw [q] at p
      obtain ⟨a, vs, rfl, s, r2⟩ := getS_ok rh rv q
      exact ⟨a, vs, rfl, s, fun q hq => Post.outL p rh r2 hq⟩) hm (by decide +kernel) ha hg (by decide) (by decide) he
def tupleD (x : D) (h : IH) : Out D := match getL h x with
  | some xs => .ok (.tup xs) h
  | none => .bad
theorem de_tuple {t : MA} {p : Pos} (hm : X.mg "tuple" = none) (ha : DA X T E [e] t) (hg : Gl X "tuple" := by rfl) (he : starEach (e :: []) X.env = (false, eval e X.env) :: starEach [] X.env := by rfl) : DE X T E (.Call (.Name "tuple" p) [e] [] pos) (callB (one tupleD) t) :=
  de_callTy call_tuple_of (one_ok fun m h H v d E Q rh rv p => by
    unfold tupleD at p
    cases q : getL h d with
    | none => rw [q] at p; exact p.elim
    | some xs =>
      rw [q] at p
      obtain ⟨a, vs, rfl, s, r2⟩ := getL_ok rh rv q
      exact ⟨a, vs, rfl, .inl ⟨s, fun l hl => p m _ _ (Ex.fresh hl NT.tup) (rh.fresh hl NT.tup) (.tup (.inr ⟨.inl upd_same, rh.off hl⟩) (r2.mono (Ex.fresh hl NT.tup)))⟩⟩) hm (by decide +kernel) ha hg (by decide) (by decide) he
end
end DL

set_option Elab.async false
set_option linter.all false
set_option maxRecDepth 100000
set_option autoImplicit false
set_option maxHeartbeats 1000000
/-! What the printed texts lean on: defs by name, the helper, the law's end. -/
namespace DL
open PySem PySem.Spec PyProof.Rows L2 HotX L2H
/-! ### fuel of loops -/
def flen (i : Nat) : En → IH → Nat := fun en h => match en[i]? with
  | some (some d) => (match getL h d with
    | some xs => xs.length + 1
    | none => 0)
  | _ => 0
def fint (i : Nat) : En → IH → Nat := fun en _ => match en[i]? with
  | some (some (.int k)) => k.toNat + 1
  | _ => 0
/-! ### defs of the module -/
def DefF (K : PySem.W.Frag) (mg : Str → Option Value) (x : Str) (st : Stmt) : Prop := ∃ f fd, FunD K x x (defArgs st) (defBody st) (defScope st) [] [] f fd ∧ mg x = some (.ref f)
/-- the def's table of lambdas -/
def LamF (base : Heap) (mg : Str → Option Value) (T : List (Addr × Str)) (cd : Value) (q : Str) : Prop := ∃ c P, cd = .ref c ∧ LamX.TabB base mg c P ∧ (P, q) ∈ T ∧ ∀ p ∈ T, p.1 = P → p.2 = q
def DefL (K : PySem.W.Frag) (mg : Str → Option Value) (base : Heap) (T : List (Addr × Str)) (x : Str) (st : Stmt) : Prop := ∃ f fd, FunD K x x (defArgs st) (defBody st) (defScope st) [] [] f fd ∧ mg x = some (.ref f) ∧ LamF base mg T fd.code (x ++ ".<locals>." ++ "<lambda>")
def CalF (P : Program) (w : World) (K : PySem.W.Frag) (mg : Str → Option Value) (base : Heap) (T : List (Addr × Str)) (x : Str) (k n : Nat) (F : List D → IH → Out D) : Prop :=
  ∃ f fd ps, ps.length = n ∧ mg x = some (.ref f) ∧ PySem.W.keepIn K (.ref f) = true ∧ Binds K fd ps [] ∧ FnOk P w K mg base (L2N.CX P w) k f fd ps (SpOf ⟨K, mg, T⟩ n F)
theorem GloIs.tup {K : PySem.W.Frag} {mg : Str → Option Value} {x : Str} {dv : List He.Dv} {ds : List D} (hm : mg x = some (.ref (He.ga K x))) (h : He.tupB K x dv = true) (hr : ∀ m n H, Rvs K m n H (dv.map (He.Dv.v K)) ds) : GloIs K mg x (.tup ds) := by
  refine ⟨.ref (He.ga K x), _, hm, rfl, fun m n H => .tup (.inl ?_) (hr m n H)⟩
  rcases He.tupB_ok h (fun _ => none) with (q | ⟨o, q⟩) | q
  · cases q
  · cases q
  · exact q
theorem GloIs.str {K : PySem.W.Frag} {mg : Str → Option Value} {x : Str} {n : Nat} (h : ∃ t, mg x = some (.str (wds n) t)) (hn : n < nW) : GloIs K mg x (.wd n) := by
  obtain ⟨t, h⟩ := h
  exact ⟨.str (wds n), _, h, ⟨t, rfl⟩, fun _ _ _ => .wd hn rfl⟩
/-! ### the word's def, the helper -/
section
variable {P : Program} {w : World} {K : PySem.W.Frag} {mg : Str → Option Value} {base : Heap}
theorem hot_word {nE : Nat} {CS : Addr} {st : Stmt} {t : Addr → Nat → TS} (F : DefF K mg "_law_word" st) (S : FnScope ["e", "flags", "words"] ["e"] (defScope st)) (W : WdF K mg nE)
    (bi : ∀ {f fd}, FunD K "_law_word" "_law_word" (defArgs st) (defBody st) (defScope st) [] [] f fd → Binds K fd ["e"] [])
    (pure : ∀ (a : Addr) (c : Nat) (D : Ends) (H : Hp), c < nE → (∀ H', ExH H H' → D.rt (.str (wds c)) H') → t a c D [some (.ref a), none, none] H)
    (body : ∀ (f : Addr) (cdv : Value) (A : Around) (outer : List Env) (s : Shared) (H : Hp) (p : Addr × Obj) (C : Addr) (c : Nat), HotC (cxW P w K mg base ["e", "flags", "words"] "_law_word" (defScope st) f cdv A outer s H p) → p ∈ (cxW P w K mg base ["e", "flags", "words"] "_law_word" (defScope st) f cdv A outer s H p).pn →
      ExcC K C → Zc (.ref C) none p.2 → (∃ vs, p.2.data = .fields vs) → PySem.W.kitOne K (.ref C) (.type "ValueError") = some true → (∀ j, j < nE → ∃ C', mg (cnm (11 + j)) = some (.ref C') ∧ PySem.W.kitOne K (.ref C) (.ref C') = some (decide (j = c))) →
      PSs (cxW P w K mg base ["e", "flags", "words"] "_law_word" (defScope st) f cdv A outer s H p) (defBody st) (t p.1 c)) : HotFn P w K mg base "_law_word" 0 (RW K mg nE CS) := by
  obtain ⟨f, fd, F, gF⟩ := F
  have b := bi F
  have kp := F.kp
  obtain ⟨oc, od, dV, kV, doc, pm, an, cdv, ct, osl, rfl, lk, hcd, _⟩ := F.ex
  refine ⟨f, _, _, _, ["e", "flags", "words"], "e", oc, od, dV, kV, doc, pm, an, cdv, ct, osl, gF, kp, lk, hcd, S, b, fun A outer s H Q p cls d hot hr hz hf hR => ?_⟩
  obtain ⟨rfl, c, hc, e1, _, q⟩ := hR
  obtain ⟨C, g1, g2, g3, g4⟩ := W.ex c hc
  have ec := e1.symm.trans g1
  cases ec
  have hp : p ∈ (cxW P w K mg base ["e", "flags", "words"] "_law_word" (defScope st) f cdv A outer s H p).pn := List.mem_cons_self
  exact ⟨t p.1 c, body f cdv A outer s H p C c ⟨p, ⟨hot.1, hot.2⟩, hp⟩ hp g2 hz.zc hf g3 g4, pure p.1 c _ H hc q⟩
theorem told_of {nE : Nat} {st : Stmt} {CS : Addr} {p1 p2 p3 p4 p5 p6 p7 p8 p9 p10 : Pos} (F : DefF K mg "_law_told" st) (S : FnScope ["deed", "e"] ["deed"] (defScope st))
    (bi : ∀ {f fd}, FunD K "_law_told" "_law_told" (defArgs st) (defBody st) (defScope st) [] [] f fd → Binds K fd ["deed"] []) (s1 : (defScope st).names.lookup ("BoardError" : Str) = some .globalImplicit) (s2 : (defScope st).names.lookup ("_law_word" : Str) = some .globalImplicit)
    (s3 : (defScope st).names.lookup ("e" : Str) = some .local) (s4 : (defScope st).names.lookup ("deed" : Str) = some .local) (mB : mg "BoardError" = some (.ref CS))
    (eb : defBody st = [.Try [.Return (some (.Call (.Name "deed" p1) [] [] p2)) p3] [.ExceptHandler (some (.Name "BoardError" p4)) (some "e") [.Return (some (.Call (.Name "_law_word" p5) [.Name "e" p6] [] p7)) p8] p9] [] [] p10])
    (hx : ∀ c, c < nE → ∃ C, mg (cnm (11 + c)) = some (.ref C) ∧ PySem.W.exmOne K (.ref C) (.ref CS) = some true) (hw : HotFn P w K mg base "_law_word" 0 (RW K mg nE CS)) : ToldOk P w K mg base nE := by
  obtain ⟨g, fd, F, gF⟩ := F
  have b := bi F
  have kp := F.kp
  obtain ⟨oc, od, dV, kV, doc, pm, an, cdv, ct, osl, rfl, lk, hcd, _⟩ := F.ex
  exact ⟨g, CS, _, _, _, oc, od, dV, kV, doc, pm, an, cdv, ct, osl, p1, p2, p3, p4, p5, p6, p7, p8, p9, p10, gF, kp, lk, hcd, b, S, s1, s2, s3, .inl s4, mB, eb, hx, hw⟩
end
/-! ### the facts of the head -/
def excB (K : PySem.W.Frag) (D : Addr) : Bool :=
  He.eqO (PySem.W.findIn K (.ref D) "__getattribute__") (some (some (.builtin "BaseException.__getattribute__"))) && (He.eqO (PySem.W.findIn K (.ref D) "__getattr__") (some none) && (decide (PySem.W.subIn K (.ref D) (.type "BaseException") = some true) && (PySem.W.hasDictIn K D &&
  (He.eqO (PySem.W.findIn K (.ref D) "__class__") (some (some (.builtin "object.__class__"))) && (He.eqO (PySem.W.specialIn K (.builtin "object.__class__") "__get__") (some (some (.builtin "getset_descriptor.__get__"))) &&
  (decide (PySem.W.takesIn K (.builtin "object.__class__") = some true) && decide (PySem.W.mroIn K D (.type "object") = some true)))))))
theorem excB_ok {K : PySem.W.Frag} {D : Addr} (h : excB K D = true) : ExcC K D := by
  obtain ⟨h1, h⟩ := He.ba h
  obtain ⟨h2, h⟩ := He.ba h
  obtain ⟨h3, h⟩ := He.ba h
  obtain ⟨h4, h⟩ := He.ba h
  obtain ⟨h5, h⟩ := He.ba h
  obtain ⟨h6, h⟩ := He.ba h
  obtain ⟨h7, h8⟩ := He.ba h
  exact ⟨He.eqO_ok h1, He.eqO_ok h2, of_decide_eq_true h3, h4, He.eqO_ok h5, He.eqO_ok h6, of_decide_eq_true h7, of_decide_eq_true h8⟩
/-- the error classes: what isinstance, what an except clause says of them -/
def wdB (nE : Nat) (K : PySem.W.Frag) : Bool := (List.range nE).all fun c => excB K (He.ga K (cnm (11 + c))) && (decide (PySem.W.kitOne K (.ref (He.ga K (cnm (11 + c)))) (.type "ValueError") = some true) &&
  (decide (PySem.W.exmOne K (.ref (He.ga K (cnm (11 + c)))) (.ref (He.ga K "BoardError")) = some true) && (List.range nE).all fun j => decide (PySem.W.kitOne K (.ref (He.ga K (cnm (11 + c)))) (.ref (He.ga K (cnm (11 + j)))) = some (decide (j = c)))))
theorem wdB_ok {nE : Nat} {K : PySem.W.Frag} {mg : Str → Option Value} (h : wdB nE K = true) (g : ∀ c, c < nE → mg (cnm (11 + c)) = some (.ref (He.ga K (cnm (11 + c))))) :
    WdF K mg nE ∧ ∀ c, c < nE → ∃ C, mg (cnm (11 + c)) = some (.ref C) ∧ PySem.W.exmOne K (.ref C) (.ref (He.ga K "BoardError")) = some true := by
  have key := fun c (hc : c < nE) => He.ba (List.all_eq_true.mp h c (List.mem_range.mpr hc))
  refine ⟨⟨fun c hc => ?_⟩, fun c hc => ?_⟩
  · obtain ⟨h1, h2⟩ := key c hc
    obtain ⟨h3, h4⟩ := He.ba h2
    obtain ⟨h5, h6⟩ := He.ba h4
    exact ⟨_, g c hc, excB_ok h1, of_decide_eq_true h3, fun j hj => ⟨_, g j hj, of_decide_eq_true (List.all_eq_true.mp h6 j (List.mem_range.mpr hj))⟩⟩
  · obtain ⟨h1, h2⟩ := key c hc
    obtain ⟨h3, h4⟩ := He.ba h2
    obtain ⟨h5, h6⟩ := He.ba h4
    exact ⟨_, g c hc, of_decide_eq_true h5⟩
theorem er_ok {K : PySem.W.Frag} {mg : Str → Option Value} {c : Nat} {x : Str} (g : mg x = some (.ref (He.ga K x))) (e : (He.Fa.exc x).ok K = true) (hx : x = cnm c := by rfl) : ErOk K mg c := by
  subst hx
  obtain ⟨h1, h2, h3, h4⟩ := He.exc_ok e
  exact ⟨_, g, h1, h2, h3, h4⟩
/-! ### the law's end -/
def tabL (K : PySem.W.Frag) (tf : List (He.Defn × Str)) : List (Addr × Str) := tf.map fun p => ((He.cT K p.1).2, p.2)
def tabND (K : PySem.W.Frag) (tf : List (He.Defn × Str)) : Bool := decide ((tf.map fun p => (He.cT K p.1).2).Nodup)
theorem tab_uniq {K : PySem.W.Frag} : ∀ {tf : List (He.Defn × Str)} {p : He.Defn × Str}, (tf.map fun p => (He.cT K p.1).2).Nodup → p ∈ tf → ∀ q ∈ tabL K tf, q.1 = (He.cT K p.1).2 → q.2 = p.2
  | [], p, _, hp, _, _, _ => by cases hp
  | a :: tf, p, nd, hp, q, hq, e => by
    have nd' := List.nodup_cons.mp nd
    rcases List.mem_cons.mp hp with z | z
    · rcases List.mem_cons.mp hq with y | y
      · rw [y, z]
      · exfalso
        obtain ⟨u, h1, h2⟩ := List.mem_map.mp y
        rw [← h2] at e
        exact nd'.1 (List.mem_map.mpr ⟨u, h1, by rw [← z]; exact e⟩)
    · rcases List.mem_cons.mp hq with y | y
      · exfalso
        rw [y] at e
        exact nd'.1 (List.mem_map.mpr ⟨p, z, e.symm⟩)
      · exact tab_uniq nd'.2 z q y e
/-- the ideal law says true of every script -/
def LawTrue (F : List D → IH → Out D) (n : Nat) : Prop := ∀ ns : List Int, ns.length ≤ n → (∀ z ∈ ns, Builtin.Int.intBits z ≤ 1048576) → ∃ h, F [.fl (ns.map .int)] [] = .ok (.bl true) h
theorem law_sp {K : PySem.W.Frag} {mg : Str → Option Value} {T : List (Addr × Str)} {F : List D → IH → Out D} {n : Nat} (L : LawTrue F n) (H : Hp) (a : Addr) (ns : List Int) (h1 : ns.length ≤ n) (h2 : ∀ z ∈ ns, Builtin.Int.intBits z ≤ 1048576) (hT : ∀ p ∈ T, H p.1 = some (.tbl #[])) (hS : SqL K H a (ns.map V.int)) :
    SpOf ⟨K, mg, T⟩ 1 F [.ref a] H (fun v _ => v = .bl true) fun _ _ _ => False := by
  obtain ⟨h, e⟩ := L ns h1 h2
  have off : Off (⟨fun _ => False, fun _ => 0, fun _ => none⟩ : Mp) 0 a := ⟨fun z => z, fun i hi => absurd hi (Nat.not_lt_zero i)⟩
  refine ⟨rfl, ⟨fun _ => False, fun _ => 0, fun _ => none⟩, [], [.fl (ns.map .int)], ⟨fun i o hi => by simp at hi, fun i j hi => absurd hi (Nat.not_lt_zero i), fun p hp => LamX.TabS.nil (hT p hp), fun a z => z.elim, fun i hi => absurd hi (Nat.not_lt_zero i), fun i o hi => by simp at hi, fun a u z => (by cases z), fun a z => z.elim⟩, .cons (.fl ?_ (Rvs.of_ints ns)) .nil, ?_⟩
  · rcases hS with q | q
    · exact .inr ⟨q, off⟩
    · exact .inl q
  · rw [e]
    intro m' H' v _ _ r
    cases r
    rfl
theorem noCX {P : Program} {w : World} (H : Hp) (s : Shared) (e : Value) (s' : Shared) (h : L2N.CX P w [] H s (fun _ _ _ => False) e s') : False := by
  obtain ⟨_, _, _, _, _, _, _, _, _, _, _, _, z⟩ := h
  exact z
end DL

set_option Elab.async false
set_option linter.all false
set_option maxRecDepth 100000
set_option autoImplicit false
set_option maxHeartbeats 1000000
/-! Plain tools: how the functions are reckoned. -/
namespace DL
open L2 PySem PySem.Spec PyProof.Rows
section
variable {en : En} {h : IH} {f k l : ME} {t u : MT} {a : MA} {s r : MS} {d x y : D} {i j : Nat}
@[simp] theorem toS_ok {α : Type} {a : α} {k : α → IH → SO} : (Out.ok a h).toS k = k a h := rfl
@[simp] theorem toS_err {α : Type} {c : Nat} {k : α → IH → SO} : (Out.err c h : Out α).toS k = .err c h := rfl
@[simp] theorem seqS_e : seqS s r en h = (s en h).seq r := rfl
@[simp] theorem asgS_e {g : MG} : asgS f g en h = (f en h).toS fun d h1 => match g d en h1 with | .ok en' h2 => .nx en' h2 | _ => .bad := rfl
@[simp] theorem nameG_e : nameG i d en h = .ok (en.set i (some d)) h := rfl
@[simp] theorem cE_e : cE d en h = .ok d h := rfl
@[simp] theorem op2_e {o : D → D → IH → Out D} : op2 o f k en h = (f en h).bind fun x h1 => (k en h1).bind fun y h2 => o x y h2 := rfl
@[simp] theorem op1_e {o : D → IH → Out D} : op1 o f en h = (f en h).bind o := rfl
@[simp] theorem nilA_e : nilA en h = .ok [] h := rfl
@[simp] theorem consA_e : consA f a en h = (f en h).bind fun x h1 => (a en h1).bind fun xs h2 => .ok (x :: xs) h2 := rfl
@[simp] theorem callB_e {o : List D → IH → Out D} : callB o a en h = (a en h).bind o := rfl
@[simp] theorem one_e {o : D → IH → Out D} : one o [x] h = o x h := rfl
@[simp] theorem ifS_e : ifS t s r en h = (t en h).toS fun b h1 => match b with | true => s en h1 | false => r en h1 := rfl
@[simp] theorem tst_e : tst f en h = (f en h).bind asB := rfl
@[simp] theorem asB_e {b : Bool} : asB (.bl b) h = .ok b h := rfl
@[simp] theorem andT_e : andT t u en h = (t en h).bind fun b h1 => match b with | true => u en h1 | false => .ok false h1 := rfl
@[simp] theorem orT_e : orT t u en h = (t en h).bind fun b h1 => match b with | true => .ok true h1 | false => u en h1 := rfl
@[simp] theorem notT_e : notT t en h = (t en h).bind fun b h1 => .ok (!b) h1 := rfl
@[simp] theorem andE_e : andE f k en h = (f en h).bind fun x h1 => (asB x h1).bind fun b h2 => match b with | true => k en h2 | false => .ok (.bl false) h2 := rfl
@[simp] theorem orE_e : orE f k en h = (f en h).bind fun x h1 => (asB x h1).bind fun b h2 => match b with | true => .ok (.bl true) h2 | false => k en h2 := rfl
@[simp] theorem notD_e {b : Bool} : notD (.bl b) h = .ok (.bl (!b)) h := rfl
@[simp] theorem iteE_e : iteE t f k en h = (t en h).bind fun b h1 => match b with | true => f en h1 | false => k en h1 := rfl
@[simp] theorem retS_e : retS f en h = (f en h).toS fun d h1 => .rt d h1 := rfl
@[simp] theorem exprS_e : exprS f en h = (f en h).toS fun _ h1 => .nx en h1 := rfl
@[simp] theorem passS_e : passS en h = .nx en h := rfl
@[simp] theorem contS_e : contS en h = .ct en h := rfl
@[simp] theorem seq_rt : (SO.rt d h).seq r = .rt d h := rfl
@[simp] theorem seq_ct : (SO.ct en h).seq r = .ct en h := rfl
@[simp] theorem seq_err {c : Nat} : (SO.err c h).seq r = .err c h := rfl
@[simp] theorem raiseS_e {c : Nat} : raiseS c en h = .err c h := rfl
@[simp] theorem isN_e : isN x h = .ok (.bl (isNoneD x)) h := rfl
@[simp] theorem isNN_e : isNN x h = .ok (.bl (!isNoneD x)) h := rfl
@[simp] theorem isNoneD_non : isNoneD .non = true := rfl
@[simp] theorem isNoneD_int {z : Int} : isNoneD (.int z) = false := rfl
@[simp] theorem isNoneD_bl {z : Bool} : isNoneD (.bl z) = false := rfl
@[simp] theorem isNoneD_ref : isNoneD (.ref i) = false := rfl
@[simp] theorem isNoneD_tup {xs : List D} : isNoneD (.tup xs) = false := rfl
@[simp] theorem isNoneD_vl {xs : List D} : isNoneD (.vl xs) = false := rfl
@[simp] theorem isNoneD_wd : isNoneD (.wd i) = false := rfl
@[simp] theorem addI_e {p q : Int} {b : Bool} : addD b (.int p) (.int q) h = .ok (.int (p + q)) h := rfl
@[simp] theorem subI_e {p q : Int} : subD (.int p) (.int q) h = .ok (.int (p - q)) h := rfl
@[simp] theorem ltD_e {p q : Int} : ltD (.int p) (.int q) h = .ok (.bl (decide (p < q))) h := rfl
@[simp] theorem leD_e {p q : Int} : leD (.int p) (.int q) h = .ok (.bl (decide (p ≤ q))) h := rfl
@[simp] theorem gtD_e {p q : Int} : gtD (.int p) (.int q) h = .ok (.bl (decide (q < p))) h := rfl
@[simp] theorem geD_e {p q : Int} : geD (.int p) (.int q) h = .ok (.bl (decide (q ≤ p))) h := rfl
theorem mulI_e {p q : Int} {b : Bool} (e : mulOk p q = true) : mulD b (.int p) (.int q) h = .ok (.int (p * q)) h := by
  show (grd (mulOk p q) (.ok (D.int (p * q)) h)).or _ = _
  rw [e]
  rfl
theorem fdivI_e {p q : Int} (e : 0 < q) (e2 : q.natAbs.log2 < 9000) : fdivD (.int p) (.int q) h = .ok (.int (p / q)) h := by
  show grd (decide (0 < q) && decide (q.natAbs.log2 < 9000)) _ = _
  rw [decide_eq_true e, decide_eq_true e2]
  rfl
theorem modI_e {p q : Int} (e : 0 < q) : modD (.int p) (.int q) h = .ok (.int (p % q)) h := by
  show grd (decide (0 < q)) _ = _
  rw [decide_eq_true e]
  rfl
theorem mulOk_l {p q : Int} (e : p.natAbs < 2 ^ 64) : mulOk p q = true := by
  unfold mulOk
  rw [decide_eq_true e]
  rfl
theorem mulOk_r {p q : Int} (e : q.natAbs < 2 ^ 64) : mulOk p q = true := by
  unfold mulOk
  rw [decide_eq_true e]
  simp
theorem mulOk_m {p q : Int} (e : p.natAbs < 2 ^ 1000) (e2 : q.natAbs < 2 ^ 1000) : mulOk p q = true := by
  have h1 : p.natAbs.log2 < 1000 ∨ p.natAbs = 0 := by
    by_cases z : p.natAbs = 0
    · exact .inr z
    · exact .inl ((Nat.log2_lt z).mpr e)
  have h2 : q.natAbs.log2 < 1000 ∨ q.natAbs = 0 := by
    by_cases z : q.natAbs = 0
    · exact .inr z
    · exact .inl ((Nat.log2_lt z).mpr e2)
  rcases h1 with h1 | h1
  · rcases h2 with h2 | h2
    · unfold mulOk
      rw [decide_eq_true (show p.natAbs.log2 + q.natAbs.log2 < 1000000 by omega)]
      simp
    · exact mulOk_r (by rw [h2]; decide)
  · exact mulOk_l (by rw [h1]; decide)
/-! ### defs -/
theorem fnF_rt {N : Nat} {b : MS} {ds : List D} {h' : IH} (e : b (ds.map some ++ List.replicate (N - ds.length) none) h = .rt d h') : fnF N b ds h = .ok d h' := by unfold fnF; rw [e]
theorem fnF_err {N c : Nat} {b : MS} {ds : List D} {h' : IH} (e : b (ds.map some ++ List.replicate (N - ds.length) none) h = .err c h') : fnF N b ds h = .err c h' := by unfold fnF; rw [e]
theorem fnC_rt {N : Nat} {b : MS} {ds : List D} {h' : IH} (e : b (ds.map some ++ List.replicate (N - ds.length) none) h = .rt d h') (e1 : h'.take h.length = h) (e2 : fz h.length h' 3 d = some x) : fnC N b ds h = .ok x h := by
  unfold fnC
  rw [fnF_rt e]
  dsimp only
  rw [if_pos e1, e2]
theorem fnC_err {N c : Nat} {b : MS} {ds : List D} {h' : IH} (e : b (ds.map some ++ List.replicate (N - ds.length) none) h = .err c h') (e1 : h'.take h.length = h) : fnC N b ds h = .err c h := by
  unfold fnC
  rw [fnF_err e]
  dsimp only
  rw [if_pos e1]
theorem fz_cl {n m : Nat} (e : clB n d = true) : fz n h m d = some d := by
  cases m <;> (unfold fz; rw [if_pos e])
/-- .. the heap as it was, nothing new handed back -/
theorem fnC_r0 {N : Nat} {b : MS} {ds : List D} (e : b (ds.map some ++ List.replicate (N - ds.length) none) h = .rt d h) (e1 : clB h.length d = true) : fnC N b ds h = .ok d h := fnC_rt e (List.take_length) (fz_cl e1)
theorem callF_e {n : Nat} {F : List D → IH → Out D} {ds : List D} {h' : IH} (e : a en h = .ok ds h') (hn : ds.length = n) : callF n F a en h = F ds h' := by
  unfold callF
  rw [e, Out.bind_ok, decide_eq_true hn]
  rfl
/-! ### loops -/
theorem forV_run {w : View} {body : D → En → IH → SO} {xs : List D} (I : Nat → En → IH → Prop) (hw : ∀ i en h, I i en h → w h = some xs)
    (step : ∀ i d en h, xs[i]? = some d → I i en h → ∃ en' h', (body d en h = .nx en' h' ∨ body d en h = .ct en' h') ∧ I (i + 1) en' h') : ∀ n i en h, n + i = xs.length → I i en h → ∃ en' h', forV w body n i en h = .nx en' h' ∧ I xs.length en' h' := by
  intro n
  induction n with
  | zero =>
    intro i en h e hi
    refine ⟨en, h, ?_, by rw [← e, Nat.zero_add]; exact hi⟩
    unfold forV
    rw [hw i en h hi]
    dsimp only
    rw [List.getElem?_eq_none (by omega)]
  | succ n ih =>
    intro i en h e hi
    have hl : i < xs.length := by omega
    obtain ⟨en1, h1, q, hi1⟩ := step i xs[i] en h (List.getElem?_eq_getElem hl) hi
    obtain ⟨en2, h2, q2, hi2⟩ := ih (i + 1) en1 h1 (by omega) hi1
    refine ⟨en2, h2, ?_, hi2⟩
    unfold forV
    rw [hw i en h hi]
    dsimp only
    rw [List.getElem?_eq_getElem hl]
    dsimp only
    rcases q with q | q <;> (rw [q]; exact q2)
theorem forS_run {fi : MV} {gf : MG} {b : MS} {w : View} {h1 : IH} {xs : List D} (I : Nat → En → IH → Prop) (e : fi en h = .ok w h1) (e2 : w h1 = some xs) (start : I 0 en h1) (hw : ∀ i en h, I i en h → w h = some xs)
    (step : ∀ i d en h, xs[i]? = some d → I i en h → ∃ en' h', (stepB gf b d en h = .nx en' h' ∨ stepB gf b d en h = .ct en' h') ∧ I (i + 1) en' h') : ∃ en' h', forS fi gf b en h = .nx en' h' ∧ I xs.length en' h' := by
  obtain ⟨en', h', q, z⟩ := forV_run I hw step xs.length 0 en h1 (by omega) start
  refine ⟨en', h', ?_, z⟩
  unfold forS
  rw [e]
  dsimp only [toS_ok]
  rw [e2]
  exact q
/-- a comprehension whose parts change nothing -/
theorem lcV_run {w : View} {p : Pat} {t : MT} {e : ME} {vs : List Nat} {en : En} {xs : List D} {h : IH} (g : D → En) (tb : D → Bool) (fe : D → D) (hw : w h = some xs) (hp : ∀ d ∈ xs, p.set d (wipeE en vs) = some (g d)) (ht : ∀ d ∈ xs, t (g d) h = .ok (tb d) h)
    (he : ∀ d ∈ xs, tb d = true → e (g d) h = .ok (fe d) h) (hz : xs.length < sizeLine) : ∀ n i ys, n + i = xs.length → ys.length ≤ i → lcV w p t e vs en n i ys h = .ok (ys ++ ((xs.drop i).filter tb).map fe) h := by
  intro n
  induction n with
  | zero =>
    intro i ys q _
    unfold lcV
    rw [hw]
    dsimp only
    rw [List.getElem?_eq_none (by omega), List.drop_eq_nil_of_le (by omega)]
    simp
  | succ n ih =>
    intro i ys q hy
    have hl : i < xs.length := by omega
    have hm : xs[i] ∈ xs := List.getElem_mem hl
    have ed : xs.drop i = xs[i] :: xs.drop (i + 1) := List.drop_eq_getElem_cons hl
    unfold lcV
    rw [hw]
    dsimp only
    rw [List.getElem?_eq_getElem hl]
    dsimp only
    rw [hp _ hm]
    dsimp only
    rw [ht _ hm]
    cases z : tb xs[i] with
    | false =>
      dsimp only
      rw [ih (i + 1) ys (by omega) (by omega), ed, List.filter_cons_of_neg (by rw [z]; decide)]
    | true =>
      dsimp only
      rw [he _ hm z]
      dsimp only
      rw [decide_eq_true (show ys.length < sizeLine by omega), grd_true, ih (i + 1) _ (by omega) (by rw [List.length_append]; simp; omega), ed, List.filter_cons_of_pos z]
      simp
theorem lcE_run {r : Bool} {fi : MV} {w : View} {p : Pat} {t : MT} {e : ME} {vs : List Nat} {en : En} {xs : List D} {h h1 : IH} (g : D → En) (tb : D → Bool) (fe : D → D) (hf : fi en h = .ok w h1) (hw : w h1 = some xs) (hp : ∀ d ∈ xs, p.set d (wipeE en vs) = some (g d)) (ht : ∀ d ∈ xs, t (g d) h1 = .ok (tb d) h1)
    (he : ∀ d ∈ xs, tb d = true → e (g d) h1 = .ok (fe d) h1) (hz : xs.length < sizeLine) : lcE r fi p t e vs en h = outL r ((xs.filter tb).map fe) h1 := by
  unfold lcE
  rw [hf, Out.bind_ok, hw]
  dsimp only
  rw [lcV_run g tb fe hw hp ht he hz xs.length 0 [] (by omega) (Nat.le_refl _), Out.bind_ok, List.nil_append, List.drop_zero]
@[simp] theorem outL_f {xs : List D} : outL false xs h = .ok (.vl xs) h := rfl
@[simp] theorem outL_t {xs : List D} : outL true xs h = .ok (.ref h.length) (h ++ [.lst xs]) := rfl
/-! ### lists, tuples -/
@[simp] theorem getL_vl {xs : List D} : getL h (.vl xs) = some xs := rfl
@[simp] theorem getL_fl {xs : List D} : getL h (.fl xs) = some xs := rfl
@[simp] theorem getL_tup {xs : List D} : getL h (.tup xs) = none := rfl
@[simp] theorem getT_tup {xs : List D} : getT (.tup xs) = some xs := rfl
@[simp] theorem getL_ref : getL h (.ref i) = lstAt h i := rfl
@[simp] theorem lstAt_last {xs : List D} : lstAt (h ++ [.lst xs]) h.length = some xs := by simp [lstAt]
theorem getL_lt {xs : List D} (e : lstAt h i = some xs) : i < h.length := by
  unfold lstAt at e
  cases q : h[i]? with
  | none => rw [q] at e; cases e
  | some o => exact (List.getElem?_eq_some_iff.mp q).1
theorem lstAt_app {xs : List D} {g : IH} (e : lstAt h i = some xs) : lstAt (h ++ g) i = some xs := by
  have hl := getL_lt e
  unfold lstAt at e ⊢
  rw [List.getElem?_append_left hl]
  exact e
theorem getL_app {xs : List D} {g : IH} (e : getL h d = some xs) : getL (h ++ g) d = some xs := by
  cases d <;> first | exact e | exact lstAt_app e
theorem getS_L {xs : List D} (e : getL h d = some xs) : getS h d = some xs := by
  unfold getS
  rw [e]
theorem isi_list {xs : List D} (e : getL h d = some xs) : isiD .list d h = .ok (.bl true) h := by
  cases d with
  | ref i =>
    have e : lstAt h i = some xs := e
    have z := lstAt_ok e
    unfold isiD isBT
    dsimp only
    rw [z]
  | vl _ => rfl
  | fl _ => rfl
  | _ => cases e
theorem lenD_e {xs : List D} (e : getS h d = some xs) : lenD [d] h = .ok (.int xs.length) h := by
  cases d with
  | tup ys => cases e; rfl
  | vl ys => cases e; rfl
  | fl ys => cases e; rfl
  | ref i =>
    show (match getS h (.ref i) with | some xs => Out.ok (D.int xs.length) h | none => .bad) = _
    rw [e]
  | _ => cases e
theorem atI_nat {α : Type} {xs : List α} {y : α} (e : xs[i]? = some y) : atI xs ((i : Nat) : Int) = some y := by
  have hl := (List.getElem?_eq_some_iff.mp e).1
  unfold atI ixN
  rw [if_pos (Int.natCast_nonneg _), if_pos (by exact_mod_cast hl)]
  show xs[((i : Nat) : Int).toNat]? = _
  rw [Int.toNat_natCast]
  exact e
theorem ixD_e {xs : List D} (e : getS h d = some xs) (e2 : xs[i]? = some y) : ixD d (.int (i : Nat)) h = .ok y h := by
  unfold ixD
  rw [e]
  dsimp only
  rw [atI_nat e2]
theorem ixD_i {xs : List D} {z : Int} (e : getS h d = some xs) (e2 : atI xs z = some y) : ixD d (.int z) h = .ok y h := by
  unfold ixD
  rw [e]
  dsimp only
  rw [e2]
@[simp] theorem getS_tup {xs : List D} : getS h (.tup xs) = some xs := rfl
@[simp] theorem getS_vl {xs : List D} : getS h (.vl xs) = some xs := rfl
@[simp] theorem getS_fl {xs : List D} : getS h (.fl xs) = some xs := rfl
/-! ### equality of data that is no object -/
mutual
def pl : D → Bool
  | .ref _ => false
  | .fl _ => false
  | .tup xs => pls xs
  | .vl xs => pls xs
  | .str _ => false
  | .non => true
  | .bl _ => true
  | .int _ => true
  | .wd _ => true
def pls : List D → Bool
  | [] => true
  | x :: xs => pl x && pls xs
end
mutual
def dep : D → Nat
  | .tup xs => deps xs + 1
  | .vl xs => deps xs + 1
  | _ => 0
def deps : List D → Nat
  | [] => 0
  | x :: xs => max (dep x) (deps xs)
end
mutual
theorem res_pl : ∀ (d : D) (n : Nat), pl d = true → dep d ≤ n → res h n d = some d
  | .non, n, _, _ => by cases n <;> rfl
  | .bl b, n, _, _ => by cases n <;> rfl
  | .int b, n, _, _ => by cases n <;> rfl
  | .wd b, n, _, _ => by cases n <;> rfl
  | .str s, _, e, _ => by cases e
  | .ref s, _, e, _ => by cases e
  | .fl s, _, e, _ => by cases e
  | .tup xs, n, e, q => by
    cases n with
    | zero => simp [dep] at q
    | succ n =>
      simp only [res]
      rw [ress_pl xs n e (by simp only [dep] at q; omega)]
      rfl
  | .vl xs, n, e, q => by
    cases n with
    | zero => simp [dep] at q
    | succ n =>
      simp only [res]
      rw [ress_pl xs n e (by simp only [dep] at q; omega)]
      rfl
theorem ress_pl : ∀ (xs : List D) (n : Nat), pls xs = true → deps xs ≤ n → optAll (res h n) xs = some xs
  | [], n, _, _ => rfl
  | x :: xs, n, e, q => by
    have e' := Bool.and_eq_true_iff.mp (show (pl x && pls xs) = true from e)
    simp only [deps] at q
    simp only [optAll]
    rw [res_pl x n e'.1 (by omega), ress_pl xs n e'.2 (by omega)]
end
theorem eqD_e (hx : pl x = true) (hy : pl y = true) (h1 : dep x ≤ 8) (h2 : dep y ≤ 8) : eqD x y h = .ok (.bl (eqW x y)) h := by
  unfold eqD dp
  rw [res_pl x 8 hx h1, res_pl y 8 hy h2]
theorem neD_e (hx : pl x = true) (hy : pl y = true) (h1 : dep x ≤ 8) (h2 : dep y ≤ 8) : neD x y h = .ok (.bl (!eqW x y)) h := by
  unfold neD dp
  rw [res_pl x 8 hx h1, res_pl y 8 hy h2]
/-- .. of a list, wherever it lies -/
theorem res_L {xs : List D} {n : Nat} (e : getL h d = some xs) (hx : pls xs = true) (h1 : deps xs ≤ n) : res h (n + 1) d = some (.vl xs) := by
  have z := ress_pl (h := h) xs n hx h1
  cases d with
  | vl ys => cases e; simp only [res]; rw [z]; rfl
  | fl ys => cases e; simp only [res]; rw [z]; rfl
  | ref i =>
    have e : lstAt h i = some xs := e
    simp only [res]
    rw [e]
    dsimp only
    rw [z]
    rfl
  | _ => cases e
theorem eqD_L {xs ys : List D} (e : getL h x = some xs) (e2 : getL h y = some ys) (hx : pls xs = true) (hy : pls ys = true) (h1 : deps xs ≤ 7) (h2 : deps ys ≤ 7) : eqD x y h = .ok (.bl (eqWs xs ys)) h := by
  unfold eqD dp
  rw [res_L e hx h1, res_L e2 hy h2]
  rfl
theorem neD_L {xs ys : List D} (e : getL h x = some xs) (e2 : getL h y = some ys) (hx : pls xs = true) (hy : pls ys = true) (h1 : deps xs ≤ 7) (h2 : deps ys ≤ 7) : neD x y h = .ok (.bl (!eqWs xs ys)) h := by
  unfold neD dp
  rw [res_L e hx h1, res_L e2 hy h2]
  rfl
theorem pls_ints (ns : List Int) : pls (ns.map D.int) = true := by
  induction ns with
  | nil => rfl
  | cons n ns ih => exact ih
theorem deps_ints (ns : List Int) : deps (ns.map D.int) = 0 := by
  induction ns with
  | nil => rfl
  | cons n ns ih => simp only [List.map_cons, deps, dep]; rw [ih]; rfl
mutual
theorem eqW_refl : ∀ (d : D), pl d = true → eqW d d = true
  | .non, _ => rfl
  | .bl b, _ => by simp [eqW]
  | .int b, _ => by simp [eqW]
  | .wd b, _ => by simp [eqW]
  | .str s, e => by cases e
  | .ref s, e => by cases e
  | .fl s, e => by cases e
  | .tup xs, e => eqWs_refl xs e
  | .vl xs, e => eqWs_refl xs e
theorem eqWs_refl : ∀ (xs : List D), pls xs = true → eqWs xs xs = true
  | [], _ => rfl
  | x :: xs, e => by
    have e' := Bool.and_eq_true_iff.mp (show (pl x && pls xs) = true from e)
    show (eqW x x && eqWs xs xs) = true
    rw [eqW_refl x e'.1, eqWs_refl xs e'.2]
    rfl
end
theorem optAll_id {f : D → Option D} : ∀ {xs : List D}, (∀ x ∈ xs, f x = some x) → optAll f xs = some xs
  | [], _ => rfl
  | x :: xs, e => by
    simp only [optAll]
    rw [e x List.mem_cons_self, optAll_id fun y hy => e y (List.mem_cons_of_mem _ hy)]
theorem fz_new {n m : Nat} {xs : List D} (e : lstAt h i = some xs) (hn : n ≤ i) (hx : ∀ x ∈ xs, clB n x = true) : fz n h (m + 1) (.ref i) = some (.vl xs) := by
  unfold fz
  rw [if_neg (by show ¬ decide (i < n) = true; simp; exact hn)]
  dsimp only
  rw [e]
  dsimp only
  rw [optAll_id fun x hx' => fz_cl (hx x hx')]
  rfl
theorem set_mid {g : IH} {o p : O} : (h ++ o :: g).set h.length p = h ++ p :: g := by simp
theorem set_far {g : IH} {o p : O} (e : h.length < i) : (h ++ o :: g).set i p = h ++ o :: g.set (i - h.length - 1) p := by
  rw [List.set_append, if_neg (by omega)]
  obtain ⟨k, rfl⟩ : ∃ k, i = h.length + 1 + k := ⟨i - h.length - 1, by omega⟩
  rw [show h.length + 1 + k - h.length = k + 1 by omega, show k + 1 - 1 = k by omega]
  rfl
theorem lstAt_mid {g : IH} {xs : List D} : lstAt (h ++ .lst xs :: g) h.length = some xs := by simp [lstAt]
theorem lstAt_set {xs : List D} (e : i < h.length) : lstAt (h.set i (.lst xs)) i = some xs := by simp [lstAt, e]
theorem lstAt_set_ne {o : O} (e : j ≠ i) : lstAt (h.set i o) j = lstAt h j := by
  unfold lstAt
  rw [List.getElem?_set_ne (Ne.symm e)]
theorem asBs_map : ∀ (bs : List Bool), asBs (bs.map D.bl) = some bs
  | [] => rfl
  | b :: bs => by
    have ih : optAll _ (bs.map D.bl) = some bs := asBs_map bs
    simp only [asBs, List.map_cons, optAll]
    rw [ih]
theorem asIs_map : ∀ (bs : List Int), asIs (bs.map D.int) = some bs
  | [] => rfl
  | b :: bs => by
    have ih : optAll _ (bs.map D.int) = some bs := asIs_map bs
    simp only [asIs, List.map_cons, optAll]
    rw [ih]
theorem allD_e {bs : List Bool} (e : getL h d = some (bs.map D.bl)) : allD d h = .ok (.bl (bs.all id)) h := by
  unfold allD
  rw [e]
  dsimp only
  rw [asBs_map]
theorem sumD_e {bs : List Int} (e : getL h d = some (bs.map D.int)) : sumD d h = .ok (.int bs.sum) h := by
  unfold sumD
  rw [e]
  dsimp only
  rw [asIs_map]
theorem seqV_L {xs : List D} {h1 : IH} (e : f en h = .ok d h1) (e2 : getL h1 d = some xs) : seqV f en h = .ok (fun h => getL h d) h1 := by
  unfold seqV
  rw [e, Out.bind_ok, e2]
theorem whV_run {t : MT} {b : MS} (I : Nat → En → IH → Prop) (Qd : En → IH → Prop)
    (step : ∀ m en h, I m en h → (t en h = .ok false h ∧ Qd en h) ∨ (t en h = .ok true h ∧ ∃ en' h' m', (b en h = .nx en' h' ∨ b en h = .ct en' h') ∧ m' < m ∧ I m' en' h')) : ∀ fuel m en h, m < fuel → I m en h → ∃ en' h', whV t b fuel en h = .nx en' h' ∧ Qd en' h' := by
  intro fuel
  induction fuel with
  | zero => intro m en h hm; omega
  | succ n ih =>
    intro m en h hm hi
    unfold whV
    rcases step m en h hi with ⟨e, q⟩ | ⟨e, en1, h1, m1, e2, hlt, hi1⟩
    · exact ⟨en, h, by rw [e]; rfl, q⟩
    · obtain ⟨en2, h2, e3, q⟩ := ih m1 en1 h1 (by omega) hi1
      refine ⟨en2, h2, ?_, q⟩
      rw [e]
      dsimp only [toS_ok]
      rcases e2 with e2 | e2 <;> (rw [e2]; exact e3)
theorem rangeL_nat (lo n : Nat) : rangeL ((lo : Nat) : Int) n = (List.range' lo n).map fun k => D.int ((k : Nat) : Int) := by
  unfold rangeL
  rw [List.range'_eq_map_range, List.map_map]
  congr 1
theorem addL_e {a b : List D} {r : Bool} (e1 : getM h x = some a) (e2 : getM h y = some b) (hz : a.length + b.length ≤ sizeLine) : addD r x y h = outL r (a ++ b) h := by
  have z : addL r x y h = outL r (a ++ b) h := by
    unfold addL
    rw [e1, e2]
    dsimp only
    rw [decide_eq_true hz]
    rfl
  unfold addD
  rw [z]
  cases x with
  | vl _ =>
    cases y <;> first | (cases r <;> rfl) | (cases e2)
  | ref _ =>
    cases y <;> first | (cases r <;> rfl) | (cases e2)
  | _ => cases e1
@[simp] theorem getM_vl {xs : List D} : getM h (.vl xs) = some xs := rfl
theorem lcV_map {α : Type} {w : View} {p : Pat} {t : MT} {e : ME} {vs : List Nat} {en : En} {h : IH} (ks : List α) (c : α → D) (g : α → En) (P : α → Bool) (fe : α → D) (hw : w h = some (ks.map c)) (hp : ∀ k ∈ ks, p.set (c k) (wipeE en vs) = some (g k))
    (ht : ∀ k ∈ ks, t (g k) h = .ok (P k) h) (he : ∀ k ∈ ks, P k = true → e (g k) h = .ok (fe k) h) (hz : ks.length < sizeLine) : ∀ n i ys, n + i = ks.length → ys.length ≤ i → lcV w p t e vs en n i ys h = .ok (ys ++ ((ks.drop i).filter P).map fe) h := by
  intro n
  induction n with
  | zero =>
    intro i ys q _
    unfold lcV
    rw [hw]
    dsimp only
    rw [List.getElem?_eq_none (by rw [List.length_map]; omega), List.drop_eq_nil_of_le (by omega)]
    simp
  | succ n ih =>
    intro i ys q hy
    have hl : i < ks.length := by omega
    have hm : ks[i] ∈ ks := List.getElem_mem hl
    have ed : ks.drop i = ks[i] :: ks.drop (i + 1) := List.drop_eq_getElem_cons hl
    unfold lcV
    rw [hw]
    dsimp only
    rw [List.getElem?_map, List.getElem?_eq_getElem hl]
    dsimp only [Option.map_some]
    rw [hp _ hm]
    dsimp only
    rw [ht _ hm]
    cases z : P ks[i] with
    | false =>
      dsimp only
      rw [ih (i + 1) ys (by omega) (by omega), ed, List.filter_cons_of_neg (by rw [z]; decide)]
    | true =>
      dsimp only
      rw [he _ hm z]
      dsimp only
      rw [decide_eq_true (show ys.length < sizeLine by omega), grd_true, ih (i + 1) _ (by omega) (by rw [List.length_append]; simp; omega), ed, List.filter_cons_of_pos z]
      simp
theorem lcE_map {α : Type} {r : Bool} {fi : MV} {w : View} {p : Pat} {t : MT} {e : ME} {vs : List Nat} {en : En} {h h1 : IH} (ks : List α) (c : α → D) (g : α → En) (P : α → Bool) (fe : α → D) (hf : fi en h = .ok w h1) (hw : w h1 = some (ks.map c)) (hp : ∀ k ∈ ks, p.set (c k) (wipeE en vs) = some (g k))
    (ht : ∀ k ∈ ks, t (g k) h1 = .ok (P k) h1) (he : ∀ k ∈ ks, P k = true → e (g k) h1 = .ok (fe k) h1) (hz : ks.length < sizeLine) : lcE r fi p t e vs en h = outL r ((ks.filter P).map fe) h1 := by
  unfold lcE
  rw [hf, Out.bind_ok, hw]
  dsimp only
  rw [List.length_map, lcV_map ks c g P fe hw hp ht he hz ks.length 0 [] (by omega) (Nat.le_refl _), Out.bind_ok, List.nil_append, List.drop_zero]
theorem slD_L {xs : List D} {lo hi : Option Int} {r : Bool} (e : getL h d = some xs) : slD r d lo hi h = outL r (cutL xs lo hi) h := by
  unfold slD
  rw [e]
theorem cutL_take {xs : List D} {c : Nat} : cutL xs none (some ((c : Nat) : Int)) = xs.take c := by
  unfold cutL
  rw [HT.sIx_none, HT.sIx_nat, List.drop_zero, Nat.sub_zero]
  by_cases h : c ≤ xs.length
  · rw [Nat.min_eq_left h]
  · rw [Nat.min_eq_right (by omega), List.take_length, List.take_of_length_le (by omega)]
end
end DL

set_option Elab.async false
set_option linter.all false
set_option maxRecDepth 100000
set_option autoImplicit false
set_option maxHeartbeats 1000000
/-! sorted(), dicts, backwards. -/
namespace DL
open PySem PySem.Spec PyProof.Rows L2
/-! ### ints in order -/
def insI (a : Int) : List Int → List Int
  | [] => [a]
  | b :: l => if a ≤ b then a :: b :: l else b :: insI a l
def sortI : List Int → List Int
  | [] => []
  | a :: l => insI a (sortI l)
theorem insI_perm (a : Int) : ∀ l : List Int, (insI a l).Perm (a :: l)
  | [] => .refl _
  | b :: l => by
    unfold insI
    split
    · exact .refl _
    · exact ((insI_perm a l).cons b).trans (.swap a b l)
theorem sortI_perm : ∀ l : List Int, (sortI l).Perm l
  | [] => .refl _
  | a :: l => (insI_perm a _).trans ((sortI_perm l).cons a)
theorem insI_sorted (a : Int) : ∀ {l : List Int}, l.Pairwise (· ≤ ·) → (insI a l).Pairwise (· ≤ ·)
  | [], _ => List.pairwise_singleton _ _
  | b :: l, h => by
    obtain ⟨h1, h2⟩ := List.pairwise_cons.mp h
    unfold insI
    split
    · rename_i q
      refine List.pairwise_cons.mpr ⟨fun x hx => ?_, h⟩
      rcases List.mem_cons.mp hx with z | z
      · rw [z]; exact q
      · exact Int.le_trans q (h1 x z)
    · rename_i q
      refine List.pairwise_cons.mpr ⟨fun x hx => ?_, insI_sorted a h2⟩
      rcases List.mem_cons.mp ((insI_perm a l).mem_iff.mp hx) with z | z
      · rw [z]; omega
      · exact h1 x z
theorem sortI_sorted : ∀ l : List Int, (sortI l).Pairwise (· ≤ ·)
  | [] => .nil
  | a :: l => insI_sorted a (sortI_sorted l)
theorem sorted_uniq : ∀ {a b : List Int}, a.Perm b → a.Pairwise (· ≤ ·) → b.Pairwise (· ≤ ·) → a = b
  | [], b, p, _, _ => by rw [List.nil_perm.mp p]
  | x :: a, [], p, _, _ => absurd p.length_eq (by simp)
  | x :: a, y :: b, p, h1, h2 => by
    obtain ⟨u1, u2⟩ := List.pairwise_cons.mp h1
    obtain ⟨v1, v2⟩ := List.pairwise_cons.mp h2
    have hxy : x = y := by
      have e1 : x ∈ y :: b := p.mem_iff.mp List.mem_cons_self
      have e2 : y ∈ x :: a := p.mem_iff.mpr List.mem_cons_self
      rcases List.mem_cons.mp e1 with z | z
      · exact z
      · rcases List.mem_cons.mp e2 with w | w
        · exact w.symm
        · have := v1 x z
          have := u1 y w
          omega
    subst hxy
    rw [sorted_uniq ((List.perm_cons x).mp p) u2 v2]
theorem sortI_of {a b : List Int} (p : a.Perm b) (h : a.Pairwise (· ≤ ·)) : a = sortI b := sorted_uniq (p.trans (sortI_perm b).symm) h (sortI_sorted b)
/-- each once -/
def insU (a : Int) : List Int → List Int
  | [] => [a]
  | b :: l => if a < b then a :: b :: l else if a = b then b :: l else b :: insU a l
def sortU : List Int → List Int
  | [] => []
  | a :: l => insU a (sortU l)
theorem insU_mem (a x : Int) : ∀ l : List Int, x ∈ insU a l ↔ x = a ∨ x ∈ l
  | [] => by simp [insU]
  | b :: l => by
    unfold insU
    split
    · simp
    · split
      · rename_i q; subst q; simp
      · rw [List.mem_cons, insU_mem a x l, List.mem_cons]
        constructor
        · rintro (z | z | z)
          · exact .inr (.inl z)
          · exact .inl z
          · exact .inr (.inr z)
        · rintro (z | z | z)
          · exact .inr (.inl z)
          · exact .inl z
          · exact .inr (.inr z)
theorem sortU_mem (x : Int) : ∀ l : List Int, x ∈ sortU l ↔ x ∈ l
  | [] => Iff.rfl
  | a :: l => by
    show x ∈ insU a (sortU l) ↔ _
    rw [insU_mem, sortU_mem x l, List.mem_cons]
theorem insU_sorted (a : Int) : ∀ {l : List Int}, l.Pairwise (· < ·) → (insU a l).Pairwise (· < ·)
  | [], _ => List.pairwise_singleton _ _
  | b :: l, h => by
    obtain ⟨h1, h2⟩ := List.pairwise_cons.mp h
    unfold insU
    split
    · rename_i q
      refine List.pairwise_cons.mpr ⟨fun x hx => ?_, h⟩
      rcases List.mem_cons.mp hx with z | z
      · rw [z]; exact q
      · exact Int.lt_trans q (h1 x z)
    · split
      · exact h
      · rename_i q1 q2
        refine List.pairwise_cons.mpr ⟨fun x hx => ?_, insU_sorted a h2⟩
        rcases (insU_mem a x l).mp hx with z | z
        · rw [z]; omega
        · exact h1 x z
theorem sortU_sorted : ∀ l : List Int, (sortU l).Pairwise (· < ·)
  | [] => .nil
  | a :: l => insU_sorted a (sortU_sorted l)
theorem strict_uniq : ∀ {a b : List Int}, (∀ x, x ∈ a ↔ x ∈ b) → a.Pairwise (· < ·) → b.Pairwise (· < ·) → a = b
  | [], [], _, _, _ => rfl
  | [], y :: b, p, _, _ => by have := (p y).mpr List.mem_cons_self; cases this
  | x :: a, [], p, _, _ => by have := (p x).mp List.mem_cons_self; cases this
  | x :: a, y :: b, p, h1, h2 => by
    obtain ⟨u1, u2⟩ := List.pairwise_cons.mp h1
    obtain ⟨v1, v2⟩ := List.pairwise_cons.mp h2
    have hxy : x = y := by
      rcases List.mem_cons.mp ((p x).mp List.mem_cons_self) with z | z
      · exact z
      · rcases List.mem_cons.mp ((p y).mpr List.mem_cons_self) with w | w
        · exact w.symm
        · have := v1 x z
          have := u1 y w
          omega
    subst hxy
    have : a = b := strict_uniq (fun z => by
      constructor
      · intro hz
        have hz' := u1 z hz
        rcases List.mem_cons.mp ((p z).mp (List.mem_cons_of_mem _ hz)) with w | w
        · omega
        · exact w
      · intro hz
        have hz' := v1 z hz
        rcases List.mem_cons.mp ((p z).mpr (List.mem_cons_of_mem _ hz)) with w | w
        · omega
        · exact w) u2 v2
    rw [this]
theorem sortU_of {a b : List Int} (p : ∀ x, x ∈ a ↔ x ∈ b) (h : a.Pairwise (· < ·)) : a = sortU b := strict_uniq (fun x => (p x).trans (sortU_mem x b).symm) h (sortU_sorted b)
section
variable {X : Cx} {T : List (Addr × Str)} {E : XK} {a b c e o : Expr} {es rest : List Expr} {pos : Pos} {f k l : ME}
/-- sorted(x), a list of ints -/
def sortID (x : D) (h : IH) : Out D := match getL h x with
  | some xs => (match asIs xs with
    | some ns => .ok (.vl ((sortI ns).map .int)) h
    | none => .bad)
  | none => .bad
theorem de_sortI {t : MA} {p : Pos} (hc : X.calm = true) (hm : X.mg "sorted" = none) (ha : DA X T E [e] t) (hg : Gl X "sorted" := by rfl) (he : starEach (e :: []) X.env = (false, eval e X.env) :: starEach [] X.env := by rfl) : DE X T E (.Call (.Name "sorted" p) [e] [] pos) (callB (one sortID) t) :=
  de_callB cr_sortedI (one_ok fun m h H v d E Q rh r p => by
    unfold sortID at p
    cases e : getL h d with
    | none => rw [e] at p; exact p.elim
    | some xs =>
      rw [e] at p
      cases e2 : asIs xs with
      | none => dsimp only at p; rw [e2] at p; exact p.elim
      | some ns =>
        dsimp only at p
        rw [e2] at p
        obtain ⟨a, vs, rfl, s, r2⟩ := getL_ok rh r e
        rw [asIs_ok e2] at r2
        rw [r2.ints] at s
        refine ⟨a, ns, rfl, s, fun ns' q pm pw hq => ?_⟩
        rw [sortI_of pm pw]
        exact Post.vl p rh (Rvs.of_ints _) hq) hm (by decide +kernel) ha hg (by decide) (by decide) he
/-- x[::-1] -/
def revD (r : Bool) (x : D) (h : IH) : Out D := match getL h x with
  | some xs => outL r xs.reverse h
  | none => .bad
theorem de_rev (r : Bool) {k : Nat} {p1 p2 p3 : Pos} (ha : DE X T E e f) : DE X T E (.Subscript e (.Slice none none (some (.UnaryOp .USub (.Constant (.int 1) k p1) p2)) p3) pos) (op1 (revD r) f) :=
  PE.imp (pe_revL ha) fun σ H Q ⟨m, h, en, rel, p⟩ => chain rel p fun m1 h1 H1 v d e1 rel1 rv1 p1 => by
    unfold revD at p1
    cases q : getL h1 d with
    | none => rw [q] at p1; exact p1.elim
    | some xs =>
      rw [q] at p1
      obtain ⟨a, vs, rfl, s, r2⟩ := getL_ok rel1.rh rv1 q
      exact ⟨a, vs, rfl, s, fun z hz => Post.outL p1 rel1.rh r2.reverse hz⟩
/-- int(x), a truth or an int -/
def intD (x : D) (h : IH) : Out D := match x with
  | .int i => .ok (.int i) h
  | .bl b => .ok (.int (if b then 1 else 0)) h
  | _ => .bad
theorem de_intB {t : MA} {p : Pos} (hm : X.mg "int" = none) (ha : DA X T E [e] t) (hg : Gl X "int" := by rfl) (he : starEach (e :: []) X.env = (false, eval e X.env) :: starEach [] X.env := by rfl) : DE X T E (.Call (.Name "int" p) [e] [] pos) (callB (one intD) t) :=
  de_callTy call_int1 (one_ok fun m h H v d E Q rh r p => by
    cases d with
    | int i => cases r; exact .inl ⟨i, rfl, Post.val p rh (.int _)⟩
    | bl b => cases r; exact .inr ⟨b, rfl, Post.val p rh (.int _)⟩
    | _ => exact p.elim) hm (by decide +kernel) ha hg (by decide) (by decide) he
end
/-! ### dicts -/
def dctAt (h : IH) : D → Option (Nat × List (DK × D))
  | .ref i => match h[i]? with
    | some (.dct kvs) => some (i, kvs)
    | _ => none
  | _ => none
theorem dctAt_ok {h : IH} {d : D} {i : Nat} {kvs : List (DK × D)} (e : dctAt h d = some (i, kvs)) : d = .ref i ∧ h[i]? = some (.dct kvs) := by
  cases d with
  | ref j =>
    unfold dctAt at e
    dsimp only at e
    split at e
    · rename_i q
      cases e
      exact ⟨rfl, q⟩
    · cases e
  | _ => cases e
def dkOf : D → Option DK
  | .int i => some (.inl i)
  | .wd n => some (.inr n)
  | _ => none
def DKok (k : DK) : Prop := ∀ w, k = .inr w → w < nW
theorem dkOf_ok {K : PySem.W.Frag} {m : Mp} {n : Nat} {H : Hp} {v : V} {d : D} {k : DK} (e : dkOf d = some k) (r : Rv K m n H v d) : v = kV (dkey k) ∧ DKok k := by
  cases r with
  | int i => cases e; exact ⟨rfl, fun w z => by cases z⟩
  | wd h1 h2 => cases e; exact ⟨by rw [h2]; rfl, fun w z => by cases z; exact h1⟩
  | _ => cases e
theorem dkey_inj {a b : DK} (ha : DKok a) (hb : DKok b) (e : dkey a = dkey b) : a = b := by
  cases a with
  | inl i =>
    cases b with
    | inl j => cases e; rfl
    | inr n => cases e
  | inr n =>
    cases b with
    | inl j => cases e
    | inr k =>
      have e : wds n = wds k := by injection e
      rw [words_nd n (ha n rfl) k (hb k rfl) e]
def dval (kvs : List (DK × D)) (k : DK) : Option D := (kvs.find? fun p => decide (p.1 = k)).map (·.2)
def dput (kvs : List (DK × D)) (k : DK) (v : D) : List (DK × D) := if (kvs.any fun p => decide (p.1 = k)) = true then kvs.map (fun p => if p.1 = k then (p.1, v) else p) else kvs ++ [(k, v)]
def ddrop (kvs : List (DK × D)) (k : DK) : List (DK × D) := kvs.filter fun p => decide (p.1 ≠ k)
section
variable {K : PySem.W.Frag} {m : Mp} {n : Nat} {H : Hp} {l : List (Key × V)} {l' : List (DK × D)} {k : DK}
theorem key_dec {p : Key × V} {q : DK × D} (h : p.1 = dkey q.1 ∧ (∀ w, q.1 = .inr w → w < nW) ∧ Rv K m n H p.2 q.2) (hk : DKok k) : decide (p.1 = dkey k) = decide (q.1 = k) := by
  rw [h.1]
  by_cases e : q.1 = k
  · rw [e]; simp
  · rw [decide_eq_false e, decide_eq_false fun z => e (dkey_inj h.2.1 hk z)]
theorem RPs.val (r : RPs K m n H l l') (hk : DKok k) : (dval l' k = none ∧ valV l (dkey k) = none) ∨ ∃ d v, dval l' k = some d ∧ valV l (dkey k) = some v ∧ Rv K m n H v d := by
  induction r with
  | nil => exact .inl ⟨rfl, rfl⟩
  | cons h _ ih =>
    rename_i p q l l' _
    have e := key_dec h hk
    unfold dval valV
    rw [List.find?_cons, List.find?_cons, e]
    cases decide (q.1 = k) with
    | true => exact .inr ⟨_, _, rfl, rfl, h.2.2⟩
    | false => exact ih
theorem RPs.anyK (r : RPs K m n H l l') (hk : DKok k) : (l.any fun kv => decide (kv.1 = dkey k)) = (l'.any fun p => decide (p.1 = k)) := by
  induction r with
  | nil => rfl
  | cons h _ ih => rw [List.any_cons, List.any_cons, key_dec h hk, ih]
theorem RPs.put (r : RPs K m n H l l') (hk : DKok k) {v : V} {d : D} (rv : Rv K m n H v d) : RPs K m n H (putK l (dkey k) v) (dput l' k d) := by
  unfold putK dput
  rw [r.anyK hk]
  split
  · rename_i hx
    clear hx
    induction r with
    | nil => exact .nil
    | cons h _ ih =>
      rename_i p q l l' _
      refine .cons ?_ ih
      have e := key_dec h hk
      dsimp only
      by_cases z : q.1 = k
      · have z2 : p.1 = dkey k := of_decide_eq_true (by rw [e]; exact decide_eq_true z)
        rw [if_pos z, if_pos z2]
        exact ⟨h.1, h.2.1, rv⟩
      · have z2 : ¬ p.1 = dkey k := of_decide_eq_false (by rw [e]; exact decide_eq_false z)
        rw [if_neg z, if_neg z2]
        exact h
  · rename_i hx
    clear hx
    induction r with
    | nil => exact .cons ⟨rfl, hk, rv⟩ .nil
    | cons h _ ih => exact .cons h ih
theorem RPs.drop (r : RPs K m n H l l') (hk : DKok k) : RPs K m n H (dropK l (dkey k)) (ddrop l' k) := by
  unfold dropK ddrop
  induction r with
  | nil => exact .nil
  | cons h _ ih =>
    rename_i p q l l' _
    have e := key_dec h hk
    have e' : decide (p.1 ≠ dkey k) = decide (q.1 ≠ k) := by
      by_cases z : q.1 = k
      · have z2 : p.1 = dkey k := of_decide_eq_true (by rw [e]; exact decide_eq_true z)
        rw [decide_eq_false (fun y => y z2), decide_eq_false (fun y => y z)]
      · have z2 : ¬ p.1 = dkey k := of_decide_eq_false (by rw [e]; exact decide_eq_false z)
        rw [decide_eq_true z2, decide_eq_true z]
    rw [List.filter_cons, List.filter_cons, e']
    split
    · exact .cons h ih
    · exact ih
theorem RPs.length (r : RPs K m n H l l') : l.length = l'.length := by
  induction r with
  | nil => rfl
  | cons _ _ ih => simp [ih]
end
theorem dct_store {g : G} {m : Mp} {h : IH} {H : Hp} {i : Nat} {kvs kvs' : List (DK × D)} {l : List (Key × V)} (rh : RH g m h H) (hi : h[i]? = some (.dct kvs)) (r : RPs g.K m h.length H l kvs') : Ex m h.length H m (h.set i (.dct kvs')).length (upd H (m i) (.dK l)) ∧ RH g m (h.set i (.dct kvs')) (upd H (m i) (.dK l)) := by
  have hl : i < h.length := (List.getElem?_eq_some_iff.mp hi).1
  have ex := Ex.store (o := .dK l) rh hl NT.dK
  refine ⟨by rw [List.length_set]; exact ex, rh.store hl NT.dK (fun _ => rh.fz1 i _ hi (fun _ z => by cases z)) ⟨l, upd_same, r.mono ex⟩⟩
section
variable {X : Cx} {T : List (Addr × Str)} {E : XK} {a b c e o : Expr} {es rest : List Expr} {pos : Pos} {f k l : ME}
def dnewE : ME := fun _ h => .ok (.ref h.length) (h ++ [.dct []])
theorem de_dnew : DE X T E (.Dict [] [] pos) dnewE := PE.imp pe_dnewK fun σ H Q ⟨m, h, en, rel, p⟩ q hq => by
  have hl : (h ++ [O.dct []]).length = h.length + 1 := by simp
  have hk := upd_keeps (o := .dK []) hq
  have ex : Ex m h.length H (put m h.length q) (h ++ [O.dct []]).length (upd H q (.dK [])) := by rw [hl]; exact Ex.alloc hq hk
  refine p (put m h.length q) _ _ ex (rel.rh.alloc hq hk ⟨[], upd_same, .nil⟩) ?_
  have z : Rv X.K (put m h.length q) (h ++ [O.dct []]).length (upd H q (.dK [])) (.ref (put m h.length q h.length)) (.ref h.length) := .ref (by rw [hl]; omega)
  rw [put_same] at z
  exact z
def dgetD : D → D → IH → Out D := fun x y h => match dctAt h x, dkOf y with
  | some (_, kvs), some k => (match dval kvs k with
    | some v => .ok v h
    | none => .bad)
  | _, _ => .bad
theorem de_dget {nr : Nat} (hr : Room nr X.A) (ha : DE X T E a f) (hb : DE X T E b k) (hp : NoSl b := by exact fun _ _ => rfl) : DE X T E (.Subscript a b pos) (op2 dgetD f k) :=
  PE.imp (pe_dget (by have := hr.un; omega) ha hb hp) fun σ H Q ⟨m, h, en, rel, p⟩ => chain rel p fun m1 h1 H1 v d e1 rel1 rv1 p1 => chain rel1 p1 fun m2 h2 H2 w d2 e2 rel2 rv2 p2 => by
    unfold dgetD at p2
    cases q : dctAt h2 d with
    | none => rw [q] at p2; exact p2.elim
    | some ik =>
      obtain ⟨i, kvs⟩ := ik
      rw [q] at p2
      cases q2 : dkOf d2 with
      | none => rw [q2] at p2; exact p2.elim
      | some kk =>
        rw [q2] at p2
        dsimp only at p2
        obtain ⟨rfl, hi⟩ := dctAt_ok q
        obtain ⟨ew, hk⟩ := dkOf_ok q2 rv2
        obtain ⟨l, z1, z2⟩ := rel2.rh.obj i _ hi
        cases rv1.mono e2
        rcases z2.val hk with ⟨u1, u2⟩ | ⟨x, v, u1, u2, u3⟩
        · rw [u1] at p2; exact p2.elim
        · rw [u1] at p2
          exact ⟨_, v, rfl, .inl ⟨l, dkey kk, .inl z1, ew, u2.symm⟩, Post.val p2 rel2.rh u3⟩
/-- x.get(k, d) -/
def dgetE (f k l : ME) : ME := fun en h => (f en h).bind fun x h1 => grd ((dctAt h1 x).isSome) ((k en h1).bind fun y h2 => (l en h2).bind fun z h3 => match dctAt h3 x, dkOf y with
  | some (_, kvs), some k => .ok ((dval kvs k).getD z) h3
  | _, _ => .bad)
theorem de_dgetd {nr : Nat} {apos : Pos} (hr : Room nr X.A) (ha : DE X T E a f) (hb : DE X T E b k) (hc : DE X T E c l) (hm : M2 X a "get" apos b c pos := by exact ⟨rfl, rfl, rfl, rfl⟩) : DE X T E (.Call (.Attribute a "get" apos) [b, c] [] pos) (dgetE f k l) :=
  PE.imp (pe_dget2 (by have := hr.un; omega) ha hb hc hm) fun σ H Q ⟨m, h, en, rel, p⟩ => chain rel p fun m1 h1 H1 v d e1 rel1 rv1 p1 => by
    obtain ⟨hs, p1⟩ := Post.grd p1
    obtain ⟨⟨i, kvs⟩, q⟩ := Option.isSome_iff_exists.mp hs
    obtain ⟨rfl, hi⟩ := dctAt_ok q
    obtain ⟨l1, z1, z2⟩ := rel1.rh.obj i _ hi
    cases rv1 with
    | ref hlt =>
      refine ⟨m1 i, rfl, .inl ⟨l1, .inl z1⟩, chain rel1 p1 fun m2 h2 H2 w d2 e2 rel2 rv2 p2 => chain rel2 p2 fun m3 h3 H3 u d3 e3 rel3 rv3 p3 => ?_⟩
      cases q3 : dctAt h3 (.ref i) with
      | none => rw [q3] at p3; exact p3.elim
      | some ik =>
        obtain ⟨j, kvs3⟩ := ik
        rw [q3] at p3
        cases q2 : dkOf d2 with
        | none => rw [q2] at p3; exact p3.elim
        | some kk =>
          rw [q2] at p3
          dsimp only at p3
          obtain ⟨ej, hi3⟩ := dctAt_ok q3
          cases ej
          obtain ⟨ew, hk⟩ := dkOf_ok q2 rv2
          obtain ⟨l3, y1, y2⟩ := rel3.rh.obj i _ hi3
          have em : m3 i = m1 i := (e3.same i (Nat.lt_of_lt_of_le hlt e2.le)).trans (e2.same i hlt)
          rw [em] at y1
          rcases y2.val hk with ⟨u1, u2⟩ | ⟨x, v, u1, u2, u3⟩
          · rw [u1] at p3
            exact ⟨none, .inl ⟨l3, dkey kk, .inl y1, ew, u2.symm⟩, Post.val p3 rel3.rh rv3⟩
          · rw [u1] at p3
            exact ⟨some v, .inl ⟨l3, dkey kk, .inl y1, ew, u2.symm⟩, Post.val p3 rel3.rh u3⟩
/-- x[k] = v, x a dict -/
def dputD (x y v : D) (h : IH) : Out Unit := match dctAt h x, dkOf y with
  | some (i, kvs), some k => grd (decide (kvs.length < sizeLine)) (.ok () (h.set i (.dct (dput kvs k v))))
  | _, _ => .bad
def dsetS (fv fo fi : ME) : MS := fun en h => (fv en h).toS fun v h1 => (fo en h1).toS fun x h2 => (fi en h2).toS fun i h3 => (dputD x i v h3).toS fun _ h4 => .nx en h4
theorem ds_dset {nr : Nat} {fv fo fi : ME} {i : Expr} {ipos : Pos} (hr : Room nr X.A) (hv : DE X T E a fv) (ho : DE X T E o fo) (hi : DE X T E i fi) (hs : swapsWith a (some (.Subscript o i ipos)) pos.line X.env = pure false := by rfl) : DS X T E (.Assign [.Subscript o i ipos] a pos) (dsetS fv fo fi) :=
  PS.imp (ps_dput (by have := hr.un; omega) ho hi hv hs) fun D σ H ⟨m, h, en, rel, p⟩ => chainS rel p fun m1 h1 H1 v d e1 rel1 rv1 p1 => chainS rel1 p1 fun m2 h2 H2 ov od e2 rel2 rv2 p2 => chainS rel2 p2 fun m3 h3 H3 iv id e3 rel3 rv3 p3 => by
    unfold dputD at p3
    cases q : dctAt h3 od with
    | none => rw [q] at p3; exact p3.elim
    | some z =>
      obtain ⟨j, kvs⟩ := z
      rw [q] at p3
      cases q2 : dkOf id with
      | none => rw [q2] at p3; exact p3.elim
      | some kk =>
        rw [q2] at p3
        dsimp only at p3
        by_cases hz : kvs.length < sizeLine
        · rw [grd_of _ (decide_eq_true hz)] at p3
          obtain ⟨rfl, hj⟩ := dctAt_ok q
          obtain ⟨ew, hk⟩ := dkOf_ok q2 rv3
          obtain ⟨l3, y1, y2⟩ := rel3.rh.obj j _ hj
          cases rv2.mono e3
          have rv : Rv X.K m3 h3.length H3 v d := (rv1.mono e2).mono e3
          obtain ⟨ex, rh'⟩ := dct_store rel3.rh hj (y2.put hk rv)
          refine ⟨_, _, rfl, .inl ⟨l3, dkey kk, y1, ew, by rw [y2.length]; exact hz, rfl⟩, p3 m3 _ σ ex (rel3.next ex rh')⟩
        · rw [decide_eq_false hz] at p3
          exact p3.elim
/-- sorted(x), a dict whose keys are ints -/
def ikeys : List (DK × D) → Option (List Int) := fun kvs => optAll (fun d => match d with | .inl i => some i | .inr _ => none) (kvs.map (·.1))
theorem ikeys_ok : ∀ {kvs : List (DK × D)} {ks : List Int}, ikeys kvs = some ks → kvs.map (·.1) = ks.map Sum.inl := fun {kvs ks} e => by
  have q := optAll_ok e
  unfold ikeys at e
  clear e
  generalize kvs.map (·.1) = l at q
  induction q with
  | nil => rfl
  | cons h _ ih =>
    rename_i x y _ _ _
    rw [List.map_cons, ih]
    cases x with
    | inl i => cases h; rfl
    | inr n => cases h
def sortDD (x : D) (h : IH) : Out D := match dctAt h x with
  | some (_, kvs) => (match ikeys kvs with
    | some ks => grd (decide (ks.length < 64)) (.ok (.vl ((sortI ks).map .int)) h)
    | none => .bad)
  | none => .bad
theorem RPs.keys {K : PySem.W.Frag} {m : Mp} {n : Nat} {H : Hp} {l : List (Key × V)} {l' : List (DK × D)} (r : RPs K m n H l l') : l.map (·.1) = (l'.map (·.1)).map dkey := by
  induction r with
  | nil => rfl
  | cons h _ ih => rw [List.map_cons, List.map_cons, List.map_cons, ih, h.1]
theorem de_sortD {t : MA} {p : Pos} (hc : X.calm = true) (hm : X.mg "sorted" = none) (ha : DA X T E [e] t) (hg : Gl X "sorted" := by rfl) (he : starEach (e :: []) X.env = (false, eval e X.env) :: starEach [] X.env := by rfl) : DE X T E (.Call (.Name "sorted" p) [e] [] pos) (callB (one sortDD) t) :=
  de_callB (call_sortedDI hc) (one_ok fun m h H v d E Q rh r p => by
    unfold sortDD at p
    cases q : dctAt h d with
    | none => rw [q] at p; exact p.elim
    | some z =>
      obtain ⟨i, kvs⟩ := z
      rw [q] at p
      dsimp only at p
      cases q2 : ikeys kvs with
      | none => rw [q2] at p; exact p.elim
      | some ks =>
        rw [q2] at p
        dsimp only at p
        obtain ⟨hz, p⟩ := Post.grd p
        obtain ⟨rfl, hi⟩ := dctAt_ok q
        obtain ⟨l, y1, y2⟩ := rh.obj i _ hi
        cases r
        refine ⟨_, l, ks, rfl, .inl y1, ?_, of_decide_eq_true hz, fun ys z pm pw hq => ?_⟩
        · rw [y2.keys, ikeys_ok q2, List.map_map]
          rfl
        · rw [sortI_of pm pw]
          exact Post.vl p rh (Rvs.of_ints _) hq) hm (by decide +kernel) ha hg (by decide) (by decide) he
end
end DL

set_option Elab.async false
set_option linter.all false
set_option maxRecDepth 100000
set_option autoImplicit false
set_option maxHeartbeats 4000000
/-! sorted(set(x)), x a list of ints. -/
namespace L2
open PySem PySem.Spec PyProof.Rows
section
variable {P : Program} {w : World} {A : Around} {E : Value → Shared → Prop} {s : Shared}
/-- an empty set, as it is laid -/
abbrev oSet0 (w : World) : Obj := { cls := .type "set", dict := none, data := .set #[] 0 (.fresh 0 0 (!w.params.followText "set-order")) }
theorem set_of_list {l : Addr} {its : Array Value} (ns : List Int) {Q : Value → Shared → Prop} (hd : A.handled = none) (hl : s.heap.IsList l its) (hi : IntsAre its.toList ns) (hb : ns.length + 1 < scanBound)
    (q : ∀ (h' : Heap) (tk c : Nat), SetR w h' s.heap.objs.size (fun j => decide (j ∈ ns)) c → c ≤ ns.length → (∀ b o, s.heap.get? b = some o → h'.get? b = some o) → Q (.ref s.heap.objs.size) { s with heap := h', toks := tk }) :
    wpAny (model P w) A (call (.type "set") [.ref l]) Q E s := by
  have size1 : its.size = ns.length := by rw [← Array.length_toList]; exact IntsAre.length hi
  obtain ⟨c0, tl0, mro0⟩ := F.called_set.mro
  have made0 := F.called_set.made
  have sub0 := F.called_set.sub
  refine wpAny_call (codeAny_of_tree (show wpAny _ _ (callAny (.type "set") _) _ _ _ from wpAny_pure ⟨Code.quiet_builtin _ (by decide +kernel), codeAny_builtin F.entry_type_call ?_⟩))
  rw [Around.under_plain (weight_type_call_type "set" [.ref l] []) rfl]
  have ty0 := F.called_set.notType
  have cr0 := F.called_set.canCreate
  have tc0 := F.typeCall_set_1 (.ref l)
  repeat (any_goals (first | assumption | wp_step))
  refine codeAny_mono (code_set_led1 (.ref l) (E := E) (Q₁ := fun obj z => obj = .ref s.heap.objs.size ∧ z = { s with heap := s.heap.push (oSet0 w) }) ⟨rfl, rfl⟩) fun r z hr => ?_
  cases r with
  | error e => exact hr
  | ok fl =>
    cases fl with
    | ret obj =>
      obtain ⟨rfl, rfl⟩ := hr
      have at0 : (s.heap.push (oSet0 w)).get? s.heap.objs.size = some (oSet0 w) := Heap.get?_push_size _ rfl
      have is0 : Shared.TypeIs { s with heap := s.heap.push (oSet0 w) } (.ref s.heap.objs.size) "set" := ⟨_, at0, rfl⟩
      have il0 := F.called_set.init.lookup
      have ib0 := F.called_set.init.bind (.ref s.heap.objs.size)
      repeat (any_goals (first | assumption | wp_step))
      refine codeAny_mono (codeAny_call_builtin (R := wants (fun r y => r = .none ∧ ∃ h' tk c, y = { s with heap := h', toks := tk } ∧ SetR w h' s.heap.objs.size (fun j => decide (j ∈ ns)) c ∧ c ≤ ns.length ∧ (∀ b o, s.heap.get? b = some o → h'.get? b = some o)) E)
        F.called_set.init.plain F.entry_set_init (check_set_init_1 is0 ?_)) fun r y hr => ?_
      · obtain ⟨ol, g1, g2, g3, g4, g5⟩ := (show ∃ ol, s.heap.get? l = some ol ∧ ol.cls = .type "list" ∧ ∃ (g3 : Nat), ol.data = .seq its g3 ∧ True from by
          obtain ⟨ol, h1, h2, h3, h4⟩ := hl
          exact ⟨ol, h1, h2, h3, h4, trivial⟩)
        obtain ⟨oc, od, oda, osl⟩ := ol
        simp only at g2 g4
        subst g2
        subst g4
        have at1 : (s.heap.push (oSet0 w)).get? l = some { cls := .type "list", dict := od, data := .seq its g3, slots := osl } := Heap.get?_push_of_some _ g1
        have ss0 := F.sub_list_set
        have ss1 := F.sub_list_frozenset
        have ne0 : (Value.type "list" == Value.type "dict") = false := by decide
        have li1 : (s.heap.push (oSet0 w)).IsList l its := ⟨_, at1, rfl, g3, rfl⟩
        unfold Builtin.«set.__init__» noKeywords Builtin.Frozenset.updateFrom
        generalize hPI : pyIter = PI
        wp_walk
        subst hPI
        refine wpAny_pyIter_list li1 (wpAny_bind (wpAny_runValue ?_))
        have lt0 : l < s.heap.objs.size := Heap.lt_size g1
        have hd3 : A.in1.in1.in1.handled = none := by simp [hd]
        have ne1 : l ≠ (s.heap.push (oSet0 w)).objs.size := by
          rw [Heap.size_push]
          exact Nat.ne_of_lt (Nat.lt_succ_of_lt lt0)
        have nf : s.heap.objs.size ∉ [(s.heap.push (oSet0 w)).objs.size, l] := by
          rw [Heap.size_push]
          intro z
          rcases List.mem_cons.mp z with z | z
          · exact absurd z (Nat.ne_of_lt (Nat.lt_succ_self _))
          · exact absurd (List.mem_singleton.mp z) (Nat.ne_of_gt lt0)
        have vals : ∀ (i : Nat) (v : Value), its[i]? = some v → ∃ k t, ns[i]? = some k ∧ v = .int k t := fun i v hv => by
          have hlt : i < ns.length := by
            rw [← size1]
            exact (Array.getElem?_eq_some_iff.mp hv).1
          obtain ⟨t, e⟩ := PyProof.Rows.IntsAre.int_at hi i v (by rw [Array.getElem?_toList]; exact hv)
          exact ⟨ns[i], t, List.getElem?_eq_getElem hlt, by rw [e, List.getD_eq_getElem?_getD, List.getElem?_eq_getElem hlt] <;> rfl⟩
        refine set_update_ints ((Walks.list hd3 _ l ne1 its).toS) s.heap.objs.size nf ns size1 hb vals (its.size - 0) 0 _ (by omega) (Nat.zero_le _) ⟨⟨_, Heap.get?_push_size _ rfl, rfl, rfl⟩, (li1.push _)⟩ ⟨0, Nat.le_refl 0, setR_new_at (Heap.get?_push_of_some _ at0)⟩ ?_
        intro y c mv hc hS
        obtain ⟨h', g', d', tk', os'⟩ := y
        have eg : g' = s.gens := mv.gens
        have ed : d' = s.drawn := mv.drawn
        have eo : os' = s.os := mv.os
        subst eg ed eo
        show wpAny _ _ _ _ _ _
        refine wpAny_pure (show wpAny _ _ (ret Value.none) _ _ _ from ?_)
        rw [size1] at hc
        refine wpAny_pure ⟨rfl, h', tk', c, rfl, hS, hc, fun b o e => ?_⟩
        have b0 : b < s.heap.objs.size := Heap.lt_size e
        refine mv.heap b o (fun z => ?_) (Heap.get?_push_of_some _ (Heap.get?_push_of_some _ e))
        rcases List.mem_cons.mp z with z | z
        · exact absurd z (Nat.ne_of_lt b0)
        · rw [Heap.size_push] at z
          exact absurd (List.mem_singleton.mp z) (Nat.ne_of_lt (Nat.lt_succ_of_lt b0))
      · cases r with
        | error e => exact hr
        | ok f2 =>
          cases f2 with
          | ret r =>
            obtain ⟨rfl, h', tk, c, rfl, hS, hc, hk⟩ := hr
            repeat (any_goals (first | assumption | wp_step))
            exact q _ _ _ hS hc hk
          | _ => exact hr.elim
    | _ => exact hr.elim
end
end L2
namespace DL
open PySem PySem.Spec PyProof.Rows L2
section
variable {X : Cx} {T : List (Addr × Str)} {E : XK} {a b c e o : Expr} {es rest : List Expr} {pos : Pos} {f k l : ME}
def rSetL (K : PySem.W.Frag) (w : World) : List V → Hp → VK → Prop := fun xs H Q => ∃ (a : Addr) (ns : List Int), xs = [.ref a] ∧ SqL K H a (ns.map V.int) ∧ ns.length < 64 ∧ ∀ p c, H p = none → c ≤ ns.length → Q (.ref p) (upd H p (SetO w p (fun j => decide (j ∈ ns)) c))
theorem cr_setL (hc : X.calm = true) : CallR X (.type "set") (rSetL X.K X.w) := by
  intro pins s σ H vs us Q I r h
  obtain ⟨a, ns, rfl, hs, hz, q⟩ := h
  have eu := r.ref1
  subst eu
  obtain ⟨its, rv, pl, _⟩ := I.list hs
  refine set_of_list ns (I.ok.hd hc) pl.isList (by simpa using rv.ints) (by unfold scanBound; omega) fun h' tk c R hcn hk => ?_
  have n0 : s.heap.get? s.heap.objs.size = none := by
    cases z : s.heap.get? s.heap.objs.size with
    | none => rfl
    | some o => exact absurd (Heap.lt_size z) (Nat.lt_irrefl _)
  exact ⟨.ref s.heap.objs.size, _, inv_new (t' := tk) I hk n0 (I.hok.fresh (Nat.le_refl _)) (setO_new R), rfl, q _ c (I.hok.fresh (Nat.le_refl _)) hcn⟩
/-- sorted(set(x)), a list of ints -/
def sortSetD (x : D) (h : IH) : Out D := match getL h x with
  | some xs => (match asIs xs with
    | some ns => grd (decide (ns.length < 64)) (.ok (.vl ((sortU ns).map .int)) h)
    | none => .bad)
  | none => .bad
theorem NT.ext {φ : Heap → Prop} : NT (.ext φ) := fun _ z => by cases z
theorem de_sortSet {p p2 pos2 : Pos} (hc : X.calm = true) (hm : X.mg "sorted" = none) (hm2 : X.mg "set" = none) (ha : DE X T E e f) (hg : Gl X "sorted" := by rfl) (hg2 : Gl X "set" := by rfl) (he : starEach (e :: []) X.env = (false, eval e X.env) :: starEach [] X.env := by rfl)
    (he2 : starEach [.Call (.Name "set" p2) [e] [] pos2] X.env = (false, eval (.Call (.Name "set" p2) [e] [] pos2) X.env) :: starEach [] X.env := by rfl) :
    DE X T E (.Call (.Name "sorted" p) [.Call (.Name "set" p2) [e] [] pos2] [] pos) (op1 sortSetD f) :=
  PE.imp (pe_callB (cr_sortedSet hc) hg hm (by decide +kernel) (pa_cons (pe_callTy (cr_setL hc) hg2 hm2 (by decide +kernel) (pa_cons ha pa_nil he) (by decide) (by decide) he) pa_nil he2) (by decide) (by decide) he2) fun σ H Q ⟨m, h, en, rel, p⟩ => chain rel p fun m1 h1 H1 v d e1 rel1 rv1 p1 => by
    unfold sortSetD at p1
    cases e : getL h1 d with
    | none => rw [e] at p1; exact p1.elim
    | some xs =>
      rw [e] at p1
      cases e2 : asIs xs with
      | none => dsimp only at p1; rw [e2] at p1; exact p1.elim
      | some ns =>
        dsimp only at p1
        rw [e2] at p1
        dsimp only at p1
        obtain ⟨hz, p1⟩ := Post.grd p1
        have hz := of_decide_eq_true hz
        obtain ⟨a, vs, rfl, s, r2⟩ := getL_ok rel1.rh rv1 e
        rw [asIs_ok e2] at r2
        rw [r2.ints] at s
        refine ⟨a, ns, rfl, s, hz, fun q c hq hcn => ⟨q, _, c, rfl, upd_same, by omega, fun ns' y z1 z2 z3 hy => ?_⟩⟩
        have e3 : ns' = sortU ns := sortU_of (fun x => by rw [z2 x, decide_eq_true_iff]) z1
        rw [e3]
        have ex1 := Ex.fresh (m := m1) (n := h1.length) (o := SetO X.w q (fun j => decide (j ∈ ns)) c) hq NT.ext
        have rh1 := rel1.rh.fresh (o := SetO X.w q (fun j => decide (j ∈ ns)) c) hq NT.ext
        exact p1 m1 _ _ (ex1.trans (Ex.fresh hy NT.lst)) (rh1.fresh hy NT.lst) (.vl upd_same (rh1.off hy) (Rvs.of_ints _))
end
end DL

set_option Elab.async false
set_option linter.all false
set_option maxRecDepth 100000
set_option autoImplicit false
set_option maxHeartbeats 1000000
/-! Instances: fields stored, methods called, instances made. -/
namespace DL
open PySem PySem.Spec PyProof.Rows L2
/-! ### fields -/
def gFld (K : PySem.W.Frag) (ta : TE) (f : Str) : TG := fun v σ H Q => ta σ H fun x H1 => ∃ a C dx fs, x = .ref a ∧ H1 a = some (.ins C dx fs) ∧ Cls K C ∧ NoAttr K C f ∧ fs.length < 1000 ∧ Q σ (upd H1 a (.ins C dx (putF f v fs)))
theorem pg_fld {X : Cx} {o : Expr} {f : Str} {pos : Pos} {ta : TE} (ho : PE X o ta) : PG X (.Attribute o f pos) (gFld X.K ta f) := by
  refine ⟨fun pins s σ H v u Q I r h => ?_⟩
  rw [assign_Attribute]
  refine wpAny_bind (wpAny_holding (thn (ho.run pins s σ H _ I h) fun ov s1 hh => ?_))
  obtain ⟨x, H1, I1, rx, a, C, dx, fs, rfl, ea, c, n, l, q⟩ := hh
  have eo : ov = Value.ref a := rx
  subst eo
  refine wpAny_bind (wpAny_standAt (wpAny_bind (wpAny_holding (setattr_ok I1 ea c n l r fun s3 I3 => ?_))))
  exact wpAny_release ⟨σ, _, I3, q⟩
def putFD (j : Nat) (v : D) (fs : List D) : Option (List D) := if j < fs.length then some (fs.set j v) else if j = fs.length then some (fs ++ [v]) else none
theorem putF_names {x : Str} {v : V} : ∀ {fvs : List (Str × V)} {ns : List Str} {j k : Nat}, fvs.map (·.1) = ns.take k → fvs.length = k → ns.Nodup → ns[j]? = some x →
    (j < k → (putF x v fvs).map (·.1) = ns.take k ∧ (putF x v fvs).map (·.2) = (fvs.map (·.2)).set j v) ∧ (j = k → (putF x v fvs).map (·.1) = ns.take (k + 1) ∧ (putF x v fvs).map (·.2) = fvs.map (·.2) ++ [v])
  | [], ns, j, k, h1, h2, nd, hx => by
    have hk : k = 0 := by simpa using h2.symm
    subst hk
    refine ⟨fun z => absurd z (Nat.not_lt_zero _), fun z => ?_⟩
    subst z
    cases ns with
    | nil => simp at hx
    | cons y ns =>
      simp at hx
      subst hx
      simp [putF]
  | (y, w) :: fvs, ns, j, k, h1, h2, nd, hx => by
    cases k with
    | zero => simp at h2
    | succ k =>
      cases ns with
      | nil => simp at hx
      | cons z ns =>
        rw [List.map_cons, List.take_succ_cons, List.cons.injEq] at h1
        have e1 : y = z := h1.1
        subst e1
        have nd' := List.nodup_cons.mp nd
        cases j with
        | zero =>
          simp at hx
          subst hx
          refine ⟨fun _ => ?_, fun z => by omega⟩
          have e : putF y v ((y, w) :: fvs) = (y, v) :: fvs := by simp [putF]
          rw [e]
          refine ⟨by rw [List.map_cons, List.take_succ_cons, h1.2], rfl⟩
        | succ j =>
          simp at hx
          have hne : ¬ y = x := fun q => nd'.1 (by rw [q]; exact List.mem_of_getElem? hx)
          have e : putF x v ((y, w) :: fvs) = (y, w) :: putF x v fvs := by simp [putF, hne]
          obtain ⟨i1, i2⟩ := putF_names (v := v) h1.2 (by simpa using h2) nd'.2 hx
          rw [e]
          refine ⟨fun hj => ?_, fun hj => ?_⟩
          · obtain ⟨a1, a2⟩ := i1 (by omega)
            exact ⟨by rw [List.map_cons, a1, List.take_succ_cons], by rw [List.map_cons, a2, List.map_cons, List.set_cons_succ]⟩
          · obtain ⟨a1, a2⟩ := i2 (by omega)
            exact ⟨by rw [List.map_cons, a1, List.take_succ_cons], by rw [List.map_cons, a2, List.map_cons, List.cons_append]⟩
theorem flds_len (c : Nat) : (flds c).length ≤ 6 := by
  unfold flds
  split <;> simp
def fputD (c j : Nat) (x v : D) (h : IH) : Out Unit := match insAt h c x with
  | some (i, fs) => (match putFD j v fs with
    | some fs' => .ok () (h.set i (.ins c fs'))
    | none => .bad)
  | none => .bad
def fldG (c j : Nat) (fo : ME) : MG := fun d en h => (fo en h).bind fun x h1 => (fputD c j x d h1).bind fun _ h2 => .ok en h2
theorem ins_store {g : G} {m : Mp} {h : IH} {H : Hp} {i c j : Nat} {fs fs' : List D} {x : Str} {v : V} {d : D} {C dx : Addr} {fvs : List (Str × V)} (rh : RH g m h H) (hi : h[i]? = some (.ins c fs)) (ha : H (m i) = some (.ins C dx fvs)) (hm : g.mg (cnm c) = some (.ref C)) (hn : fvs.map (·.1) = (flds c).take fs.length) (hr : Rvs g.K m h.length H (fvs.map (·.2)) fs)
    (hx : (flds c)[j]? = some x) (rv : Rv g.K m h.length H v d) (e : putFD j d fs = some fs') : Ex m h.length H m (h.set i (.ins c fs')).length (upd H (m i) (.ins C dx (putF x v fvs))) ∧ RH g m (h.set i (.ins c fs')) (upd H (m i) (.ins C dx (putF x v fvs))) := by
  have hl : i < h.length := (List.getElem?_eq_some_iff.mp hi).1
  have ex := Ex.store (o := .ins C dx (putF x v fvs)) rh hl NT.ins
  have hlen : fvs.length = fs.length := by have := hr.length; rw [List.length_map] at this; exact this
  obtain ⟨p1, p2⟩ := putF_names (v := v) hn hlen (flds_nd c) hx
  refine ⟨by rw [List.length_set]; exact ex, rh.store hl NT.ins (fun _ => rh.fz1 i _ hi (fun _ z => by cases z)) ?_⟩
  unfold putFD at e
  split at e
  · rename_i hj
    cases e
    obtain ⟨q1, q2⟩ := p1 hj
    exact ⟨C, dx, _, upd_same, hm, by rw [q1, List.length_set], by rw [q2]; exact (hr.set rv j).mono ex⟩
  · split at e
    · rename_i hj
      cases e
      obtain ⟨q1, q2⟩ := p2 hj
      exact ⟨C, dx, _, upd_same, hm, by rw [q1, List.length_append, List.length_singleton], by rw [q2]; exact (hr.append (.cons rv .nil)).mono ex⟩
    · cases e
section
variable {X : Cx} {T : List (Addr × Str)} {E : XK} {a b c e o : Expr} {es rest : List Expr} {pos : Pos} {f k l : ME}
theorem dg_fld (c j : Nat) {x : Str} (C : ClOk X.K X.mg c) (ho : ∀ E, DE X T E o f) (hne : ∀ en h c' h', f en h ≠ .err c' h') (hx : (flds c)[j]? = some x := by rfl) : DG X T (.Attribute o x pos) (fldG c j f) :=
  PG.imp (pg_fld (ho (fun _ _ _ => False))) fun v σ H Q ⟨m, h, en, d, rel, rv, p⟩ => by
    refine ⟨m, h, en, rel, ?_⟩
    unfold fldG at p
    cases q0 : f en h with
    | bad => rw [q0] at p; exact p.elim
    | err c' h' => exact absurd q0 (hne en h c' h')
    | ok y h1 =>
      rw [q0, Out.bind_ok] at p
      intro m1 H1 u ex1 rh1 ru
      unfold fputD at p
      cases q : insAt h1 c y with
      | none => rw [q] at p; exact p.elim
      | some r =>
        obtain ⟨i, fs⟩ := r
        rw [q] at p
        dsimp only at p
        cases q2 : putFD j d fs with
        | none => rw [q2] at p; exact p.elim
        | some fs' =>
          rw [q2] at p
          obtain ⟨rfl, q3⟩ := insAt_ok q
          obtain ⟨C1, dx, fvs, z1, z2, z3, z4⟩ := rh1.obj i _ q3
          obtain ⟨C2, y1, y2, y3⟩ := C.ex
          have eC : some (Value.ref C1) = some (Value.ref C2) := z2.symm.trans y1
          cases eC
          cases ru
          have rel1 := rel.next ex1 rh1
          obtain ⟨ex2, rh2⟩ := ins_store rh1 q3 z1 z2 z3 z4 hx (rv.mono ex1) q2
          have hlen : fvs.length ≤ 6 := by
            have h1 := congrArg List.length z3
            rw [List.length_map, List.length_take] at h1
            have := flds_len c
            omega
          exact ⟨_, C1, dx, fvs, rfl, z1, y2, y3 x (List.mem_of_getElem? hx), by omega, p m1 _ σ (ex1.trans ex2) (rel1.next ex2 rh2)⟩
/-! ### methods -/
/-- a method as it may be called -/
def MetF (P : Program) (w : World) (K : PySem.W.Frag) (mg : Str → Option Value) (base : Heap) (T : List (Addr × Str)) (c : Nat) (m : Str) (k n : Nat) (F : List D → IH → Out D) : Prop :=
  ∃ C f fd ps, ps.length = n ∧ mg (cnm c) = some (.ref C) ∧ Cls K C ∧ Meth K C m f ∧ Binds K fd ps [] ∧ FnOk P w K mg base (L2N.CX P w) k f fd ps (SpOf ⟨K, mg, T⟩ n F) ∧ m ∉ flds c
def metE (c n : Nat) (F : List D → IH → Out D) (f : ME) (t : MA) : ME := fun en h => (f en h).bind fun x h1 => grd ((insAt h1 c x).isSome) ((t en h1).bind fun ds h2 => grd (decide (ds.length + 1 = n)) (F (x :: ds) h2))
theorem lookup_no {x : Str} : ∀ {fvs : List (Str × V)}, x ∉ fvs.map (·.1) → fvs.lookup x = none
  | [], _ => rfl
  | (y, v) :: fvs, h => by
    rw [List.map_cons, List.mem_cons] at h
    have hne : (x == y) = false := beq_eq_false_iff_ne.mpr fun z => h (.inl z)
    simp only [List.lookup, hne]
    exact lookup_no fun z => h (.inr z)
theorem ins_at {g : G} {m : Mp} {h : IH} {H : Hp} {c : Nat} {v : V} {d : D} {C : Addr} {nm : Str} (rh : RH g m h H) (rv : Rv g.K m h.length H v d) (e : (insAt h c d).isSome = true) (hm : g.mg (cnm c) = some (.ref C)) (hn : nm ∉ flds c) : ∃ a dx fs, v = .ref a ∧ H a = some (.ins C dx fs) ∧ fs.lookup nm = none := by
  obtain ⟨⟨i, fs⟩, q⟩ := Option.isSome_iff_exists.mp e
  obtain ⟨rfl, hi⟩ := insAt_ok q
  obtain ⟨C1, dx, fvs, z1, z2, z3, z4⟩ := rh.obj i _ hi
  have eC := z2.symm.trans hm
  cases eC
  cases rv
  refine ⟨_, dx, fvs, rfl, z1, lookup_no fun z => hn ?_⟩
  rw [z3] at z
  exact List.mem_of_mem_take z
theorem de_meth {c : Nat} {m : Str} {k n : Nat} {F : List D → IH → Out D} {t : MA} {apos : Pos} {pl : Sem Bool} (G : MetF X.prog X.w X.K X.mg X.base T c m k n F) (hr : Room k X.A) (tk : Tk X E) (ho : DE X T E o f) (ha : DA X T E (e :: es) t)
    (hst : starEach (e :: es) X.env = (false, eval e X.env) :: starEach es X.env := by rfl) (hpl : (backTo pos (starEach es X.env)).any (·.1) = false := by rfl)
    (ht : eval (.Call (.Attribute o m apos) (e :: es) [] pos) X.env = (do
      let ov ← eval o X.env
      standAt apos.atName
      let (f, first) ← holding [ov] (getMethod ov m pl)
      callWith pos f first (backTo pos (starEach (e :: es) X.env)) (backToKw pos (keywordEach [] X.env))) := by rfl) :
    DE X T E (.Call (.Attribute o m apos) (e :: es) [] pos) (metE c n F f t) := by
  obtain ⟨C, g, fd, ps, hn, hm, hc, hme, hb, G, hnf⟩ := G
  refine PE.imp (pe_meth (E := E) (pl := pl) ho hc hme G hr hb .nil (L2N.passes_call tk fun _ _ _ _ h => h) ha hst hpl ht) fun σ H Q ⟨m1, h, en, rel, p⟩ => chain rel p fun m1 h1 H1 v d e1 rel1 rv1 p1 => ?_
  obtain ⟨hs, p1⟩ := Post.grd p1
  obtain ⟨a, dx, fs, rfl, z1, z2⟩ := ins_at rel1.rh rv1 hs hm hnf
  refine ⟨a, dx, fs, rfl, z1, z2, chain rel1 p1 fun m2 h2 H2 vs ds e2 rel2 rv2 p2 => ?_⟩
  obtain ⟨hc2, p2⟩ := Post.grd p2
  rw [List.append_nil]
  exact ⟨by rw [List.length_cons, rv2.length]; exact of_decide_eq_true hc2, m2, h2, d :: ds, rel2.rh, .cons (rv1.mono e2) rv2, p2⟩
theorem de_meth0 {c : Nat} {m : Str} {k : Nat} {F : List D → IH → Out D} {apos : Pos} {pl : Sem Bool} (G : MetF X.prog X.w X.K X.mg X.base T c m k 1 F) (hr : Room k X.A) (tk : Tk X E) (ho : DE X T E o f)
    (ht : eval (.Call (.Attribute o m apos) [] [] pos) X.env = (do
      let ov ← eval o X.env
      standAt apos.atName
      let (f, first) ← holding [ov] (getMethod ov m pl)
      callWith pos f first (backTo pos (starEach [] X.env)) (backToKw pos (keywordEach [] X.env))) := by rfl) :
    DE X T E (.Call (.Attribute o m apos) [] [] pos) (metE c 1 F f nilA) := by
  obtain ⟨C, g, fd, ps, hn, hm, hc, hme, hb, G, hnf⟩ := G
  refine PE.imp (pe_meth0 (E := E) (pl := pl) ho hc hme G hr hb .nil (L2N.passes_call tk fun _ _ _ _ h => h) ht) fun σ H Q ⟨m1, h, en, rel, p⟩ => chain rel p fun m1 h1 H1 v d e1 rel1 rv1 p1 => ?_
  obtain ⟨hs, p1⟩ := Post.grd p1
  obtain ⟨a, dx, fs, rfl, z1, z2⟩ := ins_at rel1.rh rv1 hs hm hnf
  exact ⟨a, dx, fs, rfl, z1, z2, rfl, m1, h1, [d], rel1.rh, .cons rv1 .nil, p1⟩
/-! ### making -/
def MakF (P : Program) (w : World) (K : PySem.W.Frag) (mg : Str → Option Value) (base : Heap) (T : List (Addr × Str)) (c : Nat) (k n : Nat) (F : List D → IH → Out D) : Prop :=
  ∃ C f fd ps, ps.length = n ∧ mg (cnm c) = some (.ref C) ∧ Mk K C f ∧ Binds K fd ps [] ∧ FnOk P w K mg base (L2N.CX P w) k f fd ps (SpOf ⟨K, mg, T⟩ n F)
def mkD (F : List D → IH → Out D) (c : Nat) (ds : List D) (h : IH) : Out D := match F (.ref h.length :: ds) (h ++ [.ins c []]) with
  | .ok .non h' => .ok (.ref h.length) h'
  | .err c h' => .err c h'
  | _ => .bad
def makE (c n : Nat) (F : List D → IH → Out D) (t : MA) : ME := fun en h => (t en h).bind fun ds h1 => grd (decide (ds.length + 1 = n)) (mkD F c ds h1)
theorem mk_post {g : G} {m : Mp} {h : IH} {H : Hp} {Q : VK} {c n : Nat} {C x dx : Addr} {vs : List V} {ds : List D} {F : List D → IH → Out D} (rh : RH g m h H) (rv : Rvs g.K m h.length H vs ds) (hm : g.mg (cnm c) = some (.ref C)) (hx : H x = none) (hd : H dx = none) (hne : dx ≠ x) (hl : ds.length + 1 = n)
    (p : Post (Rv g.K) g m h.length H E Q (mkD F c ds h)) : SpOf g n F (.ref x :: vs) (upd (upd H dx (.own x)) x (.ins C dx [])) (fun v H2 => v = .non ∧ Q (.ref x) H2) E := by
  have hk : ∀ a o, H a = some o → upd (upd H dx (.own x)) x (.ins C dx []) a = some o := fun a o e => by rw [upd_ne (ne_of_none e hx), upd_ne (ne_of_none e hd)]; exact e
  have ex : Ex m h.length H (put m h.length x) (h ++ [O.ins c []]).length (upd (upd H dx (.own x)) x (.ins C dx [])) := by
    rw [List.length_append, List.length_singleton]
    exact Ex.alloc hx hk
  have rh2 : RH g (put m h.length x) (h ++ [O.ins c []]) (upd (upd H dx (.own x)) x (.ins C dx [])) := rh.alloc hx hk ⟨C, dx, [], upd_same, hm, by simp, .nil⟩
  have hr : Rv g.K (put m h.length x) (h ++ [O.ins c []]).length (upd (upd H dx (.own x)) x (.ins C dx [])) (.ref x) (.ref h.length) := by
    have z : Rv g.K (put m h.length x) (h ++ [O.ins c []]).length (upd (upd H dx (.own x)) x (.ins C dx [])) (.ref (put m h.length x h.length)) (.ref h.length) := .ref (by simp)
    rw [put_same] at z
    exact z
  refine ⟨by rw [List.length_cons, rv.length]; exact hl, put m h.length x, h ++ [.ins c []], .ref h.length :: ds, rh2, .cons hr (rv.mono ex), ?_⟩
  unfold mkD at p
  cases e : F (.ref h.length :: ds) (h ++ [.ins c []]) with
  | bad => rw [e] at p; exact p.elim
  | err c' h' =>
    rw [e] at p
    exact fun m' H' C' a b z => p m' H' C' (ex.trans a) b z
  | ok d h' =>
    rw [e] at p
    cases d with
    | non =>
      intro m' H' v a b z
      cases z
      refine ⟨rfl, p m' H' _ (ex.trans a) b ?_⟩
      have hlt : h.length < (h ++ [O.ins c []]).length := by simp
      have e2 := a.same h.length hlt
      rw [put_same] at e2
      rw [← e2]
      exact .ref (Nat.lt_of_lt_of_le hlt a.le)
    | _ => exact p.elim
theorem de_make (c : Nat) {k n : Nat} {F : List D → IH → Out D} {t : MA} {x : Str} {p : Pos} (G : MakF X.prog X.w X.K X.mg X.base T c k n F) (hr : Room (k + 1) X.A) (tk : Tk X E) (ha : DA X T E (e :: es) t) (hxc : x = cnm c := by rfl) (hg : Gl X x := by rfl) (hdb : (x == ("__debug__" : Str)) = false := by decide)
    (he : starEach (e :: es) X.env = (false, eval e X.env) :: starEach es X.env := by rfl) (hpl : (backTo pos (starEach es X.env)).any (·.1) = false := by rfl) : DE X T E (.Call (.Name x p) (e :: es) [] pos) (makE c n F t) := by
  obtain ⟨C, g, fd, ps, hn, hm, hk, hb, G⟩ := G
  subst hxc
  refine PE.imp (pe_make (E := E) hk G hr hg hm hb .nil (L2N.passes_call tk fun _ _ _ _ h => h) ha hdb he hpl) fun σ H Q ⟨m, h, en, rel, p⟩ => chain rel p fun m1 h1 H1 v d e1 rel1 rv1 p1 => ?_
  obtain ⟨hc, p1⟩ := Post.grd p1
  intro x dx hx hd hne
  rw [List.append_nil]
  exact mk_post rel1.rh rv1 hm hx hd hne (of_decide_eq_true hc) p1
theorem de_make0 (c : Nat) {k : Nat} {F : List D → IH → Out D} {x : Str} {p : Pos} (G : MakF X.prog X.w X.K X.mg X.base T c k 1 F) (hr : Room (k + 1) X.A) (tk : Tk X E) (hxc : x = cnm c := by rfl) (hg : Gl X x := by rfl) (hdb : (x == ("__debug__" : Str)) = false := by decide) : DE X T E (.Call (.Name x p) [] [] pos) (makE c 1 F nilA) := by
  obtain ⟨C, g, fd, ps, hn, hm, hk, hb, G⟩ := G
  subst hxc
  refine PE.imp (pe_make0 (E := E) hk G hr hg hm hb .nil (L2N.passes_call tk fun _ _ _ _ h => h) hdb) fun σ H Q ⟨m, h, en, rel, p⟩ => ?_
  intro x dx hx hd hne
  exact mk_post rel.rh .nil hm hx hd hne rfl p
end
end DL

set_option Elab.async false
set_option linter.all false
set_option maxRecDepth 100000
set_option autoImplicit false
set_option maxHeartbeats 1000000
/-! Lists of any things asked whether they are empty; dicts copied, asked, popped; list(range()), max, min, pop(i), extend, clear. -/
namespace PySem.SeqAt
open AutoSeq1 (wpAny_loadPart')
open MeetsSeq MeetsSeq2 MeetsSeq3 SeqRoads2
section
variable {prog : Program} {w : World}
theorem list_sizes_in (l b : Addr) (xs ys : Array Value) (n n2 : Nat) (dd dd2 : Option Addr) (sl sl2 : Array (Option Value)) (hz : xs.size ≠ ys.size) :
    MeetsIn prog w (Builtin.«list.__eq__» ⟨[.ref l, .ref b], []⟩)
      (fun A R s => s.heap.get? l = some { cls := .type "list", dict := dd, data := .seq xs n, slots := sl } ∧ s.heap.get? b = some { cls := .type "list", dict := dd2, data := .seq ys n2, slots := sl2 } ∧ R (.ok (.ret (.bool false))) s) := by
  intro A R s h
  obtain ⟨hp, g, d, tk, os⟩ := s
  obtain ⟨h1, h2, h⟩ := h
  have f3 := AutoSeq1.sub_list_list
  have hne : (xs.size != ys.size) = true := by simp [hz]
  wp_walk using wpAny_loadPart' h1, wpAny_loadPart' h2
  exact h
theorem rc_sizes {A : Around} {s : Shared} {l b : Addr} {xs ys : Array Value} (h1 : s.heap.IsList l xs) (h2 : s.heap.IsList b ys) (hz : xs.size ≠ ys.size) (hu : A.units < cLine) (E Q : Value → Shared → Prop) (h : Q (.bool false) s) : wpAny (model prog w) A (richCompare .Eq (.ref l) (.ref b)) Q E s := by
  obtain ⟨⟨c1, dd, d1, sl⟩, ho, hc, n, hd⟩ := id h1
  obtain ⟨⟨c2, dd2, d2, sl2⟩, ho2, hc2, n2, hd2⟩ := id h2
  simp only at hc hd hc2 hd2
  subst hc hd hc2 hd2
  have ta : s.TypeIs (.ref l) "list" := ⟨_, ho, rfl⟩
  have tb : s.TypeIs (.ref b) "list" := ⟨_, ho2, rfl⟩
  exact wpAny_richCompare_same_room (op := .Eq) ta tb F.slot_list_eq (call_meetsIn F.slot_list_eq ta F.entry_list_eq (F.args_list_eq_2 _ _) (list_sizes_in l b xs ys n n2 dd dd2 sl sl2 hz)
    ⟨ho, ho2, show Value.bool false ≠ Value.notImplemented ∧ Q (.bool false) s from ⟨(fun x => nomatch x), h⟩⟩) hu
end
end PySem.SeqAt
namespace DL
open PySem PySem.Spec PyProof.Rows L2
section
variable {X : Cx} {T : List (Addr × Str)} {E : XK} {a b c e o : Expr} {es rest : List Expr} {pos : Pos} {f k l : ME}
/-- x == [], the things of x may be any -/
theorem op_eqNil {n : Nat} (hr : Room n X.A) : OpR X (compareOp .Eq) (fun x y H Q => ∃ p q xs, x = .ref p ∧ y = .ref q ∧ SqL X.K H p xs ∧ SqL X.K H q [] ∧ Q (.bl xs.isEmpty) H) := by
  intro pins s σ H x y v u Q I rx ry h
  obtain ⟨p, q, xs, rfl, rfl, hp, hq, hQ⟩ := h
  cases rx
  cases ry
  obtain ⟨us, r1, p1, _⟩ := I.list hp
  obtain ⟨ws, r2, p2, _⟩ := I.list hq
  cases r2
  have hu : X.A.units < cLine := by have := hr.un; omega
  cases xs with
  | nil =>
    cases r1
    refine SeqAt.rcP_lists (e := fun _ => true) p1.isList p2.isList rfl hu (fun j h1 _ => absurd h1 (Nat.not_lt_zero j)) _ _ ?_
    exact ⟨.bl true, H, I, rfl, hQ⟩
  | cons z zs =>
    refine SeqAt.rc_sizes p1.isList p2.isList ?_ hu _ _ ?_
    · have := r1.length
      rw [List.size_toArray, ← this]
      simp
    · exact ⟨.bl false, H, I, rfl, hQ⟩
def eqNilD : D → D → IH → Out D := fun x y h => match getL h x, getL h y with
  | some xs, some [] => .ok (.bl xs.isEmpty) h
  | _, _ => .bad
theorem cr_eqNil {n : Nat} (hr : Room n X.A) : CmpRule X T .Eq eqNilD := ⟨_, op_eqNil hr, fun m h H x y dx dy E Q rh rx ry p => by
  unfold eqNilD at p
  cases q : getL h dx with
  | none => rw [q] at p; exact p.elim
  | some xs =>
    rw [q] at p
    cases q2 : getL h dy with
    | none => rw [q2] at p; exact p.elim
    | some ys =>
      rw [q2] at p
      cases ys with
      | cons _ _ => exact p.elim
      | nil =>
        obtain ⟨a1, vs, rfl, s1, r1⟩ := getL_ok rh rx q
        obtain ⟨a2, ws, rfl, s2, r2⟩ := getL_ok rh ry q2
        cases r2
        refine ⟨a1, a2, vs, rfl, rfl, s1, s2, ?_⟩
        have e : vs.isEmpty = xs.isEmpty := by cases r1 <;> rfl
        rw [e]
        exact Post.val p rh (.bl _)⟩
/-! ### dicts -/
def dcopyD (x : D) (h : IH) : Out D := match dctAt h x with
  | some (_, kvs) => .ok (.ref h.length) (h ++ [.dct kvs])
  | none => .bad
theorem de_dcopy {t : MA} {p : Pos} (hm : X.mg "dict" = none) (ha : DA X T E [e] t) (hg : Gl X "dict" := by rfl) (he : starEach (e :: []) X.env = (false, eval e X.env) :: starEach [] X.env := by rfl) : DE X T E (.Call (.Name "dict" p) [e] [] pos) (callB (one dcopyD) t) :=
  de_callTy call_dictD (one_ok fun m h H v d E Q rh r p => by
    unfold dcopyD at p
    cases q : dctAt h d with
    | none => rw [q] at p; exact p.elim
    | some z =>
      obtain ⟨i, kvs⟩ := z
      rw [q] at p
      obtain ⟨rfl, hi⟩ := dctAt_ok q
      obtain ⟨l, y1, y2⟩ := rh.obj i _ hi
      cases r
      refine ⟨_, l, rfl, .inl y1, fun q hq => ?_⟩
      have hl : (h ++ [O.dct kvs]).length = h.length + 1 := by simp
      have hk := upd_keeps (o := .dK l) hq
      have ex : Ex m h.length H (put m h.length q) (h ++ [O.dct kvs]).length (upd H q (.dK l)) := by rw [hl]; exact Ex.alloc hq hk
      refine p (put m h.length q) _ _ ex (rh.alloc hq hk ⟨l, upd_same, ?_⟩) ?_
      · rw [← hl]; exact y2.mono ex
      · have z : Rv X.K (put m h.length q) (h ++ [O.dct kvs]).length (upd H q (.dK l)) (.ref (put m h.length q h.length)) (.ref h.length) := .ref (by rw [hl]; omega)
        rw [put_same] at z
        exact z) hm (by decide +kernel) ha hg (by decide) (by decide) he
end
end DL

set_option Elab.async false
set_option linter.all false
set_option maxRecDepth 100000
set_option autoImplicit false
set_option maxHeartbeats 1000000
/-! Methods as the printed texts give them; tuples joined, the left one empty too. -/
namespace DL
open PySem PySem.Spec PyProof.Rows L2
def DefM (K : PySem.W.Frag) (mg : Str → Option Value) (c : Nat) (m q : Str) (st : Stmt) : Prop := ∃ C f fd, mg (cnm c) = some (.ref C) ∧ Cls K C ∧ Meth K C m f ∧ FunD K m q (defArgs st) (defBody st) (defScope st) [] [] f fd
def DefI (K : PySem.W.Frag) (mg : Str → Option Value) (c : Nat) (q : Str) (st : Stmt) : Prop := ∃ C f fd, mg (cnm c) = some (.ref C) ∧ Mk K C f ∧ FunD K "__init__" q (defArgs st) (defBody st) (defScope st) [] [] f fd
theorem varE_ne {i : Nat} : ∀ (en : En) (h : IH) (c' : Nat) (h' : IH), varE i en h ≠ .err c' h' := fun en h c' h' z => by
  unfold varE at z
  split at z <;> cases z
theorem fld_ne {c j : Nat} {f : ME} (hf : ∀ (en : En) (h : IH) (c' : Nat) (h' : IH), f en h ≠ .err c' h') : ∀ (en : En) (h : IH) (c' : Nat) (h' : IH), op1 (fldD c j) f en h ≠ .err c' h' := fun en h c' h' z => by
  have z : (f en h).bind (fldD c j) = .err c' h' := z
  cases q : f en h with
  | ok x h1 =>
    rw [q, Out.bind_ok] at z
    unfold fldD at z
    split at z
    · split at z <;> cases z
    · cases z
  | err c2 h2 => exact hf _ _ _ _ q
  | bad => rw [q] at z; cases z
theorem cl_ok {K : PySem.W.Frag} {mg : Str → Option Value} {c : Nat} {x : Str} (g : mg x = some (.ref (He.ga K x))) (h : Cls K (He.ga K x)) (hn : ∀ f ∈ flds c, (He.Fa.noat x f).ok K = true) (hx : x = cnm c := by rfl) : ClOk K mg c := by
  subst hx
  exact ⟨_, g, h, fun f hf => He.noat_ok (hn f hf)⟩
end DL

set_option Elab.async false
set_option linter.all false
set_option maxRecDepth 100000
set_option autoImplicit false
set_option maxHeartbeats 1000000
/-! The heap cut back; dicts walked while they stand still; dicts asked, popped. -/
namespace DL
open PySem PySem.Spec PyProof.Rows L2
/-! ### the heap is cut back -/
def clo (n : Nat) (o : Option D) : Option D := match o with
  | some d => if clB n d then some d else none
  | none => none
theorem clo_some {n : Nat} {o : Option D} {d : D} (e : clo n o = some d) : o = some d ∧ clB n d = true := by
  cases o with
  | none => cases e
  | some x =>
    unfold clo at e
    dsimp only at e
    split at e
    · rename_i hx
      cases e
      exact ⟨rfl, hx⟩
    · cases e
def cutS (b : MS) : MS := fun en h => match b en h with
  | .nx en' h' => if h'.take h.length = h then .nx (en'.map (clo h.length)) h else .bad
  | .ct en' h' => if h'.take h.length = h then .ct (en'.map (clo h.length)) h else .bad
  | .bk en' h' => if h'.take h.length = h then .bk (en'.map (clo h.length)) h else .bad
  | .rt d h' => if h'.take h.length = h then (if clB h.length d then .rt d h else .bad) else .bad
  | .err c h' => if h'.take h.length = h then .err c h else .bad
  | .bad => .bad
theorem Rel.cut {g : G} {m m' : Mp} {h h' : IH} {σ σ' : L2.St} {en en' : En} {H H' : Hp} (r : Rel g m h σ en H) (r' : Rel g m' h' σ' en' H') (e : Ex m h.length H m' h'.length H') (q : h'.take h.length = h) : Rel g m' h σ' (en'.map (clo h.length)) H' := by
  refine ⟨r.rh.cut r'.rh e q, by rw [r'.len, List.length_map], fun i d hd => ?_⟩
  rw [List.getElem?_map] at hd
  cases z : en'[i]? with
  | none => rw [z] at hd; cases hd
  | some o =>
    rw [z] at hd
    have hd : clo h.length o = some d := by simpa using hd
    obtain ⟨rfl, hc⟩ := clo_some hd
    obtain ⟨v, h1, h2⟩ := r'.env i d z
    exact ⟨v, h1, h2.shrink e.le hc⟩
section
variable {X : Cx} {T : List (Addr × Str)} {E : XK} {a b c e o : Expr} {es rest : List Expr} {pos : Pos} {f k l : ME} {st : Stmt} {sts sts2 : List Stmt} {fs ks : MS} {tA : MT}
theorem dss_cut (hb : DSs X T E sts fs) : DSs X T E sts (cutS fs) :=
  PSs.imp hb fun D σ H ⟨m, h, en, rel, p⟩ => by
    refine ⟨m, h, en, rel, ?_⟩
    unfold cutS at p
    cases q : fs en h with
    | nx en' h' =>
      rw [q] at p
      dsimp only at p
      split at p
      · rename_i z
        exact fun m' H' σ' e1 rel' => p m' H' σ' e1.cut (rel.cut rel' e1 z)
      · exact p.elim
    | ct en' h' =>
      rw [q] at p
      dsimp only at p
      split at p
      · rename_i z
        exact fun m' H' σ' e1 rel' => p m' H' σ' e1.cut (rel.cut rel' e1 z)
      · exact p.elim
    | bk en' h' =>
      rw [q] at p
      dsimp only at p
      split at p
      · rename_i z
        exact fun m' H' σ' e1 rel' => p m' H' σ' e1.cut (rel.cut rel' e1 z)
      · exact p.elim
    | rt d h' =>
      rw [q] at p
      dsimp only at p
      split at p
      · rename_i z
        split at p
        · rename_i y
          exact fun m' H' v e1 rh' rv => p m' H' v e1.cut (rel.rh.cut rh' e1 z) (rv.shrink e1.le y)
        · exact p.elim
      · exact p.elim
    | err c h' =>
      rw [q] at p
      dsimp only at p
      split at p
      · rename_i z
        exact fun m' H' C e1 rh' hC => p m' H' C e1.cut (rel.rh.cut rh' e1 z) hC
      · exact p.elim
    | bad => rw [q] at p; exact p.elim
end
/-! ### a dict stands still -/
def Mp.rf (m : Mp) (F : Addr → Option HO) : Mp := ⟨m.P, m.pt, F⟩
section
variable {K : PySem.W.Frag} {m : Mp} {n : Nat} {H : Hp} {F : Addr → Option HO}
mutual
theorem Rv.rf : ∀ {v : V} {d : D}, Rv K m n H v d → Rv K (m.rf F) n H v d
  | _, _, .non => .non
  | _, _, .bl b => .bl b
  | _, _, .int i => .int i
  | _, _, .str x => .str x
  | _, _, .wd h1 h2 => .wd h1 h2
  | _, _, .tup (.inl h) r => .tup (.inl h) (Rvs.rf r)
  | _, _, .tup (.inr h) r => .tup (.inr ⟨h.1, h.2⟩) (Rvs.rf r)
  | _, _, .vl h q r => .vl h q (Rvs.rf r)
  | _, _, .fl (.inl h) r => .fl (.inl h) (Rvs.rf r)
  | _, _, .fl (.inr h) r => .fl (.inr ⟨h.1, h.2⟩) (Rvs.rf r)
  | _, _, .ref (i := i) hi => Rv.ref (m := m.rf F) hi
theorem Rvs.rf : ∀ {vs : List V} {ds : List D}, Rvs K m n H vs ds → Rvs K (m.rf F) n H vs ds
  | _, _, .nil => .nil
  | _, _, .cons a b => .cons (Rv.rf a) (Rvs.rf b)
end
theorem RPs.rf {l : List (Key × V)} {l' : List (DK × D)} (r : RPs K m n H l l') : RPs K (m.rf F) n H l l' := Paired.mapP r fun _ _ z => ⟨z.1, z.2.1, z.2.2.rf⟩
end
theorem RO.rf {g : G} {m : Mp} {n : Nat} {H : Hp} {F : Addr → Option HO} {a : Addr} {o : O} (r : RO g m n H a o) (q : F a = m.F a) : RO g (m.rf F) n H a o := by
  cases o with
  | lst ds => obtain ⟨vs, h, k⟩ := r; exact ⟨vs, h, k.rf⟩
  | dct kvs => obtain ⟨vs, h, k⟩ := r; exact ⟨vs, h, k.rf⟩
  | ins c fs => obtain ⟨C, dx, fvs, h, k, l, l2⟩ := r; exact ⟨C, dx, fvs, h, k, l, l2.rf⟩
  | frz kvs => obtain ⟨od, vs, h, k0, k⟩ := r; exact ⟨od, vs, h, q.trans k0, k.rf⟩
def lkF (m : Mp) (i : Nat) (o : Option HO) : Addr → Option HO := fun a => if a = m i then o else m.F a
theorem lkF_ne {m : Mp} {i : Nat} {o : Option HO} {a : Addr} (h : a ≠ m i) : lkF m i o a = m.F a := if_neg h
theorem lkF_same {m : Mp} {i : Nat} {o : Option HO} : lkF m i o (m i) = o := if_pos rfl
/-- an object of the ideal heap is laid anew, frozen or thawed -/
theorem RH.relay {g : G} {m : Mp} {h : IH} {H : Hp} {i : Nat} {o : HO} {u : O} {w : Option HO} (r : RH g m h H) (hi : i < h.length) (ho : NT o) (hw : (∀ kvs, u ≠ .frz kvs) → w = none) (hw2 : ∀ z, w = some z → True) (hu : RO g (m.rf (lkF m i w)) h.length (upd H (m i) o) (m i) u) : RH g (m.rf (lkF m i w)) (h.set i u) (upd H (m i) o) where
  obj := fun j x hj => by
    rw [List.length_set]
    by_cases hij : j = i
    · subst hij
      rw [List.getElem?_set_self hi] at hj
      cases hj
      exact hu
    · rw [List.getElem?_set_ne (Ne.symm hij)] at hj
      have q := r.obj j x hj
      have hjl : j < h.length := (List.getElem?_eq_some_iff.mp hj).1
      have ne : m j ≠ m i := fun z => hij (r.inj j i hjl hi z)
      exact (q.mono (Ex.store r hi ho) (by rw [upd_ne ne])).rf (lkF_ne ne)
  inj := fun a b ha hb => r.inj a b (by rwa [List.length_set] at ha) (by rwa [List.length_set] at hb)
  tab := by
    have q := r.obj i h[i] (List.getElem?_eq_getElem hi)
    cases e : h[i] with
    | lst ds => rw [e] at q; obtain ⟨vs, z, _⟩ := q; exact tabs_store r.tab z NT.lst (fun _ y => by cases y)
    | dct kvs => rw [e] at q; obtain ⟨vs, z, _⟩ := q; exact tabs_store r.tab z NT.dK (fun _ y => by cases y)
    | ins c fs => rw [e] at q; obtain ⟨C, dx, fvs, z, _⟩ := q; exact tabs_store r.tab z NT.ins (fun _ y => by cases y)
    | frz kvs => rw [e] at q; obtain ⟨od, vs, z, _⟩ := q; exact tabs_store r.tab z NT.frz (fun _ y => by cases y)
  prt := fun a z => by
    obtain ⟨v, e, k⟩ := r.prt a z
    by_cases ha : a = m i
    · exact ⟨o, by rw [ha, upd_same], ho⟩
    · exact ⟨v, by rw [upd_ne ha]; exact e, k⟩
  npr := fun j hj => r.npr j (by rwa [List.length_set] at hj)
  fz1 := fun j x hj nf => by
    show lkF m i w (m j) = none
    by_cases hij : j = i
    · subst hij
      rw [List.getElem?_set_self hi] at hj
      cases hj
      rw [lkF_same]
      exact hw nf
    · rw [List.getElem?_set_ne (Ne.symm hij)] at hj
      have hjl : j < h.length := (List.getElem?_eq_some_iff.mp hj).1
      rw [lkF_ne fun z => hij (r.inj j i hjl hi z)]
      exact r.fz1 j x hj nf
  fz2 := fun a v z => by
    by_cases ha : a = m i
    · exact ⟨o, by rw [ha, upd_same], ho⟩
    · have z : lkF m i w a = some v := z
      rw [lkF_ne ha] at z
      obtain ⟨x, e, k⟩ := r.fz2 a v z
      exact ⟨x, by rw [upd_ne ha]; exact e, k⟩
  fz3 := fun a z => by
    show lkF m i w a = none
    rw [lkF_ne fun q => r.npr i hi (by rw [← q]; exact z)]
    exact r.fz3 a z
theorem Ex.lk {g : G} {m : Mp} {h : IH} {H : Hp} {i : Nat} {o : HO} {w : Option HO} (r : RH g m h H) (hi : i < h.length) (ho : NT o) (hf : m.F (m i) = none) : Ex m h.length H (m.rf (lkF m i w)) h.length (upd H (m i) o) := by
  have ex := Ex.store (o := o) r hi ho
  refine ⟨ex.le, ex.prot, ex.same, ex.new, ex.keep, ex.dom, fun a u z => ?_⟩
  show lkF m i w a = some u
  rw [lkF_ne fun q => by rw [q, hf] at z; cases z]
  exact z
theorem Ex.unlk {m m' : Mp} {h h' : IH} {H H' : Hp} {i : Nat} {o : HO} (e : Ex m h.length H m' h'.length H') (hi : i < h.length) (ho : NT o) (hf : m.F (m i) = none) : Ex m h.length H (m'.rf (lkF m' i none)) h'.length (upd H' (m' i) o) := by
  have e0 := e.same i hi
  refine ⟨e.le, e.prot, e.same, e.new, fun a x hx q k => ?_, fun a x hx k => ?_, fun a u z => ?_⟩
  · rw [upd_ne (by rw [e0]; exact Ne.symm (q i hi))]
    exact e.keep a x hx q k
  · by_cases ha : a = m' i
    · exact ⟨o, by rw [ha, upd_same], ho⟩
    · rw [upd_ne ha]
      exact e.dom a x hx k
  · show lkF m' i none a = some u
    rw [lkF_ne fun q => by rw [q, e0, hf] at z; cases z]
    exact e.fz a u z
section
variable {X : Cx}
def tLockX (t : TE) : TE := fun σ H Q => ∃ d u, H d = some u ∧ Mut (some u) ∧ ∀ od, t σ (upd H d (.frz od u)) fun v H' => ∃ od' u', H' d = some (.frz od' u') ∧ Q v (upd H' d u')
theorem pe_lockX {e : Expr} {t : TE} (h : PE X e t) : PE X e (tLockX t) := by
  refine ⟨fun pins s σ H Q I hw => ?_⟩
  obtain ⟨d, u, hd, mu, hw⟩ := hw
  obtain ⟨od, I1⟩ := I.lock hd mu
  refine thn (h.run pins s σ _ _ I1 (hw od)) fun v s1 ⟨x, H1, I2, r, od', u', e2, q⟩ => ?_
  exact ⟨x, _, I2.unlock e2 (I.nofrz hd mu), r, q⟩
def tLockSX (t : TS) : TS := fun D σ H => ∃ d u, H d = some u ∧ Mut (some u) ∧ ∀ od, t ⟨fun σ' H' => ∃ od' u', H' d = some (.frz od' u') ∧ D.nx σ' (upd H' d u'), fun v H' => ∃ od' u', H' d = some (.frz od' u') ∧ D.rt v (upd H' d u'),
  fun σ' H' => ∃ od' u', H' d = some (.frz od' u') ∧ D.bk σ' (upd H' d u'), fun σ' H' => ∃ od' u', H' d = some (.frz od' u') ∧ D.ct σ' (upd H' d u')⟩ σ (upd H d (.frz od u))
theorem ps_lockX {st : Stmt} {t : TS} (h : PS X st t) : PS X st (tLockSX t) := by
  refine ⟨fun pins s σ H D I hw => ?_⟩
  obtain ⟨d, u, hd, mu, hw⟩ := hw
  obtain ⟨od, I1⟩ := I.lock hd mu
  refine thn (h.run pins s σ _ _ I1 (hw od)) fun f s1 q => ?_
  cases f with
  | next => obtain ⟨σ', H', I2, od', u', e, q⟩ := q; exact ⟨σ', _, I2.unlock e (I.nofrz hd mu), q⟩
  | brk => obtain ⟨σ', H', I2, od', u', e, q⟩ := q; exact ⟨σ', _, I2.unlock e (I.nofrz hd mu), q⟩
  | cont => obtain ⟨σ', H', I2, od', u', e, q⟩ := q; exact ⟨σ', _, I2.unlock e (I.nofrz hd mu), q⟩
  | ret v => obtain ⟨x, σ', H', I2, r, od', u', e, q⟩ := q; exact ⟨x, σ', _, I2.unlock e (I.nofrz hd mu), r, q⟩
end
def lockE (fd b : ME) : ME := fun en h => match fd en h with
  | .ok x _ => (match dctAt h x with
    | some (i, kvs) => (match b en (h.set i (.frz kvs)) with
      | .ok d h2 => if h2[i]? = some (.frz kvs) then .ok d (h2.set i (.dct kvs)) else .bad
      | _ => .bad)
    | none => .bad)
  | _ => .bad
def unl (i : Nat) (kvs : List (DK × D)) (h : IH) (k : IH → SO) : SO := if h[i]? = some (.frz kvs) then k (h.set i (.dct kvs)) else .bad
def lockS (fd : ME) (b : MS) : MS := fun en h => match fd en h with
  | .ok x _ => (match dctAt h x with
    | some (i, kvs) => (match b en (h.set i (.frz kvs)) with
      | .nx en' h2 => unl i kvs h2 fun h3 => .nx en' h3
      | .rt d h2 => unl i kvs h2 fun h3 => .rt d h3
      | .bk en' h2 => unl i kvs h2 fun h3 => .bk en' h3
      | .ct en' h2 => unl i kvs h2 fun h3 => .ct en' h3
      | .err c h2 => .err c h2
      | .bad => .bad)
    | none => .bad)
  | _ => .bad
section
variable {g : G} {m : Mp} {h : IH} {H : Hp} {i : Nat} {kvs : List (DK × D)}
/-- it is frozen -/
theorem lock_rh (rh : RH g m h H) (hi : h[i]? = some (.dct kvs)) : ∃ kws, H (m i) = some (.dK kws) ∧ ∀ od, Ex m h.length H (m.rf (lkF m i (some (.frz od (.dK kws))))) (h.set i (.frz kvs)).length (upd H (m i) (.frz od (.dK kws))) ∧ RH g (m.rf (lkF m i (some (.frz od (.dK kws))))) (h.set i (.frz kvs)) (upd H (m i) (.frz od (.dK kws))) := by
  have hl : i < h.length := (List.getElem?_eq_some_iff.mp hi).1
  have hf := rh.fz1 i _ hi (fun _ z => by cases z)
  obtain ⟨kws, y1, y2⟩ := rh.obj i _ hi
  refine ⟨kws, y1, fun od => ?_⟩
  have ex := Ex.lk (o := .frz od (.dK kws)) (w := some (.frz od (.dK kws))) rh hl NT.frz hf
  refine ⟨by rw [List.length_set]; exact ex, rh.relay hl NT.frz (fun z => absurd rfl (z kvs)) (fun _ _ => trivial) ⟨od, kws, upd_same, lkF_same, y2.mono ex⟩⟩
/-- it thaws -/
theorem unlock_rh {m' : Mp} {h' : IH} {H' : Hp} (rh : RH g m h H) (hi : h[i]? = some (.dct kvs)) (e : Ex m h.length H m' h'.length H') (rh' : RH g m' h' H') (hi' : h'[i]? = some (.frz kvs)) :
    ∃ od kws, H' (m i) = some (.frz od (.dK kws)) ∧ Ex m h.length H (m'.rf (lkF m' i none)) (h'.set i (.dct kvs)).length (upd H' (m i) (.dK kws)) ∧ RH g (m'.rf (lkF m' i none)) (h'.set i (.dct kvs)) (upd H' (m i) (.dK kws)) ∧
      ∀ v d, Rv g.K m' h'.length H' v d → Rv g.K (m'.rf (lkF m' i none)) (h'.set i (.dct kvs)).length (upd H' (m i) (.dK kws)) v d := by
  have hl : i < h.length := (List.getElem?_eq_some_iff.mp hi).1
  have hl' : i < h'.length := (List.getElem?_eq_some_iff.mp hi').1
  have hf := rh.fz1 i _ hi (fun _ z => by cases z)
  have e0 := e.same i hl
  obtain ⟨od, kws, y1, y0, y2⟩ := rh'.obj i _ hi'
  have ex := Ex.store (o := .dK kws) rh' hl' NT.dK
  have q1 := Ex.unlk (o := .dK kws) e hl NT.dK hf
  have q2 := rh'.relay (w := none) (u := .dct kvs) hl' (NT.dK (xs := kws)) (fun _ => rfl) (fun _ _ => trivial) ⟨kws, upd_same, (y2.mono ex).rf⟩
  rw [e0] at y1 q1 q2
  refine ⟨od, kws, y1, by rw [List.length_set]; exact q1, q2, fun v d r => ?_⟩
  rw [List.length_set]
  have := (r.mono ex).rf (F := lkF m' i none)
  rw [e0] at this
  exact this
end
section
variable {X : Cx} {T : List (Addr × Str)} {E : XK} {a b c e o : Expr} {es rest : List Expr} {pos : Pos} {f k l : ME} {st : Stmt} {sts sts2 : List Stmt} {fs ks : MS} {tA : MT}
theorem de_lock (fd : ME) (hb : DE X T E e f) : DE X T E e (lockE fd f) :=
  PE.imp (pe_lockX hb) fun σ H Q ⟨m, h, en, rel, p⟩ => by
    unfold lockE at p
    split at p
    · rename_i x h1 _
      split at p
      · rename_i i kvs hx
        obtain ⟨rfl, hi⟩ := dctAt_ok hx
        obtain ⟨kws, y1, y2⟩ := lock_rh rel.rh hi
        refine ⟨m i, .dK kws, y1, trivial, fun od => ?_⟩
        obtain ⟨ex, rh1⟩ := y2 od
        refine ⟨_, h.set i (.frz kvs), en, rel.next ex rh1, ?_⟩
        cases q : f en (h.set i (.frz kvs)) with
        | bad => rw [q] at p; exact p.elim
        | err c h2 => rw [q] at p; exact p.elim
        | ok d h2 =>
          rw [q] at p
          dsimp only at p
          split at p
          · rename_i hi2
            intro m' H' v e2 rh2 rv2
            obtain ⟨od', kws', z1, z2, z3, z4⟩ := unlock_rh rel.rh hi (ex.trans e2) rh2 hi2
            exact ⟨od', .dK kws', z1, p _ _ v z2 z3 (z4 _ _ rv2)⟩
          · exact p.elim
      · exact p.elim
    · exact p.elim
theorem ds_lock (fd : ME) (hb : DS X T E st fs) : DS X T E st (lockS fd fs) :=
  PS.imp (ps_lockX hb) fun D σ H ⟨m, h, en, rel, p⟩ => by
    unfold lockS at p
    split at p
    · rename_i x h1 _
      split at p
      · rename_i i kvs hx
        obtain ⟨rfl, hi⟩ := dctAt_ok hx
        obtain ⟨kws, y1, y2⟩ := lock_rh rel.rh hi
        refine ⟨m i, .dK kws, y1, trivial, fun od => ?_⟩
        obtain ⟨ex, rh1⟩ := y2 od
        refine ⟨_, h.set i (.frz kvs), en, rel.next ex rh1, ?_⟩
        cases q : fs en (h.set i (.frz kvs)) with
        | bad => rw [q] at p; exact p.elim
        | err c h2 =>
          rw [q] at p
          exact fun m' H' C e2 rh2 hC => p m' H' C (ex.trans e2) rh2 hC
        | nx en' h2 =>
          rw [q] at p
          dsimp only at p
          unfold unl at p
          split at p
          · rename_i hi2
            intro m' H' σ' e2 rel2
            obtain ⟨od', kws', z1, z2, z3, z4⟩ := unlock_rh rel.rh hi (ex.trans e2) rel2.rh hi2
            exact ⟨od', .dK kws', z1, p _ _ σ' z2 ⟨z3, rel2.len, fun j d hj => let ⟨v, h1, h2⟩ := rel2.env j d hj; ⟨v, h1, z4 _ _ h2⟩⟩⟩
          · exact p.elim
        | bk en' h2 =>
          rw [q] at p
          dsimp only at p
          unfold unl at p
          split at p
          · rename_i hi2
            intro m' H' σ' e2 rel2
            obtain ⟨od', kws', z1, z2, z3, z4⟩ := unlock_rh rel.rh hi (ex.trans e2) rel2.rh hi2
            exact ⟨od', .dK kws', z1, p _ _ σ' z2 ⟨z3, rel2.len, fun j d hj => let ⟨v, h1, h2⟩ := rel2.env j d hj; ⟨v, h1, z4 _ _ h2⟩⟩⟩
          · exact p.elim
        | ct en' h2 =>
          rw [q] at p
          dsimp only at p
          unfold unl at p
          split at p
          · rename_i hi2
            intro m' H' σ' e2 rel2
            obtain ⟨od', kws', z1, z2, z3, z4⟩ := unlock_rh rel.rh hi (ex.trans e2) rel2.rh hi2
            exact ⟨od', .dK kws', z1, p _ _ σ' z2 ⟨z3, rel2.len, fun j d hj => let ⟨v, h1, h2⟩ := rel2.env j d hj; ⟨v, h1, z4 _ _ h2⟩⟩⟩
          · exact p.elim
        | rt d h2 =>
          rw [q] at p
          dsimp only at p
          unfold unl at p
          split at p
          · rename_i hi2
            intro m' H' v e2 rh2 rv2
            obtain ⟨od', kws', z1, z2, z3, z4⟩ := unlock_rh rel.rh hi (ex.trans e2) rh2 hi2
            exact ⟨od', .dK kws', z1, p _ _ v z2 z3 (z4 _ _ rv2)⟩
          · exact p.elim
      · exact p.elim
    · exact p.elim
end
/-! ### a frozen dict is walked -/
def frzAt (h : IH) : D → Option (Nat × List (DK × D))
  | .ref i => match h[i]? with
    | some (.frz kvs) => some (i, kvs)
    | _ => none
  | _ => none
theorem frzAt_ok {h : IH} {d : D} {i : Nat} {kvs : List (DK × D)} (e : frzAt h d = some (i, kvs)) : d = .ref i ∧ h[i]? = some (.frz kvs) := by
  cases d with
  | ref j =>
    unfold frzAt at e
    dsimp only at e
    split at e
    · rename_i q
      cases e
      exact ⟨rfl, q⟩
    · cases e
  | _ => cases e
def keyD : DK → D
  | .inl i => .int i
  | .inr n => .wd n
theorem RPs.at {K : PySem.W.Frag} {m : Mp} {n : Nat} {H : Hp} {l : List (Key × V)} {l' : List (DK × D)} (r : RPs K m n H l l') : ∀ {i : Nat} {q : DK × D}, l'[i]? = some q → ∃ p, l[i]? = some p ∧ p.1 = dkey q.1 ∧ DKok q.1 ∧ Rv K m n H p.2 q.2 := by
  induction r with
  | nil => intro i q h; simp at h
  | cons h _ ih =>
    intro i q hq
    cases i with
    | zero =>
      simp at hq
      subst hq
      exact ⟨_, rfl, h.1, h.2.1, h.2.2⟩
    | succ i =>
      obtain ⟨p, h1, h2⟩ := ih (by simpa using hq)
      exact ⟨p, by simpa using h1, h2⟩
theorem keyD_ok {K : PySem.W.Frag} {m : Mp} {n : Nat} {H : Hp} {k : DK} (h : DKok k) : Rv K m n H (kV (dkey k)) (keyD k) := by
  cases k with
  | inl i => exact .int i
  | inr w => exact .wd (h w rfl) rfl
def walkV (fn : DK × D → D) (f : ME) : MV := fun en h => (f en h).bind fun d h1 => match frzAt h1 d with
  | some _ => .ok (fun h => (frzAt h d).map fun p => p.2.map fn) h1
  | none => .bad
section
variable {g : G} {m : Mp} {h : IH} {H : Hp} {i : Nat}
theorem frz_keep {od : Obj} {kws : List (Key × V)} {m1 : Mp} {h1 : IH} {H1 : Hp} {kvs : List (DK × D)} (hi : i < h.length) (hF : m.F (m i) = some (.frz od (.dK kws))) (ex : Ex m h.length H m1 h1.length H1) (rh : RH g m1 h1 H1) (e : h1[i]? = some (.frz kvs)) : H1 (m i) = some (.frz od (.dK kws)) ∧ RPs g.K m1 h1.length H1 kws kvs := by
  obtain ⟨od', kws', y1, y0, y2⟩ := rh.obj i _ e
  rw [ex.same i hi] at y1 y0
  have z := (ex.fz _ _ hF).symm.trans y0
  cases z
  exact ⟨y1, y2⟩
theorem its_vals {od : Obj} {kws : List (Key × V)} (hi : i < h.length) (hF : m.F (m i) = some (.frz od (.dK kws))) : ItS g m h.length H (Itd (m i) od kws) (fun h => (frzAt h (.ref i)).map fun p => p.2.map (·.2)) := by
  intro m1 h1 H1 ex rh xs e j
  obtain ⟨⟨i', kvs⟩, q, rfl⟩ := Option.map_eq_some_iff.mp e
  obtain ⟨ei, q⟩ := frzAt_ok q
  cases ei
  obtain ⟨y1, y2⟩ := frz_keep hi hF ex rh q
  have hlen := y2.length
  refine ⟨fun d hd => ?_, fun hl => ⟨y1, by rw [hlen]; simpa using hl⟩⟩
  have hd : (kvs.map (·.2))[j]? = some d := hd
  rw [List.getElem?_map] at hd
  obtain ⟨p, hp, rfl⟩ := Option.map_eq_some_iff.mp hd
  obtain ⟨u, z1, z2, z3, z4⟩ := y2.at hp
  refine ⟨⟨y1, (List.getElem?_eq_some_iff.mp z1).1⟩, fun x H' ⟨eH, k, hk⟩ => ?_⟩
  subst eH
  rw [z1] at hk
  cases hk
  exact ⟨Ex.refl _ _ _, rh, z4⟩
theorem its_keys {od : Obj} {kws : List (Key × V)} (hi : i < h.length) (hF : m.F (m i) = some (.frz od (.dK kws))) : ItS g m h.length H (Itk (m i) od kws) (fun h => (frzAt h (.ref i)).map fun p => p.2.map fun q => keyD q.1) := by
  intro m1 h1 H1 ex rh xs e j
  obtain ⟨⟨i', kvs⟩, q, rfl⟩ := Option.map_eq_some_iff.mp e
  obtain ⟨ei, q⟩ := frzAt_ok q
  cases ei
  obtain ⟨y1, y2⟩ := frz_keep hi hF ex rh q
  have hlen := y2.length
  refine ⟨fun d hd => ?_, fun hl => ⟨y1, by rw [hlen]; simpa using hl⟩⟩
  have hd : (kvs.map fun q => keyD q.1)[j]? = some d := hd
  rw [List.getElem?_map] at hd
  obtain ⟨p, hp, rfl⟩ := Option.map_eq_some_iff.mp hd
  obtain ⟨u, z1, z2, z3, z4⟩ := y2.at hp
  refine ⟨⟨y1, (List.getElem?_eq_some_iff.mp z1).1⟩, fun x H' ⟨eH, k, v, hk, hx⟩ => ?_⟩
  subst eH
  rw [z1] at hk
  cases hk
  rw [hx]
  have z2 : k = dkey p.1 := z2
  rw [z2]
  exact ⟨Ex.refl _ _ _, rh, keyD_ok z3⟩
end
section
variable {X : Cx} {T : List (Addr × Str)} {E : XK} {a b c e o tg : Expr} {es rest : List Expr} {pos apos cpos : Pos} {f k l : ME}
theorem walk_red {fn : DK × D → D} {R : It → Hp → Prop} {σ : L2.St} {H : Hp} {J : Addr → Obj → List (Key × V) → It} (hJ : ∀ {g : G} {m : Mp} {h : IH} {H : Hp} {i : Nat} {od : Obj} {kws : List (Key × V)}, i < h.length → m.F (m i) = some (.frz od (.dK kws)) → ItS g m h.length H (J (m i) od kws) (fun h => (frzAt h (.ref i)).map fun p => p.2.map fn))
    (q : LX (ItS (gX X T)) (gX X T) E (walkV fn f) σ H R) : LE (gX X T) E f σ H fun x H1 => ∃ d o kvs, x = .ref d ∧ H1 d = some (.frz o (.dK kvs)) ∧ R (J d o kvs) H1 := by
  obtain ⟨m, h, en, rel, p⟩ := q
  refine chain rel p fun m1 h1 H1 v d e1 rel1 rv1 p1 => ?_
  cases z : frzAt h1 d with
  | none => rw [z] at p1; exact p1.elim
  | some y =>
    obtain ⟨i, kvs⟩ := y
    rw [z] at p1
    obtain ⟨rfl, hi⟩ := frzAt_ok z
    obtain ⟨od, kws, y1, y0, y2⟩ := rel1.rh.obj i _ hi
    cases rv1
    exact ⟨_, od, kws, rfl, y1, p1 m1 H1 _ (Ex.refl _ _ _) rel1.rh (hJ (List.getElem?_eq_some_iff.mp hi).1 y0)⟩
theorem di_vals (ha : DE X T E e f) (hbase : attributeBase e "values" X.env (eval e X.env) = eval e X.env := by rfl) (hline : (apos.endLine == cpos.line) = true := by rfl) : DI X T E tg (.Call (.Attribute e "values" apos) [] [] cpos) (walkV (·.2) f) :=
  PI.imp (pi_values ha hbase hline) fun σ H R q => walk_red (J := Itd) (fun h1 h2 => its_vals h1 h2) q
theorem di_keys (ha : DE X T E e f) : DI X T E tg e (walkV (fun q => keyD q.1) f) :=
  PI.imp (pi_keys ha) fun σ H R q => by
    have z := walk_red (J := Itk) (fun h1 h2 => its_keys h1 h2) q
    obtain ⟨m, h, en, rel, p⟩ := z
    refine ⟨m, h, en, rel, ?_⟩
    cases y : f en h with
    | bad => rw [y] at p; exact p
    | err c h1 => rw [y] at p; exact p
    | ok d h1 =>
      rw [y] at p
      intro m' H' v e1 rh rv
      obtain ⟨d', o, kvs, rfl, z1, z2⟩ := p m' H' v e1 rh rv
      exact ⟨d', o, rfl, .inl ⟨kvs, z1, z2⟩⟩
end
/-! ### dicts asked, popped -/
/-- a dict is read, frozen or not -/
def rdAt (h : IH) (d : D) : Option (List (DK × D)) := match dctAt h d with
  | some p => some p.2
  | none => (frzAt h d).map (·.2)
theorem rdAt_ok {g : G} {m : Mp} {h : IH} {H : Hp} {v : V} {d : D} {kvs : List (DK × D)} (rh : RH g m h H) (rv : Rv g.K m h.length H v d) (e : rdAt h d = some kvs) : ∃ a kws, v = .ref a ∧ Rd H a (.dK kws) ∧ RPs g.K m h.length H kws kvs := by
  unfold rdAt at e
  split at e
  · rename_i p hp
    obtain ⟨i, l⟩ := p
    cases e
    obtain ⟨rfl, hi⟩ := dctAt_ok hp
    obtain ⟨kws, y1, y2⟩ := rh.obj i _ hi
    cases rv
    exact ⟨_, kws, rfl, .inl y1, y2⟩
  · obtain ⟨⟨i, l⟩, hp, rfl⟩ := Option.map_eq_some_iff.mp e
    obtain ⟨rfl, hi⟩ := frzAt_ok hp
    obtain ⟨od, kws, y1, y0, y2⟩ := rh.obj i _ hi
    cases rv
    exact ⟨_, kws, rfl, .inr ⟨od, y1⟩, y2⟩
def dinD (neg : Bool) : D → D → IH → Out D := fun y x h => match rdAt h x, dkOf y with
  | some kvs, some k => .ok (.bl (if neg then !(dval kvs k).isSome else (dval kvs k).isSome)) h
  | _, _ => .bad
theorem din_red {g : G} {m : Mp} {h : IH} {H : Hp} {x y : V} {dx dy : D} {Q : VK} {E : XK} {neg : Bool} (rh : RH g m h H) (ry : Rv g.K m h.length H y dy) (rx : Rv g.K m h.length H x dx) (p : Post (Rv g.K) g m h.length H E Q (dinD neg dy dx h)) : ∃ a o, x = .ref a ∧ DGet H a y o ∧ Q (.bl (if neg then !o.isSome else o.isSome)) H := by
  unfold dinD at p
  split at p
  · rename_i kvs k h1 h2
    obtain ⟨a, kws, rfl, r1, r2⟩ := rdAt_ok rh rx h1
    obtain ⟨rfl, hk⟩ := dkOf_ok h2 ry
    have eq : (valV kws (dkey k)).isSome = (dval kvs k).isSome := by
      rcases r2.val hk with ⟨z1, z2⟩ | ⟨d, v, z1, z2, _⟩
      · rw [z1, z2]; rfl
      · rw [z1, z2]; rfl
    refine ⟨a, valV kws (dkey k), rfl, .inl ⟨kws, dkey k, r1, rfl, rfl⟩, ?_⟩
    rw [eq]
    exact Post.val p rh (.bl _)
  · exact p.elim
section
variable {X : Cx} {T : List (Addr × Str)} {E : XK} {a b c e o tg : Expr} {es rest : List Expr} {pos apos cpos : Pos} {f k l : ME}
theorem de_din {n : Nat} (hr : Room n X.A) (ha : DE X T E a f) (hb : DE X T E b k) (hm : behindInMarks .In b = false := by first | exact nomark _ | rfl) : DE X T E (.Compare a [.In] [b] pos) (op2 (dinD false) f k) :=
  PE.imp (pe_cmp (pc_din (by have := hr.un; omega) ha hb) hm) fun σ H Q ⟨m, h, en, rel, p⟩ => chain rel p fun m1 h1 H1 v d e1 rel1 rv1 p1 => chain rel1 p1 fun m2 h2 H2 w d2 e2 rel2 rv2 p2 => din_red (neg := false) rel2.rh (rv1.mono e2) rv2 p2
theorem de_dnotin {n : Nat} (hr : Room n X.A) (ha : DE X T E a f) (hb : DE X T E b k) (hm : behindInMarks .NotIn b = false := by first | exact nomark _ | rfl) : DE X T E (.Compare a [.NotIn] [b] pos) (op2 (dinD true) f k) :=
  PE.imp (pe_cmp (pc_dnotin (by have := hr.un; omega) ha hb) hm) fun σ H Q ⟨m, h, en, rel, p⟩ => chain rel p fun m1 h1 H1 v d e1 rel1 rv1 p1 => chain rel1 p1 fun m2 h2 H2 w d2 e2 rel2 rv2 p2 => din_red (neg := true) rel2.rh (rv1.mono e2) rv2 p2
theorem dt_din {n : Nat} (hr : Room n X.A) (ha : DE X T E a f) (hb : DE X T E b k) (hm : behindInMarks .In b = false := by first | exact nomark _ | rfl) : DT X T E (.Compare a [.In] [b] pos) (tst (op2 (dinD false) f k)) :=
  PT.imp (pt_cmp (pc_din (by have := hr.un; omega) ha hb) hm) fun σ H Q ⟨m, h, en, rel, p⟩ => by
    have p : Post RB (gX X T) m h.length H E Q ((op2 (dinD false) f k en h).bind asB) := p
    obtain ⟨m0, h0, en0, rel0, p0⟩ : LE (gX X T) E (op2 (dinD false) f k) σ H (fun x H' => ∃ k, x = .bl k ∧ Q k H') := chain rel p fun m1 h1 H1 v d e1 rel1 rv1 p1 => asB_post (n := 0) rel1.rh rv1 p1
    exact chain rel0 p0 fun m1 h1 H1 v d e1 rel1 rv1 p1 => chain rel1 p1 fun m2 h2 H2 w d2 e2 rel2 rv2 p2 => din_red (neg := false) rel2.rh (rv1.mono e2) rv2 p2
theorem dt_dnotin {n : Nat} (hr : Room n X.A) (ha : DE X T E a f) (hb : DE X T E b k) (hm : behindInMarks .NotIn b = false := by first | exact nomark _ | rfl) : DT X T E (.Compare a [.NotIn] [b] pos) (tst (op2 (dinD true) f k)) :=
  PT.imp (pt_cmp (pc_dnotin (by have := hr.un; omega) ha hb) hm) fun σ H Q ⟨m, h, en, rel, p⟩ => by
    have p : Post RB (gX X T) m h.length H E Q ((op2 (dinD true) f k en h).bind asB) := p
    obtain ⟨m0, h0, en0, rel0, p0⟩ : LE (gX X T) E (op2 (dinD true) f k) σ H (fun x H' => ∃ k, x = .bl k ∧ Q k H') := chain rel p fun m1 h1 H1 v d e1 rel1 rv1 p1 => asB_post (n := 0) rel1.rh rv1 p1
    exact chain rel0 p0 fun m1 h1 H1 v d e1 rel1 rv1 p1 => chain rel1 p1 fun m2 h2 H2 w d2 e2 rel2 rv2 p2 => din_red (neg := true) rel2.rh (rv1.mono e2) rv2 p2
/-- d[k], frozen or not -/
def dgetF : D → D → IH → Out D := fun x y h => match rdAt h x, dkOf y with
  | some kvs, some k => (match dval kvs k with
    | some d => .ok d h
    | none => .bad)
  | _, _ => .bad
theorem de_dgetF {nr : Nat} (hr : Room nr X.A) (ha : DE X T E a f) (hb : DE X T E b k) (hp : NoSl b := by exact fun _ _ => rfl) : DE X T E (.Subscript a b pos) (op2 dgetF f k) :=
  PE.imp (pe_dget (by have := hr.un; omega) ha hb hp) fun σ H Q ⟨m, h, en, rel, p⟩ => chain rel p fun m1 h1 H1 v d e1 rel1 rv1 p1 => chain rel1 p1 fun m2 h2 H2 w d2 e2 rel2 rv2 p2 => by
    unfold dgetF at p2
    split at p2
    · rename_i kvs k h1 h2
      obtain ⟨a, kws, rfl, r1, r2⟩ := rdAt_ok rel2.rh (rv1.mono e2) h1
      obtain ⟨rfl, hk⟩ := dkOf_ok h2 rv2
      rcases r2.val hk with ⟨z1, z2⟩ | ⟨d, v, z1, z2, z3⟩
      · rw [z1] at p2; exact p2.elim
      · rw [z1] at p2
        exact ⟨a, v, rfl, .inl ⟨kws, dkey k, r1, rfl, z2.symm⟩, Post.val p2 rel2.rh z3⟩
    · exact p2.elim
/-- d.pop(k) -/
def dpop1E (f k : ME) : ME := fun en h => (f en h).bind fun x h1 => grd ((dctAt h1 x).isSome) ((k en h1).bind fun y h2 => match dctAt h2 x, dkOf y with
  | some (i, kvs), some k => (match dval kvs k with
    | some v => .ok v (h2.set i (.dct (ddrop kvs k)))
    | none => .bad)
  | _, _ => .bad)
theorem isD_of {g : G} {m : Mp} {h : IH} {H : Hp} {v : V} {d : D} (rh : RH g m h H) (rv : Rv g.K m h.length H v d) (e : (dctAt h d).isSome = true) : ∃ a, v = .ref a ∧ IsD H a := by
  obtain ⟨⟨i, kvs⟩, q⟩ := Option.isSome_iff_exists.mp e
  obtain ⟨rfl, hi⟩ := dctAt_ok q
  obtain ⟨kws, y1, y2⟩ := rh.obj i _ hi
  cases rv
  exact ⟨_, rfl, .inl ⟨kws, .inl y1⟩⟩
theorem de_dpop1 {apos : Pos} (ha : DE X T E a f) (hb : DE X T E b k) (hm : M1 X a "pop" apos b pos := by exact ⟨rfl, rfl, rfl, rfl⟩) : DE X T E (.Call (.Attribute a "pop" apos) [b] [] pos) (dpop1E f k) :=
  PE.imp (pe_dpop1 ha hb hm) fun σ H Q ⟨m, h, en, rel, p⟩ => chain rel p fun m1 h1 H1 v d e1 rel1 rv1 p1 => by
    obtain ⟨hc, p1⟩ := Post.grd p1
    obtain ⟨a, rfl, ha⟩ := isD_of rel1.rh rv1 hc
    refine ⟨a, rfl, ha, chain rel1 p1 fun m2 h2 H2 w d2 e2 rel2 rv2 p2 => ?_⟩
    split at p2
    · rename_i i kvs k q1 q2
      obtain ⟨rfl, hi⟩ := dctAt_ok q1
      obtain ⟨kws, y1, y2⟩ := rel2.rh.obj i _ hi
      obtain ⟨rfl, hk⟩ := dkOf_ok q2 rv2
      have ra := rv1.mono e2
      cases ra
      rcases y2.val hk with ⟨z1, z2⟩ | ⟨d, v, z1, z2, z3⟩
      · rw [z1] at p2; exact p2.elim
      · rw [z1] at p2
        obtain ⟨ex, rh'⟩ := dct_store rel2.rh hi (y2.drop hk)
        exact ⟨kws, dkey k, v, y1, rfl, z2, p2 m2 _ v ex rh' (z3.mono ex)⟩
    · exact p2.elim
/-- d.pop(k, x) -/
def dpop2E (f k l : ME) : ME := fun en h => (f en h).bind fun x h1 => grd ((dctAt h1 x).isSome) ((k en h1).bind fun y h2 => (l en h2).bind fun z h3 => match dctAt h3 x, dkOf y with
  | some (i, kvs), some k => (match dval kvs k with
    | some v => .ok v (h3.set i (.dct (ddrop kvs k)))
    | none => .ok z h3)
  | _, _ => .bad)
theorem de_dpop2 {apos : Pos} (ha : DE X T E a f) (hb : DE X T E b k) (hc : DE X T E c l) (hm : M2 X a "pop" apos b c pos := by exact ⟨rfl, rfl, rfl, rfl⟩) : DE X T E (.Call (.Attribute a "pop" apos) [b, c] [] pos) (dpop2E f k l) :=
  PE.imp (pe_dpop2 ha hb hc hm) fun σ H Q ⟨m, h, en, rel, p⟩ => chain rel p fun m1 h1 H1 v d e1 rel1 rv1 p1 => by
    obtain ⟨hc, p1⟩ := Post.grd p1
    obtain ⟨a, rfl, ha⟩ := isD_of rel1.rh rv1 hc
    refine ⟨a, rfl, ha, chain rel1 p1 fun m2 h2 H2 w d2 e2 rel2 rv2 p2 => chain rel2 p2 fun m3 h3 H3 w3 d3 e3 rel3 rv3 p3 => ?_⟩
    split at p3
    · rename_i i kvs k q1 q2
      obtain ⟨rfl, hi⟩ := dctAt_ok q1
      obtain ⟨kws, y1, y2⟩ := rel3.rh.obj i _ hi
      obtain ⟨rfl, hk⟩ := dkOf_ok q2 rv2
      have ra := (rv1.mono e2).mono e3
      cases ra
      refine ⟨kws, dkey k, y1, rfl, fun v hv => ?_, fun hv => ?_⟩
      · rcases y2.val hk with ⟨z1, z2⟩ | ⟨d, v', z1, z2, z3⟩
        · rw [z2] at hv; cases hv
        · rw [z2] at hv
          cases hv
          rw [z1] at p3
          obtain ⟨ex, rh'⟩ := dct_store rel3.rh hi (y2.drop hk)
          exact p3 m3 _ _ ex rh' (z3.mono ex)
      · rcases y2.val hk with ⟨z1, z2⟩ | ⟨d, v', z1, z2, z3⟩
        · rw [z1] at p3
          exact Post.val p3 rel3.rh rv3
        · rw [z2] at hv; cases hv
    · exact p3.elim
end
end DL

set_option Elab.async false
set_option linter.all false
set_option maxRecDepth 100000
set_option autoImplicit false
set_option maxHeartbeats 1000000
/-! sorted() of tuples of ints. -/
namespace DL
open PySem PySem.Spec PyProof.Rows L2
/-! ### a sort that the kernel reckons -/
def insB {α : Type} (le : α → α → Bool) (a : α) : List α → List α
  | [] => [a]
  | b :: l => if le a b then a :: b :: l else b :: insB le a l
def isrt {α : Type} (le : α → α → Bool) : List α → List α
  | [] => []
  | a :: l => insB le a (isrt le l)
theorem insB_mid {α : Type} {le : α → α → Bool} {a : α} : ∀ (l1 l2 : List α), (∀ b, b ∈ l1 → (!le a b) = true) → (∀ b ∈ l2, le a b = true) → insB le a (l1 ++ l2) = l1 ++ a :: l2
  | [], [], _, _ => rfl
  | [], b :: l2, _, h => by
    show insB le a (b :: l2) = _
    unfold insB
    rw [if_pos (h b List.mem_cons_self)]
    rfl
  | x :: l1, l2, h1, h2 => by
    have hx : le a x = false := by simpa using h1 x List.mem_cons_self
    show insB le a (x :: (l1 ++ l2)) = _
    unfold insB
    rw [if_neg (by rw [hx]; decide), insB_mid l1 l2 (fun b hb => h1 b (List.mem_cons_of_mem _ hb)) h2]
    rfl
theorem isrt_eq {α : Type} {le : α → α → Bool} (trans : ∀ (a b c : α), le a b → le b c → le a c) (total : ∀ (a b : α), le a b || le b a) : ∀ l : List α, l.mergeSort le = isrt le l
  | [] => by simp [isrt]
  | a :: l => by
    obtain ⟨l1, l2, e1, e2, h⟩ := List.mergeSort_cons trans total a l
    have s := List.pairwise_mergeSort trans total (a :: l)
    rw [e1] at s
    have s2 := (List.pairwise_append.mp s).2.1
    unfold isrt
    rw [← isrt_eq trans total l, e2, e1, insB_mid l1 l2 h fun b hb => (List.pairwise_cons.mp s2).1 b hb]
theorem insB_perm {α : Type} {le : α → α → Bool} (a : α) : ∀ l : List α, (insB le a l).Perm (a :: l)
  | [] => .refl _
  | b :: l => by
    unfold insB
    split
    · exact .refl _
    · exact ((insB_perm a l).cons b).trans (.swap a b l)
theorem isrt_perm {α : Type} {le : α → α → Bool} : ∀ l : List α, (isrt le l).Perm l
  | [] => .refl _
  | a :: l => (insB_perm a _).trans ((isrt_perm l).cons a)
theorem isrt_pair {α β : Type} {R : α → β → Prop} {le : α → α → Bool} {le' : β → β → Bool} (hc : ∀ a b a' b', R a b → R a' b' → le a a' = le' b b') : ∀ {l : List α} {l' : List β}, Paired R l l' → Paired R (isrt le l) (isrt le' l') := by
  have ins : ∀ {a : α} {b : β} {l : List α} {l' : List β}, R a b → Paired R l l' → Paired R (insB le a l) (insB le' b l') := by
    intro a b l l' hab h
    induction h with
    | nil => exact .cons hab .nil
    | cons h1 h2 ih =>
      unfold insB
      rw [hc _ _ _ _ hab h1]
      split
      · exact .cons hab (.cons h1 h2)
      · exact .cons h1 ih
  intro l l' h
  induction h with
  | nil => exact .nil
  | cons h1 _ ih => exact ins h1 ih
/-! ### the rule over the hand layer -/
def rSortG (K : PySem.W.Frag) : List V → Hp → VK → Prop := fun vs H Q => ∃ (a : Addr) (bs : List (V × PyData)), vs = [.ref a] ∧ SqL K H a (bs.map (·.1)) ∧ (∀ b ∈ bs, Dp K H b.1 b.2 ∧ b.2.depth ≤ 8) ∧ PySem.W.AllAlike (bs.map (·.2)) ∧ PySem.W.Sortable (bs.map (·.2)) ∧
  ∀ p, H p = none → Q (.ref p) (upd H p (.lst ((bs.mergeSort (PySem.W.dataLe false fun b => b.2)).map (·.1))))
theorem each_of_vals {X : Cx} {pins : List (Addr × Obj)} {σ : L2.St} {H : Hp} {s : Shared} (I : Inv X pins σ H s) : ∀ {bs : List (V × PyData)} {us : List Value}, (∀ b ∈ bs, Dp X.K H b.1 b.2) → Vals (bs.map (·.1)) us → PySem.W.EachIs (fun (v : Value) (b : V × PyData) => RelV b.1 v) us bs ∧ PySem.W.EachIs (fun (v : Value) (b : V × PyData) => ∃ as, Reads s.heap v b.2 as) us bs
  | [], us, _, h => by
    have h : Vals [] us := h
    cases h
    exact ⟨.nil, .nil⟩
  | b :: bs, us, hd, h => by
    have h : Vals (b.1 :: bs.map (·.1)) us := h
    cases h with
    | cons h1 h2 =>
      obtain ⟨q1, q2⟩ := each_of_vals I (fun x hx => hd x (List.mem_cons_of_mem _ hx)) h2
      exact ⟨.cons h1 q1, .cons (Dp.reads I _ _ _ (hd b List.mem_cons_self) h1) q2⟩
theorem vals_of_each : ∀ {bs : List (V × PyData)} {us : List Value}, PySem.W.EachIs (fun (v : Value) (b : V × PyData) => RelV b.1 v) us bs → Vals (bs.map (·.1)) us
  | _, _, .nil => .nil
  | _, _, .cons a b => .cons a (vals_of_each b)
theorem cr_sortG {X : Cx} {n : Nat} (hr : Room n X.A) : CallR X (.builtin "sorted") (rSortG X.K) := by
  intro pins s σ H vs us Q I r h
  obtain ⟨a, bs, rfl, hs, hd, hal, hk, q⟩ := h
  obtain ⟨its, rv, hl, hz⟩ := I.list hs
  rw [Vals.ref1 r]
  obtain ⟨e1, e2⟩ := each_of_vals I (fun b hb => (hd b hb).1) rv
  have hu : X.A.units + 64 < cLine := hr.units
  have hz' : bs.length ≤ sizeLine := by rw [List.length_map] at hz; exact hz
  refine PySem.W.sorted_data (enc := fun b : V × PyData => b.2) (R := fun (v : Value) (b : V × PyData) => RelV b.1 v) hl.isList e1 e2 hal hk hz' (fun b hb => by have := (hd b hb).2; omega) fun out ho he => ?_
  obtain ⟨ep, he'⟩ := PyProof.Rows.sortedAll_at s.heap its out.toArray
  have hlen : ((bs.mergeSort (PySem.W.dataLe false fun b => b.2)).map (·.1)).length ≤ sizeLine := by
    rw [List.length_map, List.length_mergeSort]
    exact hz'
  exact ⟨.ref _, upd H (s.heap.objs.size + 1) (.lst ((bs.mergeSort (PySem.W.dataLe false fun b => b.2)).map (·.1))), I.laid (t' := s.toks) (fun _ _ => PyProof.Rows.sortedAll_old) (Nat.le_succ _) ⟨hlen, out, ep, vals_of_each he, he'⟩, rfl, q _ (I.hok.fresh (Nat.le_succ _))⟩
/-! ### tuples of ints -/
def lexI : List Int → List Int → Bool
  | [], _ => true
  | _ :: _, [] => false
  | x :: xs, y :: ys => if x < y then true else if x = y then lexI xs ys else false
theorem lexI_lt : ∀ xs ys : List Int, lexI xs ys = !decide (ys < xs)
  | [], ys => by simp [lexI]
  | x :: xs, [] => by simp [lexI]
  | x :: xs, y :: ys => by
    unfold lexI
    rw [lexI_lt xs ys]
    by_cases h1 : x < y
    · rw [if_pos h1]
      have : ¬ (y :: ys < x :: xs) := by
        rw [List.cons_lt_cons_iff]
        intro z
        rcases z with z | ⟨z, _⟩ <;> omega
      simp [this]
    · rw [if_neg h1]
      by_cases h2 : x = y
      · subst h2
        rw [if_pos rfl]
        simp [List.cons_lt_cons_iff]
      · rw [if_neg h2]
        have : y :: ys < x :: xs := by
          rw [List.cons_lt_cons_iff]
          exact .inl (by omega)
        simp [this]
/-- a tuple of ints, one at least -/
def tupI : D → Option (List Int)
  | .tup ds => match asIs ds with
    | some (n :: ns) => some (n :: ns)
    | _ => none
  | _ => none
def tI (d : D) : List Int := (tupI d).getD []
theorem tupI_ok {d : D} {ns : List Int} (h : tupI d = some ns) : d = .tup (ns.map D.int) ∧ ∃ n l, ns = n :: l := by
  unfold tupI at h
  split at h
  · split at h
    · rename_i n l q
      cases h
      exact ⟨by rw [asIs_ok q], n, l, rfl⟩
    · cases h
  · cases h
theorem pys_ints : ∀ ns : List Int, pys (ns.map D.int) = ns.map PyData.int
  | [] => rfl
  | n :: ns => by simp only [List.map_cons, pys, py]; rw [pys_ints ns]
theorem py_tup {d : D} {ns : List Int} (h : tupI d = some ns) : py d = .tuple (ns.map .int) := by
  obtain ⟨rfl, _⟩ := tupI_ok h
  simp only [py]
  rw [pys_ints]
def sortTD (r : Bool) (x : D) (h : IH) : Out D := match getL h x with
  | some xs => grd (xs.all fun d => (tupI d).isSome) (outL r (isrt (fun a b => lexI (tI a) (tI b)) xs) h)
  | none => .bad
theorem data_le {β : Type} (k : β → PyData) (xs ys : β → List Int) (a b : β) (ha : k a = .tuple ((xs a).map .int)) (hb : k b = .tuple ((xs b).map .int)) : PySem.W.dataLe false k a b = lexI (xs a) (xs b) := by
  rw [lexI_lt]
  show (!PySem.W.dataLt (k b) (k a)) = _
  rw [ha, hb, PySem.W.dataLt_tuple]
  exact congrArg (!·) (PySem.W.dataLt_ints (xs b) (xs a))
theorem Rvs.paired {K : PySem.W.Frag} {m : Mp} {n : Nat} {H : Hp} : ∀ {vs : List V} {ds : List D}, Rvs K m n H vs ds → (∀ d ∈ ds, (tupI d).isSome = true) → Paired (fun (b : V × PyData) d => Rv K m n H b.1 d ∧ b.2 = py d ∧ (tupI d).isSome = true) (vs.zip (ds.map py)) ds
  | _, _, .nil, _ => .nil
  | _, _, .cons a b, h => .cons ⟨a, rfl, h _ List.mem_cons_self⟩ (Rvs.paired b fun d hd => h d (List.mem_cons_of_mem _ hd))
theorem Rvs.of_paired {K : PySem.W.Frag} {m : Mp} {n : Nat} {H : Hp} : ∀ {bs : List (V × PyData)} {ds : List D}, Paired (fun (b : V × PyData) d => Rv K m n H b.1 d ∧ b.2 = py d ∧ (tupI d).isSome = true) bs ds → Rvs K m n H (bs.map (·.1)) ds
  | _, _, .nil => .nil
  | _, _, .cons a b => .cons a.1 (Rvs.of_paired b)
theorem dp_ints {K : PySem.W.Frag} {H : Hp} : ∀ ns : List Int, DpAll K H (ns.map V.int) (ns.map PyData.int)
  | [] => .nil
  | n :: ns => .cons (.int n) (dp_ints ns)
theorem paired_mem {α β : Type} {R : α → β → Prop} : ∀ {l : List α} {l' : List β}, Paired R l l' → ∀ a ∈ l, ∃ b ∈ l', R a b
  | _, _, .nil, _, h => by cases h
  | _, _, .cons z t, a, h => by
    rcases List.mem_cons.mp h with rfl | h
    · exact ⟨_, List.mem_cons_self, z⟩
    · obtain ⟨b, hb, q⟩ := paired_mem t a h
      exact ⟨b, List.mem_cons_of_mem _ hb, q⟩
theorem tup_dp {g : G} {m : Mp} {h : IH} {H : Hp} {v : V} {d : D} {ns : List Int} (rv : Rv g.K m h.length H v d) (e : tupI d = some ns) : Dp g.K H v (.tuple (ns.map .int)) := by
  obtain ⟨rfl, _⟩ := tupI_ok e
  obtain ⟨a, vs, rfl, s, r⟩ := getT_ok rv (show getT (.tup (ns.map D.int)) = some _ from rfl)
  refine .tup s ?_
  rw [r.ints]
  exact dp_ints ns
section
variable {X : Cx} {T : List (Addr × Str)} {E : XK} {a b c e o : Expr} {es rest : List Expr} {pos : Pos} {f k l : ME}
theorem de_sortT (r : Bool) {t : MA} {p : Pos} {n : Nat} (hr : Room n X.A) (hm : X.mg "sorted" = none) (ha : DA X T E [e] t) (hg : Gl X "sorted" := by rfl) (he : starEach (e :: []) X.env = (false, eval e X.env) :: starEach [] X.env := by rfl) : DE X T E (.Call (.Name "sorted" p) [e] [] pos) (callB (one (sortTD r)) t) :=
  de_callB (cr_sortG hr) (one_ok fun m h H v d E Q rh rv p => by
    unfold sortTD at p
    cases q : getL h d with
    | none => rw [q] at p; exact p.elim
    | some xs =>
      rw [q] at p
      obtain ⟨hc, p⟩ := Post.grd p
      rw [List.all_eq_true] at hc
      obtain ⟨a, vs, rfl, s, rs⟩ := getL_ok rh rv q
      have hl := rs.length
      have pr := rs.paired hc
      have e1 : (vs.zip (xs.map py)).map (·.1) = vs := List.map_fst_zip (by rw [List.length_map, hl]; exact Nat.le_refl _)
      have e2 : (vs.zip (xs.map py)).map (·.2) = xs.map py := List.map_snd_zip (by rw [List.length_map, hl]; exact Nat.le_refl _)
      refine ⟨a, vs.zip (xs.map py), rfl, by rw [e1]; exact s, fun b hb => ?_, ?_, ?_, fun q hq => ?_⟩
      · obtain ⟨d, hd, h1, h2, h3⟩ : ∃ d, d ∈ xs ∧ Rv X.K m h.length H b.1 d ∧ b.2 = py d ∧ (tupI d).isSome = true := by
          obtain ⟨d, hd, q⟩ := paired_mem pr b hb
          exact ⟨d, hd, q⟩
        obtain ⟨ns, e⟩ := Option.isSome_iff_exists.mp h3
        rw [h2, py_tup e]
        refine ⟨tup_dp (g := gX X T) h1 e, ?_⟩
        simp only [PyData.depth]
        rw [PySem.W.depth_ints]
        omega
      · rw [e2]
        intro x hx y hy
        obtain ⟨d, hd, rfl⟩ := List.mem_map.mp hx
        obtain ⟨d', hd', rfl⟩ := List.mem_map.mp hy
        obtain ⟨ns, e⟩ := Option.isSome_iff_exists.mp (hc d hd)
        obtain ⟨ns', e'⟩ := Option.isSome_iff_exists.mp (hc d' hd')
        rw [py_tup e, py_tup e']
        show PySem.W.alikeAll _ _ = true
        exact PySem.W.alike_ints _ _
      · rw [e2]
        refine .inl fun x hx => ?_
        obtain ⟨d, hd, rfl⟩ := List.mem_map.mp hx
        obtain ⟨ns, e⟩ := Option.isSome_iff_exists.mp (hc d hd)
        obtain ⟨_, n, l, rfl⟩ := tupI_ok e
        exact ⟨.int n, l.map .int, py_tup e⟩
      · have tl := PySem.W.sortLe_total (α := V × PyData) (PyProof.Rows.listOrd PyProof.Rows.itemOrd) false fun b => PySem.W.keyToks b.2
        have es : (vs.zip (xs.map py)).mergeSort (PySem.W.dataLe false fun b => b.2) = isrt (PySem.W.dataLe false fun b => b.2) (vs.zip (xs.map py)) := isrt_eq (fun a b c => tl.trans a b c) (fun a b => Bool.or_eq_true_iff.mpr (tl.total a b)) _
        rw [es]
        have ps := isrt_pair (le := PySem.W.dataLe false fun b : V × PyData => b.2) (le' := fun a b => lexI (tI a) (tI b)) (fun b d b' d' h1 h2 => by
          obtain ⟨ns, e⟩ := Option.isSome_iff_exists.mp h1.2.2
          obtain ⟨ns', e'⟩ := Option.isSome_iff_exists.mp h2.2.2
          have z : lexI (tI d) (tI d') = lexI ns ns' := by unfold tI; rw [e, e']; rfl
          rw [z, lexI_lt]
          show (!PySem.W.dataLt b'.2 b.2) = _
          rw [h1.2.1, h2.2.1, py_tup e, py_tup e', PySem.W.dataLt_tuple]
          exact congrArg (!·) (PySem.W.dataLt_ints ns' ns)) pr
        exact p.outL rh (Rvs.of_paired ps) hq) hm (by decide +kernel) ha hg (by decide) (by decide) he
end
end DL

set_option Elab.async false
set_option linter.all false
set_option maxRecDepth 100000
set_option autoImplicit false
set_option maxHeartbeats 1000000
/-! Plain tools: runs alike under a condition of the slots. -/
namespace DL
open L2 PySem PySem.Spec PyProof.Rows
def SO.env : SO → Option En
  | .nx en _ => some en
  | .ct en _ => some en
  | .bk en _ => some en
  | _ => none
def Cg (Φ : En → Prop) (s s' : MS) : Prop := ∀ en h, Φ en → s en h = s' en h ∧ ∀ en', (s en h).env = some en' → Φ en'
section
variable {Φ : En → Prop} {s s' r r' : MS} {f f' : ME} {t t' : MT} {i : Nat}
theorem Cg.seq (a : Cg Φ s s') (b : Cg Φ r r') : Cg Φ (seqS s r) (seqS s' r') := fun en h p => by
  obtain ⟨e, q⟩ := a en h p
  rw [seqS_e, seqS_e, ← e]
  cases z : s en h with
  | nx en1 h1 => exact b en1 h1 (q en1 (by rw [z]; rfl))
  | ct en1 h1 => exact ⟨rfl, fun en' y => q en' (by rw [z]; exact y)⟩
  | bk en1 h1 => exact ⟨rfl, fun en' y => q en' (by rw [z]; exact y)⟩
  | rt d h1 => exact ⟨rfl, fun en' y => by cases y⟩
  | err c h1 => exact ⟨rfl, fun en' y => by cases y⟩
  | bad => exact ⟨rfl, fun en' y => by cases y⟩
theorem Cg.asg (a : ∀ en h, Φ en → f en h = f' en h) (b : ∀ en d, Φ en → Φ (en.set i (some d))) : Cg Φ (asgS f (nameG i)) (asgS f' (nameG i)) := fun en h p => by
  rw [asgS_e, asgS_e, ← a en h p]
  refine ⟨rfl, fun en' y => ?_⟩
  cases z : f en h with
  | ok d h1 =>
    rw [z] at y
    have y : some (en.set i (some d)) = some en' := y
    cases y
    exact b en d p
  | err c h1 => rw [z] at y; cases y
  | bad => rw [z] at y; cases y
theorem Cg.expr (a : ∀ en h, Φ en → f en h = f' en h) : Cg Φ (exprS f) (exprS f') := fun en h p => by
  rw [exprS_e, exprS_e, ← a en h p]
  refine ⟨rfl, fun en' y => ?_⟩
  cases z : f en h with
  | ok d h1 =>
    rw [z] at y
    have y : some en = some en' := y
    cases y
    exact p
  | err c h1 => rw [z] at y; cases y
  | bad => rw [z] at y; cases y
theorem Cg.ret (a : ∀ en h, Φ en → f en h = f' en h) : Cg Φ (retS f) (retS f') := fun en h p => by
  rw [retS_e, retS_e, ← a en h p]
  refine ⟨rfl, fun en' y => ?_⟩
  cases z : f en h with
  | ok d h1 => rw [z] at y; cases y
  | err c h1 => rw [z] at y; cases y
  | bad => rw [z] at y; cases y
theorem Cg.pass : Cg Φ passS passS := fun en h p => ⟨rfl, fun en' y => by cases y; exact p⟩
theorem Cg.cont : Cg Φ contS contS := fun en h p => ⟨rfl, fun en' y => by cases y; exact p⟩
theorem Cg.iff (a : ∀ en h, Φ en → t en h = t' en h) (b : Cg Φ s s') (c : Cg Φ r r') : Cg Φ (ifS t s r) (ifS t' s' r') := fun en h p => by
  rw [ifS_e, ifS_e, ← a en h p]
  cases z : t en h with
  | ok x h1 =>
    cases x with
    | true => exact b en h1 p
    | false => exact c en h1 p
  | err c h1 => exact ⟨rfl, fun en' y => by cases y⟩
  | bad => exact ⟨rfl, fun en' y => by cases y⟩
theorem Cg.forV {w : View} {b b' : D → En → IH → SO} (hb : ∀ d en h, Φ en → b d en h = b' d en h ∧ ∀ en', (b d en h).env = some en' → Φ en') : ∀ n i en h, Φ en → DL.forV w b n i en h = DL.forV w b' n i en h ∧ ∀ en', (DL.forV w b n i en h).env = some en' → Φ en' := by
  intro n
  induction n with
  | zero =>
    intro i en h p
    unfold DL.forV
    cases w h with
    | none => exact ⟨rfl, fun en' y => by cases y⟩
    | some xs =>
      dsimp only
      cases xs[i]? with
      | none => exact ⟨rfl, fun en' y => by cases y; exact p⟩
      | some d => exact ⟨rfl, fun en' y => by cases y⟩
  | succ n ih =>
    intro i en h p
    unfold DL.forV
    cases w h with
    | none => exact ⟨rfl, fun en' y => by cases y⟩
    | some xs =>
      dsimp only
      cases xs[i]? with
      | none => exact ⟨rfl, fun en' y => by cases y; exact p⟩
      | some d =>
        dsimp only
        obtain ⟨e, q⟩ := hb d en h p
        rw [← e]
        cases z : b d en h with
        | nx en1 h1 => exact ih (i + 1) en1 h1 (q en1 (by rw [z]; rfl))
        | ct en1 h1 => exact ih (i + 1) en1 h1 (q en1 (by rw [z]; rfl))
        | bk en1 h1 => exact ⟨rfl, fun en' y => by cases y; exact q _ (by rw [z]; rfl)⟩
        | rt d1 h1 => exact ⟨rfl, fun en' y => by cases y⟩
        | err c h1 => exact ⟨rfl, fun en' y => by cases y⟩
        | bad => exact ⟨rfl, fun en' y => by cases y⟩
theorem Cg.for {fi : MV} (b : Cg Φ s s') (c : ∀ en d, Φ en → Φ (en.set i (some d))) : Cg Φ (forS fi (nameG i) s) (forS fi (nameG i) s') := fun en h p => by
  unfold forS
  cases fi en h with
  | ok w h1 =>
    dsimp only [toS_ok]
    cases w h1 with
    | none => exact ⟨rfl, fun en' y => by cases y⟩
    | some xs => exact Cg.forV (fun d en h p => b _ _ (c en d p)) _ _ _ _ p
  | err c h1 => exact ⟨rfl, fun en' y => by cases y⟩
  | bad => exact ⟨rfl, fun en' y => by cases y⟩
end
/-- a run's end, its slots -/
theorem cut_nil {b : MS} {en en' : En} {h' : IH} (e : b en [] = .nx en' h') : cutS b en [] = .nx (en'.map (clo 0)) [] := by
  unfold cutS
  rw [e]
  rfl
theorem clBs_ints : ∀ (ns : List Int) (n : Nat), clBs n (ns.map D.int) = true
  | [], _ => rfl
  | _ :: ns, n => clBs_ints ns n
theorem clo_script (ns : List Int) : clo 0 (some (.fl (ns.map .int))) = some (.fl (ns.map .int)) := by
  exact if_pos (clBs_ints ns 0)
end DL

set_option Elab.async false
set_option linter.all false
set_option maxRecDepth 100000
set_option autoImplicit false
set_option maxHeartbeats 1000000
/-! Dicts displayed, lists and dicts cleared, extend, pop(i), three at once, list(range()), max, min, x != []. -/
namespace PySem.SeqAt
open AutoSeq1 (wpAny_loadPart')
open MeetsSeq MeetsSeq2 MeetsSeq3 SeqRoads2
section
variable {prog : Program} {w : World}
theorem ne_sizes_in (l b : Addr) (xs ys : Array Value) (n n2 : Nat) (dd dd2 : Option Addr) (sl sl2 : Array (Option Value)) (hz : xs.size ≠ ys.size) :
    MeetsIn prog w (Builtin.«list.__ne__» ⟨[.ref l, .ref b], []⟩)
      (fun A R s => s.heap.get? l = some { cls := .type "list", dict := dd, data := .seq xs n, slots := sl } ∧ s.heap.get? b = some { cls := .type "list", dict := dd2, data := .seq ys n2, slots := sl2 } ∧ R (.ok (.ret (.bool true))) s) := by
  intro A R s h
  obtain ⟨hp, g, d, tk, os⟩ := s
  obtain ⟨h1, h2, h⟩ := h
  have f3 := AutoSeq1.sub_list_list
  have hne : (xs.size != ys.size) = true := by simp [hz]
  wp_walk using wpAny_loadPart' h1, wpAny_loadPart' h2
  exact h
theorem rc_neSizes {A : Around} {s : Shared} {l b : Addr} {xs ys : Array Value} (h1 : s.heap.IsList l xs) (h2 : s.heap.IsList b ys) (hz : xs.size ≠ ys.size) (hu : A.units < cLine) (E Q : Value → Shared → Prop) (h : Q (.bool true) s) : wpAny (model prog w) A (richCompare .NotEq (.ref l) (.ref b)) Q E s := by
  obtain ⟨⟨c1, dd, d1, sl⟩, ho, hc, n, hd⟩ := id h1
  obtain ⟨⟨c2, dd2, d2, sl2⟩, ho2, hc2, n2, hd2⟩ := id h2
  simp only at hc hd hc2 hd2
  subst hc hd hc2 hd2
  have ta : s.TypeIs (.ref l) "list" := ⟨_, ho, rfl⟩
  have tb : s.TypeIs (.ref b) "list" := ⟨_, ho2, rfl⟩
  exact wpAny_richCompare_same_room (op := .NotEq) ta tb F.slot_list_ne (call_meetsIn F.slot_list_ne ta F.entry_list_ne (F.args_list_ne_2 _ _) (ne_sizes_in l b xs ys n n2 dd dd2 sl sl2 hz)
    ⟨ho, ho2, show Value.bool true ≠ Value.notImplemented ∧ Q (.bool true) s from ⟨(fun x => nomatch x), h⟩⟩) hu
end
end PySem.SeqAt
namespace DL
open PySem PySem.Spec PyProof.Rows L2
section
variable {X : Cx} {T : List (Addr × Str)} {E : XK} {a b c e o : Expr} {es rest : List Expr} {pos apos : Pos} {f k l : ME}
/-- x != [], the things of x may be any -/
theorem op_neNil {n : Nat} (hr : Room n X.A) : OpR X (compareOp .NotEq) (fun x y H Q => ∃ p q xs, x = .ref p ∧ y = .ref q ∧ SqL X.K H p xs ∧ SqL X.K H q [] ∧ Q (.bl (!xs.isEmpty)) H) := by
  intro pins s σ H x y v u Q I rx ry h
  obtain ⟨p, q, xs, rfl, rfl, hp, hq, hQ⟩ := h
  cases xs with
  | nil => exact op_neD hr.units pins s σ H _ _ v u Q I rx ry ⟨.list [], .list [], .lst hp .nil, .lst hq .nil, rfl, rfl, hQ⟩
  | cons z zs =>
    cases rx
    cases ry
    obtain ⟨us, r1, p1, _⟩ := I.list hp
    obtain ⟨ws, r2, p2, _⟩ := I.list hq
    cases r2
    have hu : X.A.units < cLine := by have := hr.un; omega
    refine SeqAt.rc_neSizes p1.isList p2.isList ?_ hu _ _ ?_
    · have := r1.length
      rw [List.size_toArray, ← this]
      simp
    · exact ⟨.bl true, H, I, rfl, hQ⟩
def neNilD : D → D → IH → Out D := fun x y h => match getL h x, getL h y with
  | some xs, some [] => .ok (.bl (!xs.isEmpty)) h
  | _, _ => .bad
theorem cr_neNil {n : Nat} (hr : Room n X.A) : CmpRule X T .NotEq neNilD := ⟨_, op_neNil hr, fun m h H x y dx dy E Q rh rx ry p => by
  unfold neNilD at p
  cases q : getL h dx with
  | none => rw [q] at p; exact p.elim
  | some xs =>
    rw [q] at p
    cases q2 : getL h dy with
    | none => rw [q2] at p; exact p.elim
    | some ys =>
      rw [q2] at p
      cases ys with
      | cons _ _ => exact p.elim
      | nil =>
        obtain ⟨a1, vs, rfl, s1, r1⟩ := getL_ok rh rx q
        obtain ⟨a2, ws, rfl, s2, r2⟩ := getL_ok rh ry q2
        cases r2
        refine ⟨a1, a2, vs, rfl, rfl, s1, s2, ?_⟩
        have e : vs.isEmpty = xs.isEmpty := by cases r1 <;> rfl
        rw [e]
        exact Post.val p rh (.bl _)⟩
/-! ### methods of lists -/
def clrD : D → List D → IH → Out D := fun x vs h => match refL h x, vs with
  | some (i, _), [] => .ok .non (h.set i (.lst []))
  | _, _ => .bad
theorem clrD_ok {g : G} : MtS g rClear clrD := by
  intro m h H x dx vs ds E Q rh rx rv p
  unfold clrD at p
  cases e : refL h dx with
  | none => rw [e] at p; exact p.elim
  | some z =>
    obtain ⟨i, xs⟩ := z
    rw [e] at p
    cases ds with
    | cons _ _ => exact p.elim
    | nil =>
      obtain ⟨rfl, hi⟩ := refL_ok e
      obtain ⟨ws, h1, h2⟩ := rh.lst hi
      cases rv
      cases rx
      obtain ⟨ex, rh'⟩ := lst_store (ys := []) (ws := []) rh hi .nil
      exact ⟨m i, ws, rfl, rfl, h1, p m _ _ ex rh' .non⟩
theorem de_lclear (ho : DE X T E o f) (hbase : attributeBase o "clear" X.env (eval o X.env) = eval o X.env := by rfl) (hline : (apos.endLine == pos.line) = true := by rfl) : DE X T E (.Call (.Attribute o "clear" apos) [] [] pos) (bmE clrD f nilA) :=
  de_bm0 PySem.F.slot_list_clear PySem.F.type_list_clear mt_clear clrD_ok ho hbase hline
def extD : D → List D → IH → Out D := fun x vs h => match refL h x, vs with
  | some (i, xs), [y] => (match getM h y with
    | some ys => grd (decide (xs.length + ys.length ≤ sizeLine)) (.ok .non (h.set i (.lst (xs ++ ys))))
    | none => .bad)
  | _, _ => .bad
theorem extD_ok {g : G} : MtS g rExtend extD := by
  intro m h H x dx vs ds E Q rh rx rv p
  unfold extD at p
  cases e : refL h dx with
  | none => rw [e] at p; exact p.elim
  | some z =>
    obtain ⟨i, xs⟩ := z
    rw [e] at p
    cases ds with
    | nil => exact p.elim
    | cons y ds =>
      cases ds with
      | cons _ _ => exact p.elim
      | nil =>
        dsimp only at p
        cases e2 : getM h y with
        | none => rw [e2] at p; exact p.elim
        | some ys =>
          rw [e2] at p
          obtain ⟨hc, p⟩ := Post.grd p
          obtain ⟨rfl, hi⟩ := refL_ok e
          obtain ⟨ws, h1, h2⟩ := rh.lst hi
          obtain ⟨u, rfl, ru⟩ := rv.one
          obtain ⟨l2, zs, rfl, h3, h4⟩ := getM_ok rh ru e2
          cases rx
          obtain ⟨ex, rh'⟩ := lst_store rh hi (h2.append h4)
          exact ⟨m i, l2, ws, zs, rfl, rfl, h1, h3, by rw [h2.length, h4.length]; exact of_decide_eq_true hc, p m _ _ ex rh' .non⟩
theorem de_extend {t : MA} (ho : DE X T E o f) (ha : DA X T E [e] t) (hbase : attributeBase o "extend" X.env (eval o X.env) = eval o X.env := by rfl)
    (hfew : ((backTo pos (starEach [e] X.env)).all (fun x => !x.1) && (backToKw pos (keywordEach [] X.env)).all (fun x => x.1.isSome)
      && decide (([e] : List Expr).length + ([] : List Keyword).length + (if ([] : List Keyword).isEmpty then 0 else 1) < 30)) = true := by rfl)
    (hline : (apos.endLine == pos.line) = true := by rfl) (hst : starEach [e] X.env = (false, eval e X.env) :: starEach [] X.env := by rfl) : DE X T E (.Call (.Attribute o "extend" apos) [e] [] pos) (bmE extD f t) :=
  de_bm PySem.F.slot_list_extend PySem.F.type_list_extend mt_extend extD_ok ho ha hbase hfew hline hst
def popiD : D → List D → IH → Out D := fun x vs h => match refL h x, vs with
  | some (i, xs), [.int z] => (match ixN xs.length z with
    | some k => (match xs[k]? with
      | some y => grd (decide (-(2 ^ 63) ≤ z) && decide (z < 2 ^ 63)) (.ok y (h.set i (.lst (xs.eraseIdx k))))
      | none => .bad)
    | none => .bad)
  | _, _ => .bad
theorem popiD_ok {g : G} : MtS g rPopAt popiD := by
  intro m h H x dx vs ds E Q rh rx rv p
  unfold popiD at p
  cases e : refL h dx with
  | none => rw [e] at p; exact p.elim
  | some z =>
    obtain ⟨i, xs⟩ := z
    rw [e] at p
    split at p
    · rename_i i' xs' z hh
      cases hh
      split at p
      · rename_i k hk
        split at p
        · rename_i y hy
          obtain ⟨hc, p⟩ := Post.grd p
          simp only [Bool.and_eq_true, decide_eq_true_eq] at hc
          obtain ⟨rfl, hi⟩ := refL_ok e
          obtain ⟨ws, h1, h2⟩ := rh.lst hi
          obtain ⟨u, rfl, ru⟩ := rv.one
          cases ru
          cases rx
          obtain ⟨w, z1, z2⟩ := h2.get hy
          obtain ⟨ex, rh'⟩ := lst_store rh hi (h2.erase k)
          have hs := (ixN_seq hk).1
          exact ⟨m i, ws, z, k, w, rfl, rfl, h1, hc.1, hc.2, by rw [h2.length]; exact hs, z1, p m _ _ ex rh' (z2.mono ex)⟩
        · exact p.elim
      · exact p.elim
    · exact p.elim
theorem de_popi {t : MA} (ho : DE X T E o f) (ha : DA X T E [e] t) (hbase : attributeBase o "pop" X.env (eval o X.env) = eval o X.env := by rfl)
    (hfew : ((backTo pos (starEach [e] X.env)).all (fun x => !x.1) && (backToKw pos (keywordEach [] X.env)).all (fun x => x.1.isSome)
      && decide (([e] : List Expr).length + ([] : List Keyword).length + (if ([] : List Keyword).isEmpty then 0 else 1) < 30)) = true := by rfl)
    (hline : (apos.endLine == pos.line) = true := by rfl) (hst : starEach [e] X.env = (false, eval e X.env) :: starEach [] X.env := by rfl) : DE X T E (.Call (.Attribute o "pop" apos) [e] [] pos) (bmE popiD f t) :=
  de_bm PySem.F.slot_list_pop PySem.F.type_list_pop mt_popAt popiD_ok ho ha hbase hfew hline hst
/-- d.clear() -/
def dclrE (f : ME) : ME := fun en h => (f en h).bind fun x h1 => match dctAt h1 x with
  | some (i, _) => .ok .non (h1.set i (.dct []))
  | none => .bad
theorem de_dclear (ha : DE X T E o f) (hbase : attributeBase o "clear" X.env (eval o X.env) = eval o X.env := by rfl) (hline : (apos.endLine == pos.line) = true := by rfl) : DE X T E (.Call (.Attribute o "clear" apos) [] [] pos) (dclrE f) :=
  PE.imp (pe_dclear ha hbase hline) fun σ H Q ⟨m, h, en, rel, p⟩ => chain rel p fun m1 h1 H1 v d e1 rel1 rv1 p1 => by
    split at p1
    · rename_i i kvs q
      obtain ⟨rfl, hi⟩ := dctAt_ok q
      obtain ⟨kws, y1, y2⟩ := rel1.rh.obj i _ hi
      cases rv1
      obtain ⟨ex, rh'⟩ := dct_store (kvs' := []) (l := []) rel1.rh hi .nil
      exact ⟨.inr (.inr (.inl ⟨rfl, .inl ⟨kws, y1⟩⟩)), _, kws, rfl, rfl, y1, p1 m1 _ _ ex rh' .non⟩
    · exact p1.elim
/-! ### list(range(..)), max, min -/
def lrg1E (r : Bool) (f : ME) : ME := fun en h => (f en h).bind fun x h1 => match x with
  | .int n => grd (inB n && decide (n ≤ 16777216)) (outL r (rangeL 0 n.toNat) h1)
  | _ => .bad
theorem rgV_rel {K : PySem.W.Frag} {m : Mp} {n : Nat} {H : Hp} (a b : Int) : Rvs K m n H (rgV a b) (rangeL a (b - a).toNat) := by
  have e : rgV a b = ((List.range (b - a).toNat).map fun i => a + ((i : Nat) : Int)).map V.int := by
    unfold rgV
    rw [List.map_map]
    rfl
  have e2 : rangeL a (b - a).toNat = ((List.range (b - a).toNat).map fun i => a + ((i : Nat) : Int)).map D.int := by
    unfold rangeL
    rw [List.map_map]
    rfl
  rw [e, e2]
  exact Rvs.of_ints _
theorem de_lrg1 (r : Bool) {p p2 pos2 : Pos} (hc : X.calm = true) (hm : X.mg "list" = none) (hm2 : X.mg "range" = none) (ha : DE X T E e f) (hg : Gl X "list" := by rfl) (hg2 : Gl X "range" := by rfl) (na : starEach [e] X.env = (false, eval e X.env) :: starEach [] X.env := by rfl)
    (na2 : starEach [.Call (.Name "range" p2) [e] [] pos2] X.env = (false, eval (.Call (.Name "range" p2) [e] [] pos2) X.env) :: starEach [] X.env := by rfl) : DE X T E (.Call (.Name "list" p) [.Call (.Name "range" p2) [e] [] pos2] [] pos) (lrg1E r f) :=
  PE.imp (pe_listRg hc hg hm (prg_1 hg2 hm2 ha na) na2) fun σ H Q ⟨m, h, en, rel, p⟩ => chain rel p fun m1 h1 H1 v d e1 rel1 rv1 p1 => by
    cases d with
    | int n =>
      cases rv1
      obtain ⟨hc, p1⟩ := Post.grd p1
      simp only [Bool.and_eq_true, decide_eq_true_eq, inB] at hc
      refine ⟨n, rfl, ?_, fun q hq => ?_⟩
      · unfold RgOk
        refine ⟨?_, ?_, ?_, ?_, ?_⟩ <;> omega
      · have z := rgV_rel (K := X.K) (m := m1) (n := h1.length) (H := H1) 0 n
        rw [show n - 0 = n by omega] at z
        exact Post.outL p1 rel1.rh z hq
    | _ => exact p1.elim
def maxI : Int → List Int → Int
  | m, [] => m
  | m, n :: ns => maxI (if n > m then n else m) ns
def minI : Int → List Int → Int
  | m, [] => m
  | m, n :: ns => minI (if n < m then n else m) ns
theorem maxI_ge : ∀ (ns : List Int) (m : Int), m ≤ maxI m ns ∧ ∀ n ∈ ns, n ≤ maxI m ns
  | [], m => ⟨Int.le_refl _, fun n h => by cases h⟩
  | n :: ns, m => by
    have ih := maxI_ge ns (if n > m then n else m)
    unfold maxI
    have h1 : m ≤ (if n > m then n else m) := by split <;> omega
    have h2 : n ≤ (if n > m then n else m) := by split <;> omega
    refine ⟨Int.le_trans h1 ih.1, fun x hx => ?_⟩
    rcases List.mem_cons.mp hx with rfl | hx
    · exact Int.le_trans h2 ih.1
    · exact ih.2 x hx
theorem maxI_mem : ∀ (ns : List Int) (m : Int), maxI m ns ∈ m :: ns
  | [], m => List.mem_cons_self
  | n :: ns, m => by
    have ih := maxI_mem ns (if n > m then n else m)
    unfold maxI
    rcases List.mem_cons.mp ih with ih | ih
    · rw [ih]
      split
      · exact List.mem_cons_of_mem _ List.mem_cons_self
      · exact List.mem_cons_self
    · exact List.mem_cons_of_mem _ (List.mem_cons_of_mem _ ih)
theorem minI_le : ∀ (ns : List Int) (m : Int), minI m ns ≤ m ∧ ∀ n ∈ ns, minI m ns ≤ n
  | [], m => ⟨Int.le_refl _, fun n h => by cases h⟩
  | n :: ns, m => by
    have ih := minI_le ns (if n < m then n else m)
    unfold minI
    have h1 : (if n < m then n else m) ≤ m := by split <;> omega
    have h2 : (if n < m then n else m) ≤ n := by split <;> omega
    refine ⟨Int.le_trans ih.1 h1, fun x hx => ?_⟩
    rcases List.mem_cons.mp hx with rfl | hx
    · exact Int.le_trans ih.1 h2
    · exact ih.2 x hx
theorem minI_mem : ∀ (ns : List Int) (m : Int), minI m ns ∈ m :: ns
  | [], m => List.mem_cons_self
  | n :: ns, m => by
    have ih := minI_mem ns (if n < m then n else m)
    unfold minI
    rcases List.mem_cons.mp ih with ih | ih
    · rw [ih]
      split
      · exact List.mem_cons_of_mem _ List.mem_cons_self
      · exact List.mem_cons_self
    · exact List.mem_cons_of_mem _ (List.mem_cons_of_mem _ ih)
def maxD (x : D) (h : IH) : Out D := match getL h x with
  | some xs => (match asIs xs with
    | some (n :: ns) => .ok (.int (maxI n ns)) h
    | _ => .bad)
  | none => .bad
def minD (x : D) (h : IH) : Out D := match getL h x with
  | some xs => (match asIs xs with
    | some (n :: ns) => .ok (.int (minI n ns)) h
    | _ => .bad)
  | none => .bad
theorem de_max1 {t : MA} {p : Pos} (hc : X.calm = true) (hm : X.mg "max" = none) (ha : DA X T E [e] t) (hg : Gl X "max" := by rfl) (he : starEach (e :: []) X.env = (false, eval e X.env) :: starEach [] X.env := by rfl) : DE X T E (.Call (.Name "max" p) [e] [] pos) (callB (one maxD) t) :=
  de_callB (cr_max hc) (one_ok fun m h H v d E Q rh r p => by
    unfold maxD at p
    split at p
    · rename_i xs q
      split at p
      · rename_i n ns q2
        obtain ⟨a, vs, rfl, s, r2⟩ := getL_ok rh r q
        rw [asIs_ok q2] at r2
        rw [r2.ints] at s
        refine ⟨a, n :: ns, rfl, s, by simp, fun m' h1 h2 => ?_⟩
        have e : m' = maxI n ns := by
          have g := maxI_ge ns n
          have hm := maxI_mem ns n
          have a1 := h2 _ hm
          have a2 : m' ≤ maxI n ns := by
            rcases List.mem_cons.mp h1 with rfl | h1
            · exact g.1
            · exact g.2 _ h1
          omega
        rw [e]
        exact Post.val p rh (.int _)
      · exact p.elim
    · exact p.elim) hm (by decide +kernel) ha hg (by decide) (by decide) he
theorem de_min1 {t : MA} {p : Pos} (hc : X.calm = true) (hm : X.mg "min" = none) (ha : DA X T E [e] t) (hg : Gl X "min" := by rfl) (he : starEach (e :: []) X.env = (false, eval e X.env) :: starEach [] X.env := by rfl) : DE X T E (.Call (.Name "min" p) [e] [] pos) (callB (one minD) t) :=
  de_callB (cr_min hc) (one_ok fun m h H v d E Q rh r p => by
    unfold minD at p
    split at p
    · rename_i xs q
      split at p
      · rename_i n ns q2
        obtain ⟨a, vs, rfl, s, r2⟩ := getL_ok rh r q
        rw [asIs_ok q2] at r2
        rw [r2.ints] at s
        refine ⟨a, n :: ns, rfl, s, by simp, fun m' h1 h2 => ?_⟩
        have e : m' = minI n ns := by
          have g := minI_le ns n
          have hm := minI_mem ns n
          have a1 := h2 _ hm
          have a2 : minI n ns ≤ m' := by
            rcases List.mem_cons.mp h1 with rfl | h1
            · exact g.1
            · exact g.2 _ h1
          omega
        rw [e]
        exact Post.val p rh (.int _)
      · exact p.elim
    · exact p.elim) hm (by decide +kernel) ha hg (by decide) (by decide) he
end
/-! ### a, b, c = x, y, z: three locals -/
def parS3 (i j l : Nat) (t : MA) : MS := fun en h => (t en h).toS fun ds h1 => match ds with
  | [x, y, z] => .nx (((en.set i (some x)).set j (some y)).set l (some z)) h1
  | _ => .bad
theorem Rvs.three {K : PySem.W.Frag} {m : Mp} {n : Nat} {H : Hp} {vs : List V} {d e f : D} (r : Rvs K m n H vs [d, e, f]) : ∃ v w u, vs = [v, w, u] ∧ Rv K m n H v d ∧ Rv K m n H w e ∧ Rv K m n H u f := by
  cases r with
  | cons a b =>
    obtain ⟨w, u, rfl, r1, r2⟩ := b.two
    exact ⟨_, w, u, rfl, a, r1, r2⟩
section
variable {X : Cx} {T : List (Addr × Str)} {E : XK} {a b c e o : Expr} {es rest : List Expr} {pos apos : Pos} {f k : ME}
theorem ds_par3 (i j l : Nat) {x y z : Str} {t : MA} {px py pz pt pt2 : Pos} {kt k2 : Nat} (hc : X.calm = true) (hN : X.N.Nodup) (ha : DA X T E [a, b, c] t) (hi : X.N[i]? = some x := by rfl) (hj : X.N[j]? = some y := by rfl) (hl : X.N[l]? = some z := by rfl) (hij : i ≠ j := by decide) (hil : i ≠ l := by decide) (hjl : j ≠ l := by decide)
    (hx : X.env.scope.names.lookup x = some .local := by rfl) (hy : X.env.scope.names.lookup y = some .local := by rfl) (hz : X.env.scope.names.lookup z = some .local := by rfl)
    (hw : swappedStores [.Tuple [.Name x px, .Name y py, .Name z pz] kt pt] (.Tuple [a, b, c] k2 pt2) X.env = pure (some [x, y, z]) := by rfl)
    (hs : swapsWithSole [.Tuple [.Name x px, .Name y py, .Name z pz] kt pt] (.Tuple [a, b, c] k2 pt2) pos.line X.env = pure false := by rfl) :
    DS X T E (.Assign [.Tuple [.Name x px, .Name y py, .Name z pz] kt pt] (.Tuple [a, b, c] k2 pt2) pos) (parS3 i j l t) :=
  PS.imp (ps_par3 hc hN hi hj hl hij hil hjl hx hy hz ha hw hs) fun D σ H ⟨m, h, en, rel, p⟩ => chainS rel p fun m1 h1 H1 v d e1 rel1 rv1 p1 => by
    split at p1
    · obtain ⟨u, w, q, rfl, r1, r2, r3⟩ := rv1.three
      exact ⟨u, w, q, rfl, p1 m1 H1 _ (Ex.refl _ _ _) (((rel1.set i r1).set j r2).set l r3)⟩
    · exact p1.elim
end
/-! ### {k: v, ..} -/
def evPs : List (ME × ME) → En → IH → Out (List (D × D))
  | [], _, h => .ok [] h
  | (fk, fv) :: fs, en, h => (fk en h).bind fun x h1 => (fv en h1).bind fun y h2 => (evPs fs en h2).bind fun ps h3 => .ok ((x, y) :: ps) h3
def RPr (K : PySem.W.Frag) : Mp → Nat → Hp → List (V × V) → List (D × D) → Prop := fun m n H => Paired fun p q => Rv K m n H p.1 q.1 ∧ Rv K m n H p.2 q.2
theorem redPs {g : G} {E : XK} {σ : L2.St} : ∀ (fs : List (ME × ME)) (H : Hp) (Q : List (V × V) → Hp → Prop), LX (RPr g.K) g E (evPs fs) σ H Q → tPairs (fs.map fun p => (LE g E p.1, LE g E p.2)) σ H Q
  | [], H, Q, ⟨m, h, en, rel, p⟩ => p m H [] (Ex.refl _ _ _) rel.rh .nil
  | (fk, fv) :: fs, H, Q, ⟨m, h, en, rel, p⟩ => by
    refine chain rel p fun m1 h1 H1 x dx e1 rel1 rx p1 => chain rel1 p1 fun m2 h2 H2 y dy e2 rel2 ry p2 => redPs fs H2 _ ?_
    exact chain rel2 p2 fun m3 h3 H3 ps ds e3 rel3 rs p3 => p3 m3 H3 _ (Ex.refl _ _ _) rel3.rh (.cons ⟨(rx.mono e2).mono e3, ry.mono e3⟩ rs)
def dkPs : List (D × D) → Option (List (DK × D)) := optAll fun p => (dkOf p.1).map fun k => (k, p.2)
def dmerge (kvs more : List (DK × D)) : List (DK × D) := more.foldl (fun acc kv => dput acc kv.1 kv.2) kvs
def dispE (fs : List (ME × ME)) : ME := fun en h => (evPs fs en (h ++ [.dct []])).bind fun ps h1 => match dkPs ps with
  | some kvs => if h1[h.length]? = some (.dct []) then grd (decide (kvs.length ≤ 15)) (.ok (.ref h.length) (h1.set h.length (.dct (dmerge [] kvs)))) else .bad
  | none => .bad
theorem RPs.merge {K : PySem.W.Frag} {m : Mp} {n : Nat} {H : Hp} : ∀ {more : List (Key × V)} {more' : List (DK × D)} {l : List (Key × V)} {l' : List (DK × D)}, RPs K m n H more more' → RPs K m n H l l' → RPs K m n H (mergeK l more) (dmerge l' more') := by
  intro more more' l l' r
  unfold RPs at r
  induction r generalizing l l' with
  | nil => intro q; exact q
  | cons h _ ih =>
    intro q
    have z : RPs K m n H (putK l _ _) (dput l' _ _) := RPs.put q h.2.1 h.2.2
    rw [← h.1] at z
    exact ih z
theorem dkPs_ok {K : PySem.W.Frag} {m : Mp} {n : Nat} {H : Hp} {ps : List (V × V)} {ds : List (D × D)} {kvs : List (DK × D)} (r : RPr K m n H ps ds) (e : dkPs ds = some kvs) : ∃ kws : List (Key × V), ps = kws.map (fun kv => (kV kv.1, kv.2)) ∧ RPs K m n H kws kvs := by
  have q := optAll_ok e
  clear e
  unfold RPr at r
  induction r generalizing kvs with
  | nil => cases q; exact ⟨[], rfl, .nil⟩
  | cons h1 _ ih =>
    cases q with
    | cons a b =>
      obtain ⟨kws, e1, e2⟩ := ih b
      obtain ⟨k, hk, rfl⟩ := Option.map_eq_some_iff.mp a
      obtain ⟨e3, hok⟩ := dkOf_ok hk h1.1
      refine ⟨(dkey k, _) :: kws, ?_, .cons ⟨rfl, hok, h1.2⟩ e2⟩
      rw [List.map_cons, ← e1, ← e3]
inductive DPs (X : Cx) (T : List (Addr × Str)) (E : XK) : List (Option Expr) → List Expr → List (ME × ME) → Prop
  | nil : DPs X T E [] [] []
  | cons {k v : Expr} {ks : List (Option Expr)} {vs : List Expr} {fk fv : ME} {fs : List (ME × ME)} : DE X T E k fk → DE X T E v fv → DPs X T E ks vs fs → DPs X T E (some k :: ks) (v :: vs) ((fk, fv) :: fs)
theorem DPs.pps {X : Cx} {T : List (Addr × Str)} {E : XK} {pos : Pos} : ∀ {ks : List (Option Expr)} {vs : List Expr} {fs : List (ME × ME)}, DPs X T E ks vs fs → PPs X pos ks vs (fs.map fun p => (LE (gX X T) E p.1, LE (gX X T) E p.2))
  | _, _, _, .nil => pps_nil
  | _, _, _, .cons a b c => pps_cons a b (DPs.pps c)
theorem de_disp {X : Cx} {T : List (Addr × Str)} {E : XK} {pos : Pos} {ks : List (Option Expr)} {vs : List Expr} {fs : List (ME × ME)} (h : DPs X T E ks vs fs) (hall : ks.all (·.isSome) = true := by rfl) (hl : ks.length = vs.length := by rfl) (h0 : ks ≠ [] := by exact fun z => by cases z) (h15 : ks.length ≤ 15 := by decide) : DE X T E (.Dict ks vs pos) (dispE fs) :=
  PE.imp (pe_disp h.pps hall hl h0 h15) fun σ H Q ⟨m, h, en, rel, p⟩ q hq => by
    have hlen : (h ++ [O.dct []]).length = h.length + 1 := by simp
    have hk := upd_keeps (o := .dK []) hq
    have ex : Ex m h.length H (put m h.length q) (h ++ [O.dct []]).length (upd H q (.dK [])) := by rw [hlen]; exact Ex.alloc hq hk
    have rh1 := rel.rh.alloc (o := .dct []) hq hk ⟨[], upd_same, .nil⟩
    have rel1 := rel.next ex rh1
    refine redPs fs _ _ ?_
    refine ⟨_, _, en, rel1, ?_⟩
    unfold dispE at p
    cases z : evPs fs en (h ++ [.dct []]) with
    | bad => rw [z] at p; exact p.elim
    | err c h1 =>
      rw [z] at p
      exact fun m' H' C e1 rh hC => p m' H' C (ex.trans e1) rh hC
    | ok ps h1 =>
      rw [z, Out.bind_ok] at p
      intro m' H' ws e1 rh' rw'
      split at p
      · rename_i kvs hkv
        split at p
        · rename_i hd
          obtain ⟨hc, p⟩ := Post.grd p
          have hlt : h.length < (h ++ [O.dct []]).length := by rw [hlen]; omega
          have em : m' h.length = q := by rw [e1.same h.length hlt, put_same]
          obtain ⟨kws, ew, rk⟩ := dkPs_ok rw' hkv
          obtain ⟨l, y1, y2⟩ := rh'.obj h.length _ hd
          cases y2
          rw [em] at y1
          obtain ⟨ex2, rh2⟩ := dct_store rh' hd (rk.merge (l := []) (l' := []) .nil)
          rw [em] at ex2 rh2
          have hl2 : kws.length ≤ 15 := by rw [rk.length]; exact of_decide_eq_true hc
          refine ⟨y1, kws, ew, hl2, p m' _ _ ((ex.trans e1).trans ex2) rh2 ?_⟩
          have zz : Rv X.K m' (h1.set h.length (.dct (dmerge [] kvs))).length (upd H' q (.dK (mergeK [] kws))) (.ref (m' h.length)) (.ref h.length) := .ref (by rw [List.length_set]; exact Nat.lt_of_lt_of_le hlt e1.le)
          rw [em] at zz
          exact zz
        · exact p.elim
      · exact p.elim
end DL

set_option Elab.async false
set_option linter.all false
set_option maxRecDepth 100000
set_option autoImplicit false
set_option maxHeartbeats 1000000
/-! A dict's row as one of several targets; sorted ints, dict keys as a list that may be changed; the place in a tuple of words. -/
namespace DL
open PySem PySem.Spec PyProof.Rows L2
theorem cE_ne {d : D} : ∀ (en : En) (h : IH) (c' : Nat) (h' : IH), cE d en h ≠ .err c' h' := fun en h c' h' z => by cases z
section
variable {X : Cx} {T : List (Addr × Str)} {E : XK} {a b c e o i : Expr} {es rest : List Expr} {pos apos : Pos} {f k l : ME}
def dsubG (fo fi : ME) : MG := fun d en h => (fo en h).bind fun x h1 => (fi en h1).bind fun y h2 => (dputD x y d h2).bind fun _ h3 => .ok en h3
theorem dg_dsub {nr : Nat} (hr : Room nr X.A) (ho : ∀ E, DE X T E o f) (hi : ∀ E, DE X T E i k) (ne1 : ∀ en h c' h', f en h ≠ .err c' h') (ne2 : ∀ en h c' h', k en h ≠ .err c' h')
    (ha : ∀ v, assign (.Subscript o i pos) X.env v = (do
      let ov ← holding [v] (eval o X.env)
      let iv ← holding [v, ov] (eval i X.env)
      standAt pos
      holding [v, ov, iv] (setItem ov iv v)
      release [v, ov, iv] []) := by intro _; rfl) : DG X T (.Subscript o i pos) (dsubG f k) :=
  PG.imp (pg_sub (ho NoE) (hi NoE) (set_dict (by have := hr.un; omega)) ha) fun v σ H Q ⟨m, h, en, d, rel, rv, p⟩ => by
    refine ⟨m, h, en, rel, ?_⟩
    unfold dsubG at p
    cases q0 : f en h with
    | bad => rw [q0] at p; exact p.elim
    | err c' h' => exact absurd q0 (ne1 en h c' h')
    | ok x h1 =>
      rw [q0, Out.bind_ok] at p
      intro m1 H1 u ex1 rh1 ru
      have rel1 := rel.next ex1 rh1
      refine ⟨m1, h1, en, rel1, ?_⟩
      cases q1 : k en h1 with
      | bad => rw [q1] at p; exact p.elim
      | err c' h' => exact absurd q1 (ne2 en h1 c' h')
      | ok y h2 =>
        rw [q1, Out.bind_ok] at p
        intro m2 H2 w ex2 rh2 rw2
        have rel2 := rel1.next ex2 rh2
        unfold dputD at p
        cases q : dctAt h2 x with
        | none => rw [q] at p; exact p.elim
        | some r =>
          obtain ⟨j, kvs⟩ := r
          rw [q] at p
          cases q3 : dkOf y with
          | none => rw [q3] at p; exact p.elim
          | some key =>
            rw [q3] at p
            dsimp only at p
            by_cases hc : kvs.length < sizeLine
            · rw [decide_eq_true hc, grd_true, Out.bind_ok] at p
              obtain ⟨rfl, hj⟩ := dctAt_ok q
              obtain ⟨kws, y1, y2⟩ := rh2.obj j _ hj
              obtain ⟨rfl, hk⟩ := dkOf_ok q3 rw2
              have ru2 := ru.mono ex2
              cases ru2
              obtain ⟨ex3, rh3⟩ := dct_store rh2 hj (y2.put hk ((rv.mono ex1).mono ex2))
              exact ⟨_, _, rfl, DPut.k y1 (by rw [y2.length]; exact hc), p m2 _ σ ((ex1.trans ex2).trans ex3) (rel2.next ex3 rh3)⟩
            · rw [decide_eq_false hc] at p
              exact p.elim
/-- sorted(x) -/
def sortIR (r : Bool) (x : D) (h : IH) : Out D := match getL h x with
  | some xs => (match asIs xs with
    | some ns => outL r ((sortI ns).map .int) h
    | none => .bad)
  | none => .bad
theorem de_sortIR (r : Bool) {t : MA} {p : Pos} (hc : X.calm = true) (hm : X.mg "sorted" = none) (ha : DA X T E [e] t) (hg : Gl X "sorted" := by rfl) (he : starEach (e :: []) X.env = (false, eval e X.env) :: starEach [] X.env := by rfl) : DE X T E (.Call (.Name "sorted" p) [e] [] pos) (callB (one (sortIR r)) t) :=
  de_callB cr_sortedI (one_ok fun m h H v d E Q rh rr p => by
    unfold sortIR at p
    split at p
    · rename_i xs q
      split at p
      · rename_i ns q2
        obtain ⟨a, vs, rfl, s, r2⟩ := getL_ok rh rr q
        rw [asIs_ok q2] at r2
        rw [r2.ints] at s
        refine ⟨a, ns, rfl, s, fun ns' q pm pw hq => ?_⟩
        rw [sortI_of pm pw]
        exact Post.outL p rh (Rvs.of_ints _) hq
      · exact p.elim
    · exact p.elim) hm (by decide +kernel) ha hg (by decide) (by decide) he
def sortDR (r : Bool) (x : D) (h : IH) : Out D := match dctAt h x with
  | some (_, kvs) => (match ikeys kvs with
    | some ks => grd (decide (ks.length < 64)) (outL r ((sortI ks).map .int) h)
    | none => .bad)
  | none => .bad
theorem de_sortDR (r : Bool) {t : MA} {p : Pos} (hc : X.calm = true) (hm : X.mg "sorted" = none) (ha : DA X T E [e] t) (hg : Gl X "sorted" := by rfl) (he : starEach (e :: []) X.env = (false, eval e X.env) :: starEach [] X.env := by rfl) : DE X T E (.Call (.Name "sorted" p) [e] [] pos) (callB (one (sortDR r)) t) :=
  de_callB (call_sortedDI hc) (one_ok fun m h H v d E Q rh rr p => by
    unfold sortDR at p
    cases q : dctAt h d with
    | none => rw [q] at p; exact p.elim
    | some z =>
      obtain ⟨i, kvs⟩ := z
      rw [q] at p
      dsimp only at p
      cases q2 : ikeys kvs with
      | none => rw [q2] at p; exact p.elim
      | some ks =>
        rw [q2] at p
        dsimp only at p
        obtain ⟨hz, p⟩ := Post.grd p
        obtain ⟨rfl, hi⟩ := dctAt_ok q
        obtain ⟨l, y1, y2⟩ := rh.obj i _ hi
        cases rr
        refine ⟨_, l, ks, rfl, .inl y1, ?_, of_decide_eq_true hz, fun ys z pm pw hq => ?_⟩
        · rw [y2.keys, ikeys_ok q2, List.map_map]
          rfl
        · rw [sortI_of pm pw]
          exact Post.outL p rh (Rvs.of_ints _) hq) hm (by decide +kernel) ha hg (by decide) (by decide) he
end
end DL

set_option Elab.async false
set_option linter.all false
set_option maxRecDepth 100000
set_option autoImplicit false
set_option maxHeartbeats 1000000
/-! sorted(ints, key=lambda x: rows[x][c]). -/
namespace DL
open PySem PySem.Spec PyProof.Rows L2
/-- the lambda's names: x its own, c captured -/
structure LamK (sc scope : Scope) (x c : Str) : Prop where
  kind : scope.kind = .function
  co : scope.isCoroutine = false
  gen : scope.isGenerator = false
  nocell : ∀ y ∈ scope.names, y.2 ≠ .cell
  x : scope.names.lookup x = some .local
  c : scope.names.lookup c = some .free
  free : ∀ y ∈ scope.names, y.2 = .free → sc.names.lookup y.1 = some .cell ∨ sc.names.lookup y.1 = some .free
def lamKB (sc scope : Scope) (x c : Str) : Bool :=
  decide (scope.kind = .function) && !scope.isCoroutine && !scope.isGenerator && (scope.names.all fun y => !decide (y.2 = .cell)) && decide (scope.names.lookup x = some .local) && decide (scope.names.lookup c = some .free) &&
    scope.names.all fun y => (!decide (y.2 = .free) || decide (sc.names.lookup y.1 = some .cell) || decide (sc.names.lookup y.1 = some .free))
theorem lamK_by {sc scope : Scope} {x c : Str} (h : lamKB sc scope x c = true) : LamK sc scope x c := by
  unfold lamKB at h
  simp only [Bool.and_eq_true, Bool.or_eq_true, Bool.not_eq_true', decide_eq_true_eq, decide_eq_false_iff_not, List.all_eq_true] at h
  obtain ⟨⟨⟨⟨⟨⟨h1, h2⟩, h3⟩, h4⟩, h5⟩, h6⟩, h7⟩ := h
  refine ⟨h1, h2, h3, h4, h5, h6, fun y hy e => ?_⟩
  rcases h7 y hy with (z | z) | z
  · exact absurd e z
  · exact .inl z
  · exact .inr z
/-- the key of a number: the item at c of the row at it -/
def keyAt (rows : List D) (c : Nat) (n : Int) : Option Int :=
  if 0 ≤ n then match rows[n.toNat]? with
    | some (.tup ds) => (match ds[c]? with
      | some (.int k) => some k
      | _ => none)
    | _ => none
  else none
def keyI (rows : List D) (c : Nat) (n : Int) : Int := (keyAt rows c n).getD 0
theorem keyAt_ok {rows : List D} {c : Nat} {n k : Int} (h : keyAt rows c n = some k) : 0 ≤ n ∧ ∃ ds, rows[n.toNat]? = some (.tup ds) ∧ ds[c]? = some (.int k) := by
  unfold keyAt at h
  split at h
  · rename_i h0
    split at h
    · rename_i ds q
      split at h
      · rename_i k' q2
        cases h
        exact ⟨h0, ds, q, q2⟩
      · cases h
    · cases h
  · cases h
section
variable {X : Cx} {pins : List (Addr × Obj)} {σ : L2.St} {H : Hp} {s : Shared}
/-- the lambda called: it reads, and changes nothing -/
theorem key_call {A : Around} {x cn : Str} {f c' cc la ta : Addr} {pm ctv : Value} {par : Arguments} {sc : Scope} {cl : List (Str × Addr)} {col : Nat} {j : Nat} {p1 p2 p3 p4 p5 : Pos} {n k : Int} {t t2 : Tok} {its its2 : List Value} {qn : Str} {E : Value → Shared → Prop}
    (hdp : A.depth < recursionLimit) (nl : s.heap.NoLimit) (hkind : sc.kind = .function) (hco : sc.isCoroutine = false) (hgen : sc.isGenerator = false) (hnc : ∀ y ∈ sc.names, y.2 ≠ .cell) (hx : sc.names.lookup x = some .local) (hc : sc.names.lookup cn = some .free)
    (hf : s.heap.get? f = some (PySem.W.kla_obj "<lambda>" qn par (.Subscript (.Subscript (.Name cn p1) (.Name x p2) p3) (.Constant (.int (col : Int)) j p4) p5) sc cl pm c' ctv)) (hcode : s.heap.CodeRec (.ref c') qn)
    (hbi : bindArgs (PySem.W.kla_fn "<lambda>" qn par (.Subscript (.Subscript (.Name cn p1) (.Name x p2) p3) (.Constant (.int (col : Int)) j p4) p5) sc cl pm (.ref c') ctv) ⟨[.int n t], []⟩ = pure [(x, .int n t)])
    (hcl : cl.lookup cn = some cc) (hcell : s.heap.IsCell cc (some (.ref la))) (hl : s.heap.IsList la its.toArray) (hz : its.length ≤ sizeLine) (h0 : 0 ≤ n) (hn : its[n.toNat]? = some (.ref ta)) (htu : IsTup s.heap ta its2.toArray) (hz2 : its2.length ≤ sizeLine) (hk : its2[col]? = some (.int k t2))
    (hd1 : (cn == ("__debug__" : Str)) = false := by decide) (hd2 : (cn == ("__classdict__" : Str)) = false := by decide) (hd3 : (x == ("__debug__" : Str)) = false := by decide) :
    wpAny (model X.prog X.w) A (call (.ref f) [.int n t]) (PySem.W.KeyPure (.int k) s) E s := by
  refine wpAny_call (codeAny_mono (R := fun r s' => ∃ u, r = .ok (.ret u) ∧ PySem.W.KeyPure (.int k) s u s') ?_ fun r s' h => ?_)
  case refine_2 =>
    obtain ⟨u, e, q⟩ := h
    subst e
    exact q
  refine PySem.W.kla_callFunE hdp hf rfl hco hgen rfl hcode ?_
  rw [hbi]
  refine wpAny_pure (wpAny_newFunctionEnv hnc (fun y hy => ?_) (fun h2 n1 n2 => ⟨nl.fresh _ n2, ?_⟩) hkind)
  · have e : y = (x, Value.int n t) := by simpa using hy
    rw [e]
    exact hx
  have kp : ∀ b o, s.heap.get? b = some o → h2.get? b = some o := fun b o e => n2.extBut b o (Nat.ne_of_lt (Heap.lt_size e)) (Heap.get?_push_of_some _ e)
  have hsz := line63
  refine PySem.W.kla_codeExpr ?_
  refine Subscript_ (Subscript_ (wpAny_Name (wpAny_loadName_free hkind hc hcl (hcell.keeps kp) ?_ hd2) hd1))
  refine wpAny_Name (wpAny_loadName_local hkind hx n1 (v := .int n t) (by simp) ?_) hd3
  have hlt : n.toNat < its.length := (List.getElem?_eq_some_iff.mp hn).1
  have hlt2 : col < its2.length := (List.getElem?_eq_some_iff.mp hk).1
  have hl2 : h2.IsList la its.toArray := let ⟨o, ho, r⟩ := hl; ⟨o, kp _ _ ho, r⟩
  refine item_listR (x := .ref ta) hl2 h0 (by omega) (by simpa using hn) ?_ rfl
  refine wpAny_Constant_int ?_
  refine subscriptTail_builtinR (x := .int k t2) (htu.keeps kp).typeIs slot_tuple_getitem.lookup
    (getItem_tuple (j := col) (Q := fun r s' => r = .int k t2 ∧ _) (htu.keeps kp) (by omega) (by omega) (by rw [List.size_toArray]; exact seqIndex_of (by omega) (by omega)) (by simpa using hk) ⟨rfl, ?_⟩) rfl
  exact ⟨_, rfl, _, _, rfl, kp, .int _ _⟩
end
theorem Post.ext {α β : Type} {R : (Mp) → Nat → Hp → β → α → Prop} {g : G} {m m' : Mp} {n n' : Nat} {H H' : Hp} {E : XK} {Q : β → Hp → Prop} (a : Ex m n H m' n' H') : ∀ {o : Out α}, Post R g m n H E Q o → Post R g m' n' H' E Q o
  | .ok _ _, p => fun m2 H2 v b c d => p m2 H2 v (a.trans b) c d
  | .err _ _, p => fun m2 H2 C b c d => p m2 H2 C (a.trans b) c d
  | .bad, p => p
/-- the rows that the key reads, the column -/
def sortKD (r : Bool) (i c : Nat) (x : D) (en : En) (h1 : IH) : Out D := match getL h1 x, en[i]? with
  | some xs, some (some cs) => (match getL h1 cs, asIs xs with
    | some rows, some ns => grd (ns.all fun n => (keyAt rows c n).isSome) (outL r ((isrt (fun a b => decide (keyI rows c a ≤ keyI rows c b)) ns).map .int) h1)
    | _, _ => .bad)
  | _, _ => .bad
def sortKE (r : Bool) (i c : Nat) (f : ME) : ME := fun en h => (f en h).bind fun x h1 => sortKD r i c x en h1
theorem each_ints : ∀ {ns : List Int} {us : List Value}, Vals (ns.map V.int) us → PySem.W.EachIs (fun (v : Value) (n : Int) => ∃ t, v = .int n t) us ns
  | [], us, h => by
    have h : Vals [] us := h
    cases h
    exact .nil
  | n :: ns, us, h => by
    have h : Vals (.int n :: ns.map V.int) us := h
    cases h with
    | cons h1 h2 => exact .cons h1 (each_ints h2)
theorem ints_each : ∀ {ns : List Int} {us : List Value}, PySem.W.EachIs (fun (v : Value) (n : Int) => ∃ t, v = .int n t) us ns → Vals (ns.map V.int) us
  | _, _, .nil => .nil
  | _, _, .cons a b => .cons a (ints_each b)
section
variable {X : Cx} {T : List (Addr × Str)} {E : XK} {e : Expr} {f : ME}
theorem de_sortK (r : Bool) (i col : Nat) {x cn : Str} {c P : Addr} {nr : Nat} {par : Arguments} {sc : Scope} {j : Nat} {p p1 p2 p3 p4 p5 lpos kpos pos : Pos} (hr : Room (nr + 2) X.A) (TB : LamX.TabB X.base X.mg c P) (hcode : X.env.code = .ref c)
    (hmT : (P, X.env.qual ++ "<lambda>") ∈ T) (hu : ∀ p ∈ T, p.1 = P → p.2 = X.env.qual ++ "<lambda>") (L : LamK X.env.scope sc x cn) (he : DE X T E e f) (hm : X.mg "sorted" = none)
    (hN : X.N[i]? = some cn := by rfl) (hv : Vis X.env.scope cn := by first | exact Or.inl rfl | exact Or.inr (Or.inl rfl) | exact Or.inr (Or.inr rfl))
    (hg : Gl X "sorted" := by rfl) (hdef : defaultsOf par X.env = ([], []) := by rfl)
    (hbi : ∀ (q : Str) (cl : List (Str × Addr)) (pm cv ctv v : Value), bindArgs (PySem.W.kla_fn "<lambda>" q par (.Subscript (.Subscript (.Name cn p1) (.Name x p2) p3) (.Constant (.int (col : Int)) j p4) p5) sc cl pm cv ctv) ⟨[v], []⟩ = pure [(x, v)] := by intros; rfl)
    (hd1 : (cn == ("__debug__" : Str)) = false := by decide) (hd2 : (cn == ("__classdict__" : Str)) = false := by decide) (hd3 : (x == ("__debug__" : Str)) = false := by decide)
    (hst1 : backTo pos (starEach [e] X.env) = (false, eval e X.env) :: backTo pos (starEach [] X.env) := by rfl) (hst2 : (backTo pos (starEach [e] X.env)).any (·.1) = false := by rfl) :
    DE X T E (.Call (.Name "sorted" p) [e] [⟨some "key", .Lambda par (.Subscript (.Subscript (.Name cn p1) (.Name x p2) p3) (.Constant (.int (col : Int)) j p4) p5) sc lpos, kpos⟩] pos) (sortKE r i col f) := by
  refine ⟨fun pins s σ H Q I hh => ?_⟩
  obtain ⟨m, h, en, rel, post⟩ := hh
  refine wpAny_Call_Name_kw (ld_blt I hg hm (u := .builtin "sorted") (by decide +kernel) ?_ (by decide) (by decide))
  refine PyProof.Rows.callWith_kw ?_ hst1 hst2 rfl rfl
  rw [hst1]
  refine Calls.spliced_cons (thn (he.run pins s σ H _ I (chain (P := fun v H1 => ∃ m1 h1 d, Ex m h.length H m1 h1.length H1 ∧ Rel (gX X T) m1 h1 σ en H1 ∧ Rv X.K m1 h1.length H1 v d ∧ Post (Rv X.K) (gX X T) m1 h1.length H1 E Q (sortKD r i col d en h1)) rel post fun m1 h1 H1 v d a b c e => ⟨m1, h1, d, a, b, c, e⟩)) fun u s1 ⟨v, H1, I1, rv, m1, h1, d, ex1, rel1, rd, post1⟩ => ?_)
  refine Calls.spliced_nil ?_
  show wpAny _ _ (evalAll [do let v ← eval (.Lambda par (.Subscript (.Subscript (.Name cn p1) (.Name x p2) p3) (.Constant (.int (col : Int)) j p4) p5) sc lpos) X.env; standAt pos; pure v]) _ _ s1
  have hfree : ∀ y ∈ sc.names, y.2 = .free → ∃ c, X.env.cells.lookup y.1 = some c := fun y hy e => by
    rcases L.free y hy e with k | k
    · exact I1.ok.has _ (.inl k)
    · exact I1.ok.has _ (.inr k)
  refine wpAny_evalAll_cons (wpAny_bind (LamX.lam_make2 I1 TB hcode hmT hu rel1.rh.tab hdef hfree fun f c' pm' ctv H2 s2 I2 eN T2 hf nf ns hco => wpAny_bind (wpAny_standAt (wpAny_pure (wpAny_evalAll_nil ?_)))))
  show wpAny _ _ (call (.builtin "sorted") [u] [(Str.ofString "key", .ref f)]) _ _ s2
  have rel2 : Rel (gX X T) m1 h1 σ en H2 := rel1.next (Ex.extN eN) (rel1.rh.extN eN T2)
  have rd2 : Rv X.K m1 h1.length H2 v d := rd.mono (Ex.extN eN)
  unfold sortKD at post1
  split at post1
  case h_2 => exact post1.elim
  rename_i xs cs q1 q2
  split at post1
  case h_2 => exact post1.elim
  rename_i rows ns' q3 q4
  obtain ⟨hc, post2⟩ := Post.grd post1
  rw [List.all_eq_true] at hc
  obtain ⟨a, vs, rfl, sq, rs⟩ := getL_ok rel2.rh rd2 q1
  rw [asIs_ok q4] at rs
  rw [rs.ints] at sq
  have eu : u = Value.ref a := rv
  subst eu
  obtain ⟨its, rvs, hl, hz⟩ := I2.list sq
  rw [List.length_map] at hz
  -- the rows
  obtain ⟨vc, hσ, rc⟩ := rel2.env i cs q2
  obtain ⟨ac, vcs, rfl, sqc, rcs⟩ := getL_ok rel2.rh rc q3
  obtain ⟨itc, rvc, hlc, hzc⟩ := I2.list sqc
  have hlc' : s2.heap.IsList ac itc.toArray := hlc.isList
  -- the cell
  obtain ⟨cc, hcl, hcell⟩ : ∃ cc, (cloFrom X.env.cells sc.names []).lookup cn = some cc ∧ s2.heap.IsCell cc (some (.ref ac)) := by
    have hy : (cn, NameKind.free) ∈ sc.names := PySem.mem_of_lookup L.c
    obtain ⟨cc, hcc⟩ := mem_lookup (cloFrom_has (cells := X.env.cells) (acc := []) hy)
    obtain ⟨c1, hc1⟩ := hfree _ hy rfl
    have hc1 : X.env.cells.lookup cn = some c1 := hc1
    have e2 : cc = c1 := by
      rcases cloFrom_mem (PySem.mem_of_lookup hcc) with hm | ⟨_, h2⟩
      · cases hm
      · rw [h2, hc1]; rfl
    subst e2
    refine ⟨cc, hcc, ?_⟩
    obtain ⟨mm, hn, hlo⟩ := I2.loc
    obtain ⟨w', rw', q⟩ := hlo i cn _ hN hσ hv
    have ew : w' = Value.ref ac := rw'
    subst ew
    rcases q with ⟨k', _⟩ | ⟨_, c3, e', z⟩
    · have k' : X.env.scope.names.lookup cn = some .local := k'
      rcases L.free _ hy rfl with k2 | k2 <;> rw [show X.env.scope.names.lookup cn = _ from k2] at k' <;> cases k'
    · rw [hc1] at e'
      cases e'
      exact z
  obtain ⟨⟨oc, vo, tt, y1, y2, y3⟩, _, _⟩ := I2.hok c' _ hco
  have hu2 := hr.un
  have hdp := hr.dp
  refine PySem.W.sorted_key_data (b := false) (k := fun n : Int => PyData.int (keyI rows col n)) (R := fun (v : Value) (n : Int) => ∃ t, v = .int n t) hl.isList (each_ints rvs) ?_ ?_ hz ?_ (PyProof.Rows.ksk_s1 _ _) (fun _ => PyProof.Rows.ksk_l1 _ _) (fun _ => PyProof.Rows.ksk_t1 _ _) ?_ ?_
  · intro x hx y hy
    obtain ⟨n1, _, rfl⟩ := List.mem_map.mp hx
    obtain ⟨n2, _, rfl⟩ := List.mem_map.mp hy
    rfl
  · refine .inr fun d hd => ?_
    obtain ⟨n1, _, rfl⟩ := List.mem_map.mp hd
    exact ⟨(by intro z; cases z), (by intro xs z; cases z)⟩
  · intro n hn
    show X.A.units + 2 + 0 < _
    omega
  · rintro v n ⟨t, rfl⟩ hn h' tk kp
    obtain ⟨k, hk⟩ := Option.isSome_iff_exists.mp (hc n hn)
    obtain ⟨h0, ds, e1, e2⟩ := keyAt_ok hk
    obtain ⟨vt, g1, g2⟩ := rcs.get e1
    obtain ⟨ta, vts, rfl, sqt, rts⟩ := getT_ok g2 (show getT (.tup ds) = some ds from rfl)
    obtain ⟨itt, rvt, hlt, hzt⟩ := I2.tuple sqt
    obtain ⟨wt, g3, g4⟩ := rvc.get g1
    have g4 : wt = Value.ref ta := g4
    subst g4
    obtain ⟨vk, g5, g6⟩ := rts.get e2
    cases g6
    obtain ⟨wk, g7, t2, rfl⟩ := rvt.get g5
    have ek : keyI rows col n = k := by unfold keyI; rw [hk]; rfl
    rw [ek]
    exact key_call (X := X) (s := { s2 with heap := h', toks := tk }) (by show X.A.depth < _; omega) (I2.nolimit.keeps kp) L.kind L.co L.gen L.nocell L.x L.c (kp _ _ hf) ⟨c', oc, vo, tt, rfl, kp _ _ y1, y2, y3⟩ (hbi _ _ _ _ _ _) hcl (hcell.keeps kp) (let ⟨o, ho, r⟩ := hlc'; ⟨o, kp _ _ ho, r⟩) (by rw [← rvc.length]; exact hzc) h0 g3 (hlt.keeps kp) (by rw [← rvt.length]; exact hzt) g7 hd1 hd2 hd3
  · intro out cnt h' tk kp _ hD hlen hE
    have hE2 := ints_each hE
    rw [PySem.W.dataLe_int, isrt_eq (fun a b c h1 h2 => by simp only [decide_eq_true_eq] at *; omega) (fun a b => by simp only [Bool.or_eq_true, decide_eq_true_eq]; omega)] at hE2
    have hz2 : ((isrt (fun a b => decide (keyI rows col a ≤ keyI rows col b)) ns').map V.int).length ≤ sizeLine := by
      rw [List.length_map, (isrt_perm _).length_eq]
      exact hz
    refine ⟨.ref _, upd H2 (s2.heap.objs.size + 1) (.lst ((isrt (fun a b => decide (keyI rows col a ≤ keyI rows col b)) ns').map V.int)), I2.laid (t' := tk) kp (Nat.le_succ _) ⟨hz2, out, cnt, hE2, hD⟩, rfl, ?_⟩
    exact Post.outL (g := gX X T) (m := m1) (h := h1) (E := E) (Post.ext (Ex.extN eN) post2) rel2.rh (Rvs.of_ints _) (I2.hok.fresh (Nat.le_succ _))
end
end DL

set_option Elab.async false
set_option linter.all false
set_option maxRecDepth 100000
set_option autoImplicit false
set_option maxHeartbeats 1000000
/-! max() of tuples of ints. -/
namespace DL
open PySem PySem.Spec PyProof.Rows L2
theorem reads_ints {h : Heap} : ∀ {us : List Value} {ns : List Int} {ds : List PyData} {as : List Addr}, Vals (ns.map V.int) us → ReadsAll h us ds as → ds = ns.map .int
  | us, [], ds, as, v, r => by
    have v : Vals [] us := v
    cases v
    cases r
    rfl
  | us, n :: ns, ds, as, v, r => by
    have v : Vals (.int n :: ns.map V.int) us := v
    cases v with
    | cons h1 h2 =>
      obtain ⟨t, rfl⟩ := h1
      cases r with
      | cons r1 r2 =>
        cases r1
        rw [reads_ints h2 r2]
        rfl
theorem reads_tup {h : Heap} {a : Addr} {us : List Value} {ns : List Int} {d : PyData} {as : List Addr} (t : IsTup h a us.toArray) (v : Vals (ns.map V.int) us) (r : Reads h (.ref a) d as) : d = .tuple (ns.map .int) := by
  obtain ⟨o, h1, h2, n, h3⟩ := t
  cases r with
  | tuple g1 g2 g3 g4 =>
    rw [h1] at g1
    cases g1
    rw [h3] at g3
    cases g3
    have g5 : ReadsAll h us _ _ := g4
    rw [reads_ints v g5]
  | list g1 g2 g3 g4 =>
    rw [h1] at g1
    cases g1
    rw [h2] at g2
    exact absurd g2 (by decide)
  | dict g1 g2 g3 g4 =>
    rw [h1] at g1
    cases g1
    rw [h2] at g2
    exact absurd g2 (by decide)
/-- the greatest, the first told first -/
def maxL : List Int → List (List Int) → List Int
  | m, [] => m
  | m, x :: xs => maxL (if lexI x m then m else x) xs
theorem maxL_eq : ∀ (xs : List (List Int)) (m : List Int), PySem.W.maxD (.tuple (m.map .int)) (xs.map fun x => .tuple (x.map .int)) = .tuple ((maxL m xs).map .int)
  | [], m => rfl
  | x :: xs, m => by
    have ih := maxL_eq xs (if lexI x m then m else x)
    unfold maxL
    rw [← ih]
    unfold PySem.W.maxD
    rw [List.map_cons, List.foldl_cons]
    congr 1
    have e : PySem.W.dataLt (.tuple (m.map .int)) (.tuple (x.map .int)) = decide (m < x) := by
      rw [PySem.W.dataLt_tuple]
      exact PySem.W.dataLt_ints m x
    rw [e, lexI_lt]
    by_cases hc : m < x
    · simp [hc]
    · simp [hc]
def rMaxG (K : PySem.W.Frag) : List V → Hp → VK → Prop := fun vs H Q => ∃ (a : Addr) (x : List Int) (xs : List (List Int)) (ts : List V), vs = [.ref a] ∧ SqL K H a ts ∧ Paired (fun (v : V) (ns : List Int) => ∃ b, v = .ref b ∧ SqT K H b (ns.map V.int)) ts (x :: xs) ∧
  ∀ (i : Nat) v, ts[i]? = some v → (x :: xs)[i]? = some (maxL x xs) → Q v H
theorem all_reads {X : Cx} {pins : List (Addr × Obj)} {σ : L2.St} {H : Hp} {s : Shared} (I : Inv X pins σ H s) : ∀ {ts : List V} {us : List Value} {xs : List (List Int)}, Paired (fun (v : V) (ns : List Int) => ∃ b, v = .ref b ∧ SqT X.K H b (ns.map V.int)) ts xs → Vals ts us → ∃ as, ReadsAll s.heap us (xs.map fun x => .tuple (x.map .int)) as
  | _, us, _, .nil, v => by
    cases v
    exact ⟨_, .nil⟩
  | _, us, _, .cons h1 h2, v => by
    cases v with
    | cons v1 v2 =>
      obtain ⟨b, rfl, sq⟩ := h1
      obtain ⟨as, r⟩ := all_reads I h2 v2
      obtain ⟨bs, r1⟩ := Dp.reads I _ _ _ (.tup sq (dp_ints _)) v1
      exact ⟨_, .cons r1 r⟩
theorem paired_at {α β : Type} {R : α → β → Prop} : ∀ {l : List α} {l' : List β} {i : Nat} {a : α}, Paired R l l' → l[i]? = some a → ∃ b, l'[i]? = some b ∧ R a b
  | _, _, _, _, .nil, h => by simp at h
  | _, _, 0, _, .cons z _, h => by simp at h; subst h; exact ⟨_, rfl, z⟩
  | _, _, i + 1, a, .cons _ t, h => by
    obtain ⟨b, h1, h2⟩ := paired_at (i := i) (a := a) t (by simpa using h)
    exact ⟨b, by simpa using h1, h2⟩
theorem vals_at : ∀ {vs : List V} {us : List Value} {i : Nat} {u : Value}, Vals vs us → us[i]? = some u → ∃ v, vs[i]? = some v ∧ RelV v u
  | _, _, _, _, .nil, h => by simp at h
  | _, _, 0, _, .cons z _, h => by simp at h; subst h; exact ⟨_, rfl, z⟩
  | _, _, i + 1, a, .cons _ t, h => by
    obtain ⟨b, h1, h2⟩ := vals_at (i := i) (u := a) t (by simpa using h)
    exact ⟨b, by simpa using h1, h2⟩
theorem map_int_inj : ∀ {a b : List Int}, a.map PyData.int = b.map PyData.int → a = b
  | [], [], _ => rfl
  | [], _ :: _, h => by simp at h
  | _ :: _, [], h => by simp at h
  | x :: a, y :: b, h => by
    simp only [List.map_cons, List.cons.injEq, PyData.int.injEq] at h
    rw [h.1, map_int_inj h.2]
theorem cr_maxG {X : Cx} {n : Nat} (hr : Room n X.A) : CallR X (.builtin "max") (rMaxG X.K) := by
  intro pins s σ H vs us Q I r h
  obtain ⟨a, x, xs, ts, rfl, hs, hp, q⟩ := h
  obtain ⟨its, rv, hl, hz⟩ := I.list hs
  rw [Vals.ref1 r]
  obtain ⟨as, hra⟩ := all_reads I hp rv
  have hu := hr.un
  have dep : ∀ l : List (List Int), PyData.depthAll (l.map fun x => .tuple (x.map .int)) ≤ 8 := by
    intro l
    induction l with
    | nil => simp [PyData.depthAll]
    | cons y l ih =>
      simp only [List.map_cons, PyData.depthAll, PyData.depth]
      rw [PySem.W.depth_ints]
      omega
  refine PySem.W.max_list_data (x := .tuple (x.map .int)) (xs := xs.map fun x : List Int => PyData.tuple (x.map .int)) (as := as) hr.hd hl.isList hra ⟨fun y hy z hz => ?_, fun y hy => ?_⟩ (by have := dep (x :: xs); simp only [List.map_cons] at this; omega) fun i v h' tk bs hv hrd kp => ?_
  · rw [← List.map_cons (f := fun x : List Int => PyData.tuple (x.map .int))] at hy hz
    obtain ⟨n1, _, rfl⟩ := List.mem_map.mp hy
    obtain ⟨n2, _, rfl⟩ := List.mem_map.mp hz
    show PySem.W.alikeAll _ _ = true
    exact PySem.W.alike_ints _ _
  · rw [← List.map_cons (f := fun x : List Int => PyData.tuple (x.map .int))] at hy
    obtain ⟨n1, _, rfl⟩ := List.mem_map.mp hy
    intro z
    cases z
  · obtain ⟨tv, e1, e2⟩ := vals_at rv (by simpa using hv)
    obtain ⟨ns, e3, b, rfl, sq⟩ := paired_at hp e1
    have e2 : v = Value.ref b := e2
    subst e2
    obtain ⟨it2, rv2, hl2, hz2⟩ := I.tuple sq
    rw [maxL_eq] at hrd
    have e4 := reads_tup (hl2.keeps kp) rv2 hrd
    have e5 : maxL x xs = ns := map_int_inj (by simpa using e4)
    exact ⟨.ref b, H, I.kept kp, rfl, q i _ e1 (by rw [e5]; exact e3)⟩
def maxTD (x : D) (h : IH) : Out D := match getL h x with
  | some (d :: ds) => grd ((d :: ds).all fun d => (tupI d).isSome) (.ok (.tup ((maxL (tI d) (ds.map tI)).map .int)) h)
  | _ => .bad
section
variable {X : Cx} {T : List (Addr × Str)} {E : XK} {a b c e o : Expr} {es rest : List Expr} {pos : Pos} {f k l : ME}
theorem de_maxT {t : MA} {p : Pos} {n : Nat} (hr : Room n X.A) (hm : X.mg "max" = none) (ha : DA X T E [e] t) (hg : Gl X "max" := by rfl) (he : starEach (e :: []) X.env = (false, eval e X.env) :: starEach [] X.env := by rfl) : DE X T E (.Call (.Name "max" p) [e] [] pos) (callB (one maxTD) t) :=
  de_callB (cr_maxG hr) (one_ok fun m h H v d E Q rh rv p => by
    unfold maxTD at p
    split at p
    · rename_i d0 ds q
      obtain ⟨hc, p⟩ := Post.grd p
      rw [List.all_eq_true] at hc
      obtain ⟨a, vs, rfl, s, rs⟩ := getL_ok rh rv q
      have pr : ∀ {vs : List V} {ds : List D}, Rvs X.K m h.length H vs ds → (∀ d ∈ ds, (tupI d).isSome = true) → Paired (fun (v : V) (ns : List Int) => ∃ b, v = .ref b ∧ SqT X.K H b (ns.map V.int)) vs (ds.map tI) := by
        intro vs ds
        induction ds generalizing vs with
        | nil => intro r _; cases r; exact .nil
        | cons d ds ih =>
          intro r hd
          cases r with
          | cons r1 r2 =>
            have i1 := ih r2 fun x hx => hd x (List.mem_cons_of_mem _ hx)
            obtain ⟨ns, e⟩ := Option.isSome_iff_exists.mp (hd d List.mem_cons_self)
            have et : tI d = ns := by unfold tI; rw [e]; rfl
            obtain ⟨ed, _⟩ := tupI_ok e
            refine .cons ?_ i1
            rw [et]
            rw [ed] at r1
            obtain ⟨a, vs, rfl, s, r⟩ := getT_ok (g := gX X T) r1 (show getT (.tup (ns.map D.int)) = some _ from rfl)
            rw [r.ints] at s
            exact ⟨a, rfl, s⟩
      refine ⟨a, tI d0, ds.map tI, vs, rfl, s, pr rs hc, fun i v hv e => ?_⟩
      obtain ⟨d, hd, rd⟩ := rs.get' hv
      have e2 : ((d0 :: ds).map tI)[i]? = some (maxL (tI d0) (ds.map tI)) := e
      rw [List.getElem?_map, hd] at e2
      have e3 : tI d = maxL (tI d0) (ds.map tI) := by simpa using e2
      obtain ⟨ns, e4⟩ := Option.isSome_iff_exists.mp (hc d (List.mem_of_getElem? hd))
      obtain ⟨ed, _⟩ := tupI_ok e4
      have et : tI d = ns := by unfold tI; rw [e4]; rfl
      rw [← e3, et, ← ed] at p
      exact Post.val p rh rd
    · exact p.elim) hm (by decide +kernel) ha hg (by decide) (by decide) he
end
end DL

set_option Elab.async false
set_option linter.all false
set_option maxRecDepth 100000
set_option autoImplicit false
set_option maxHeartbeats 1000000
/-! list(range(a, b)). -/
namespace DL
open PySem PySem.Spec PyProof.Rows L2
section
variable {X : Cx} {T : List (Addr × Str)} {E : XK} {a b c e o : Expr} {es rest : List Expr} {pos : Pos} {f k l : ME}
def lrg2E (r : Bool) (f k : ME) : ME := fun en h => (f en h).bind fun x h1 => (k en h1).bind fun y h2 => match x, y with
  | .int i, .int j => grd (inB i && inB j && decide (j - i ≤ 16777216)) (outL r (rangeL i (j - i).toNat) h2)
  | _, _ => .bad
theorem de_lrg2 (r : Bool) {p p2 pos2 : Pos} (hc : X.calm = true) (hm : X.mg "list" = none) (hm2 : X.mg "range" = none) (ha : DE X T E a f) (hb : DE X T E b k) (hg : Gl X "list" := by rfl) (hg2 : Gl X "range" := by rfl) (na : starEach [a, b] X.env = (false, eval a X.env) :: starEach [b] X.env := by rfl)
    (nb : starEach [b] X.env = (false, eval b X.env) :: starEach [] X.env := by rfl) (hp : (backTo pos2 (starEach [b] X.env)).any (·.1) = false := by rfl)
    (na2 : starEach [.Call (.Name "range" p2) [a, b] [] pos2] X.env = (false, eval (.Call (.Name "range" p2) [a, b] [] pos2) X.env) :: starEach [] X.env := by rfl) : DE X T E (.Call (.Name "list" p) [.Call (.Name "range" p2) [a, b] [] pos2] [] pos) (lrg2E r f k) :=
  PE.imp (pe_listRg hc hg hm (prg_2 hg2 hm2 ha hb na nb hp) na2) fun σ H Q ⟨m, h, en, rel, p⟩ => chain rel p fun m1 h1 H1 v d e1 rel1 rv1 p1 => chain rel1 p1 fun m2 h2 H2 u w e2 rel2 rv2 p2 => by
    have rv1' := rv1.mono e2
    cases d with
    | int i =>
      cases w with
      | int j =>
        cases rv1'
        cases rv2
        obtain ⟨hc, p2⟩ := Post.grd p2
        simp only [Bool.and_eq_true, decide_eq_true_eq, inB] at hc
        refine ⟨i, j, rfl, rfl, ?_, fun q hq => ?_⟩
        · unfold RgOk
          refine ⟨?_, ?_, ?_, ?_, ?_⟩ <;> omega
        · exact Post.outL p2 rel2.rh (rgV_rel (K := X.K) (m := m2) (n := h2.length) (H := H2) i j) hq
      | _ => exact p2.elim
    | _ => exact p2.elim
end
end DL

set_option Elab.async false
set_option linter.all false
set_option maxRecDepth 100000
set_option autoImplicit false
/-! Plain tools, second part: how a printed function runs, step by step; comprehensions whose rooms are read off the goal. -/
namespace DL
open PySem PySem.Spec PyProof.Rows L2
theorem sizeL {n : Nat} (h : n ≤ 1000) : n < sizeLine := by rw [sizeLine_eq]; omega
section
variable {α : Type} {r : Bool} {fi : MV} {w : View} {p : Pat} {t : MT} {e : ME} {vs : List Nat} {en : En} {h h1 : IH}
theorem lc_ev (ks : List α) (c : α → D) (P : α → Bool) (fe : α → D) (hf : fi en h = .ok w h1) (hw : w h1 = some (ks.map c)) (hz : ks.length < sizeLine)
    (hb : ∀ k ∈ ks, ∃ en', p.set (c k) (wipeE en vs) = some en' ∧ t en' h1 = .ok (P k) h1 ∧ (P k = true → e en' h1 = .ok (fe k) h1)) : lcE r fi p t e vs en h = outL r ((ks.filter P).map fe) h1 := by
  refine lcE_map ks c (fun k => (p.set (c k) (wipeE en vs)).getD en) P fe hf hw (fun k hk => ?_) (fun k hk => ?_) (fun k hk hp => ?_) hz
  · obtain ⟨en', q, _⟩ := hb k hk
    rw [q]
    rfl
  · obtain ⟨en', q, a, _⟩ := hb k hk
    rw [q]
    exact a
  · obtain ⟨en', q, _, a⟩ := hb k hk
    rw [q]
    exact a hp
theorem lc_ev1 (ks : List α) (c : α → D) (fe : α → D) (hf : fi en h = .ok w h1) (hw : w h1 = some (ks.map c)) (hz : ks.length < sizeLine)
    (hb : ∀ k ∈ ks, ∃ en', p.set (c k) (wipeE en vs) = some en' ∧ e en' h1 = .ok (fe k) h1) : lcE r fi p yesT e vs en h = outL r (ks.map fe) h1 := by
  rw [lc_ev ks c (fun _ => true) fe hf hw hz fun k hk => ?_]
  · rw [List.filter_eq_self.mpr fun _ _ => rfl]
  · obtain ⟨en', a, b⟩ := hb k hk
    exact ⟨en', a, rfl, fun _ => b⟩
/-- .. as lists never changed -/
theorem r_lc (ks : List α) (c : α → D) (P : α → Bool) (fe : α → D) (hf : fi en h = .ok w h1) (hw : w h1 = some (ks.map c)) (hz : ks.length ≤ 1000)
    (hb : ∀ k ∈ ks, ∃ en', p.set (c k) (wipeE en vs) = some en' ∧ t en' h1 = .ok (P k) h1 ∧ (P k = true → e en' h1 = .ok (fe k) h1)) : lcE false fi p t e vs en h = .ok (.vl ((ks.filter P).map fe)) h1 := by
  rw [lc_ev ks c P fe hf hw (sizeL hz) hb, outL_f]
theorem r_lc1 (ks : List α) (c : α → D) (fe : α → D) (hf : fi en h = .ok w h1) (hw : w h1 = some (ks.map c)) (hz : ks.length ≤ 1000)
    (hb : ∀ k ∈ ks, ∃ en', p.set (c k) (wipeE en vs) = some en' ∧ e en' h1 = .ok (fe k) h1) : lcE false fi p yesT e vs en h = .ok (.vl (ks.map fe)) h1 := by
  rw [lc_ev1 ks c fe hf hw (sizeL hz) hb, outL_f]
theorem r_lcT (ks : List α) (c : α → D) (P : α → Bool) (fe : α → D) (hf : fi en h = .ok w h1) (hw : w h1 = some (ks.map c)) (hz : ks.length ≤ 1000)
    (hb : ∀ k ∈ ks, ∃ en', p.set (c k) (wipeE en vs) = some en' ∧ t en' h1 = .ok (P k) h1 ∧ (P k = true → e en' h1 = .ok (fe k) h1)) : lcE true fi p t e vs en h = .ok (.ref h1.length) (h1 ++ [.lst ((ks.filter P).map fe)]) := by
  rw [lc_ev ks c P fe hf hw (sizeL hz) hb, outL_t]
theorem r_lcT1 (ks : List α) (c : α → D) (fe : α → D) (hf : fi en h = .ok w h1) (hw : w h1 = some (ks.map c)) (hz : ks.length ≤ 1000)
    (hb : ∀ k ∈ ks, ∃ en', p.set (c k) (wipeE en vs) = some en' ∧ e en' h1 = .ok (fe k) h1) : lcE true fi p yesT e vs en h = .ok (.ref h1.length) (h1 ++ [.lst (ks.map fe)]) := by
  rw [lc_ev1 ks c fe hf hw (sizeL hz) hb, outL_t]
end
/-! ### steps -/
section
variable {en en' en1 : En} {h h1 h2 h3 : IH} {d x y z : D} {xs ys : List D} {f k l : ME} {a : MA} {t u : MT} {s T : MS} {g : MG} {i j n c : Nat} {b b1 b2 : Bool} {o : SO}
theorem r_c : cE d en h = .ok d h := rfl
theorem r_var (e : en[i]? = some (some d)) : varE i en h = .ok d h := by unfold varE; rw [e]
theorem r_op1 {o : D → IH → Out D} {R : Out D} (e1 : f en h = .ok x h1) (e2 : o x h1 = R) : op1 o f en h = R := by rw [op1_e, e1]; exact e2
theorem r_op2 {o : D → D → IH → Out D} {R : Out D} (e1 : f en h = .ok x h1) (e2 : k en h1 = .ok y h2) (e3 : o x y h2 = R) : op2 o f k en h = R := by rw [op2_e, e1, Out.bind_ok, e2]; exact e3
theorem r_nilA : nilA en h = .ok [] h := rfl
theorem r_consA (e1 : f en h = .ok x h1) (e2 : a en h1 = .ok xs h2) : consA f a en h = .ok (x :: xs) h2 := by rw [consA_e, e1, Out.bind_ok, e2]; rfl
theorem r_callB {o : List D → IH → Out D} {R : Out D} (e1 : a en h = .ok xs h1) (e2 : o xs h1 = R) : callB o a en h = R := by rw [callB_e, e1]; exact e2
theorem r_one {o : D → IH → Out D} {R : Out D} (e : o x h = R) : one o [x] h = R := e
theorem r_callF {F : List D → IH → Out D} {R : Out D} (e1 : a en h = .ok xs h1) (e2 : xs.length = n) (e3 : F xs h1 = R) : callF n F a en h = R := by
  unfold callF
  rw [e1, Out.bind_ok, decide_eq_true e2]
  exact e3
theorem r_tup (e1 : a en h = .ok xs h1) (hz : xs.length ≤ 1000) : tupE a en h = .ok (.tup xs) h1 := by
  unfold tupE
  rw [e1, Out.bind_ok, decide_eq_true (Nat.le_of_lt (sizeL hz)), grd_true]
theorem r_lst (e1 : a en h = .ok xs h1) (hz : xs.length ≤ 1000) : lstE false a en h = .ok (.vl xs) h1 := by
  unfold lstE
  rw [e1, Out.bind_ok, decide_eq_true (Nat.le_of_lt (sizeL hz)), grd_true, outL_f]
theorem r_lstT (e1 : a en h = .ok xs h1) (hz : xs.length ≤ 1000) : lstE true a en h = .ok (.ref h1.length) (h1 ++ [.lst xs]) := by
  unfold lstE
  rw [e1, Out.bind_ok, decide_eq_true (Nat.le_of_lt (sizeL hz)), grd_true, outL_t]
theorem r_tst (e1 : f en h = .ok (.bl b) h1) : tst f en h = .ok b h1 := by rw [tst_e, e1]; rfl
theorem r_not (e1 : t en h = .ok b h1) : notT t en h = .ok (!b) h1 := by rw [notT_e, e1]; rfl
theorem r_andF (e1 : t en h = .ok false h1) : andT t u en h = .ok false h1 := by rw [andT_e, e1]; rfl
theorem r_andT {R : Out Bool} (e1 : t en h = .ok true h1) (e2 : u en h1 = R) : andT t u en h = R := by rw [andT_e, e1]; exact e2
theorem r_and (e1 : t en h = .ok b1 h) (e2 : b1 = true → u en h = .ok b2 h) : andT t u en h = .ok (b1 && b2) h := by
  cases b1 with
  | false => exact r_andF e1
  | true => exact r_andT e1 (e2 rfl)
theorem r_orT (e1 : t en h = .ok true h1) : orT t u en h = .ok true h1 := by rw [orT_e, e1]; rfl
theorem r_orF {R : Out Bool} (e1 : t en h = .ok false h1) (e2 : u en h1 = R) : orT t u en h = R := by rw [orT_e, e1]; exact e2
theorem r_or (e1 : t en h = .ok b1 h) (e2 : b1 = false → u en h = .ok b2 h) : orT t u en h = .ok (b1 || b2) h := by
  cases b1 with
  | true => exact r_orT e1
  | false => exact r_orF e1 (e2 rfl)
theorem r_andE (e1 : f en h = .ok (.bl b1) h) (e2 : b1 = true → k en h = .ok (.bl b2) h) : andE f k en h = .ok (.bl (b1 && b2)) h := by
  rw [andE_e, e1]
  cases b1 with
  | false => rfl
  | true => exact e2 rfl
theorem r_andEF (e1 : f en h = .ok (.bl false) h1) : andE f k en h = .ok (.bl false) h1 := by rw [andE_e, e1]; rfl
theorem r_andET {R : Out D} (e1 : f en h = .ok (.bl true) h1) (e2 : k en h1 = R) : andE f k en h = R := by rw [andE_e, e1]; exact e2
theorem r_orE (e1 : f en h = .ok (.bl b1) h) (e2 : b1 = false → k en h = .ok (.bl b2) h) : orE f k en h = .ok (.bl (b1 || b2)) h := by
  rw [orE_e, e1]
  cases b1 with
  | true => rfl
  | false => exact e2 rfl
theorem r_orET (e1 : f en h = .ok (.bl true) h1) : orE f k en h = .ok (.bl true) h1 := by rw [orE_e, e1]; rfl
theorem r_orEF {R : Out D} (e1 : f en h = .ok (.bl false) h1) (e2 : k en h1 = R) : orE f k en h = R := by rw [orE_e, e1]; exact e2
theorem r_notD : notD (.bl b) h = .ok (.bl (!b)) h := rfl
theorem r_iteT {R : Out D} (e1 : t en h = .ok true h1) (e2 : f en h1 = R) : iteE t f k en h = R := by rw [iteE_e, e1]; exact e2
theorem r_iteF {R : Out D} (e1 : t en h = .ok false h1) (e2 : k en h1 = R) : iteE t f k en h = R := by rw [iteE_e, e1]; exact e2
theorem r_ite (e1 : t en h = .ok b h) (e2 : b = true → f en h = .ok x h) (e3 : b = false → k en h = .ok y h) : iteE t f k en h = .ok (if b = true then x else y) h := by
  cases b with
  | true => exact r_iteT e1 (e2 rfl)
  | false => exact r_iteF e1 (e3 rfl)
theorem r_ch {q q' : D → D → IH → Out D} (e1 : f en h = .ok x h) (e2 : k en h = .ok y h) (e3 : q x y h = .ok (.bl b1) h) (e4 : b1 = true → l en h = .ok z h) (e5 : b1 = true → q' y z h = .ok (.bl b2) h) : chE q q' f k l en h = .ok (.bl (b1 && b2)) h := by
  unfold chE
  rw [e1, Out.bind_ok, e2, Out.bind_ok, e3, Out.bind_ok, asB_e, Out.bind_ok]
  cases b1 with
  | false => rfl
  | true =>
    show (l en h).bind _ = _
    rw [e4 rfl, Out.bind_ok, e5 rfl]
    rfl
theorem r_seqV (e1 : f en h = .ok d h1) (e2 : getL h1 d = some xs) : seqV f en h = .ok (fun h => getL h d) h1 := seqV_L e1 e2
theorem r_bm {m : D → List D → IH → Out D} {R : Out D} (e1 : f en h = .ok x h1) (e2 : getL h1 x = some ys) (e3 : a en h1 = .ok xs h2) (e4 : m x xs h2 = R) : bmE m f a en h = R := by
  unfold bmE
  rw [e1, Out.bind_ok, e2, e3]
  exact e4
theorem r_bmR {m : D → List D → IH → Out D} {R : Out D} {p : Nat} (e1 : f en h = .ok (.ref p) h1) (e2 : lstAt h1 p = some ys) (e3 : a en h1 = .ok xs h2) (e4 : m (.ref p) xs h2 = R) : bmE m f a en h = R := r_bm e1 e2 e3 e4
theorem r_noP : noP en h = .ok none h := rfl
theorem r_someP {v : Int} (e1 : f en h = .ok (.int v) h1) : someP f en h = .ok (some v) h1 := by unfold someP; rw [e1]; rfl
theorem r_sl {r : Bool} {lo hi : MO} {v w : Option Int} {R : Out D} (e1 : f en h = .ok x h1) (e2 : lo en h1 = .ok v h2) (e3 : hi en h2 = .ok w h3) (e4 : slD r x v w h3 = R) : slE r f lo hi en h = R := by
  unfold slE
  rw [e1, Out.bind_ok, e2, Out.bind_ok, e3]
  exact e4
/-! statements -/
theorem s_seq (e1 : s en h = .nx en1 h1) (e2 : T en1 h1 = o) : seqS s T en h = o := by rw [seqS_e, e1]; exact e2
theorem s_seqR (e1 : s en h = .rt d h1) : seqS s T en h = .rt d h1 := by rw [seqS_e, e1]; rfl
theorem s_seqE (e1 : s en h = .err c h1) : seqS s T en h = .err c h1 := by rw [seqS_e, e1]; rfl
theorem s_seqC (e1 : s en h = .ct en1 h1) : seqS s T en h = .ct en1 h1 := by rw [seqS_e, e1]; rfl
theorem s_asg (e1 : f en h = .ok d h1) (e2 : g d en h1 = .ok en1 h2) : asgS f g en h = .nx en1 h2 := by rw [asgS_e, e1, toS_ok, e2]
theorem s_name (e1 : f en h = .ok d h1) (e2 : en.set i (some d) = en1) : asgS f (nameG i) en h = .nx en1 h1 := s_asg e1 (by rw [← e2]; rfl)
theorem s_par (e1 : a en h = .ok [x, y] h1) (e2 : (en.set i (some x)).set j (some y) = en1) : parS i j a en h = .nx en1 h1 := by
  unfold parS
  rw [e1, ← e2]
  rfl
theorem s_expr (e1 : f en h = .ok d h1) : exprS f en h = .nx en h1 := by rw [exprS_e, e1]; rfl
theorem s_exprE (e1 : f en h = .err c h1) : exprS f en h = .err c h1 := by rw [exprS_e, e1]; rfl
theorem s_ret (e1 : f en h = .ok d h1) : retS f en h = .rt d h1 := by rw [retS_e, e1]; rfl
theorem s_retE (e1 : f en h = .err c h1) : retS f en h = .err c h1 := by rw [retS_e, e1]; rfl
theorem s_pass : passS en h = .nx en h := rfl
theorem s_cont : contS en h = .ct en h := rfl
theorem s_raise : raiseS c en h = .err c h := rfl
theorem s_ifT (e1 : t en h = .ok true h1) (e2 : s en h1 = o) : ifS t s T en h = o := by rw [ifS_e, e1]; exact e2
theorem s_ifF (e1 : t en h = .ok false h1) (e2 : T en h1 = o) : ifS t s T en h = o := by rw [ifS_e, e1]; exact e2
theorem s_set {fo fi : ME} {v : D} {h4 : IH} (e1 : f en h = .ok v h1) (e2 : fo en h1 = .ok x h2) (e3 : fi en h2 = .ok y h3) (e4 : setD x y v h3 = .ok () h4) : setS f fo fi en h = .nx en h4 := by
  unfold setS
  rw [e1, toS_ok, e2, toS_ok, e3, toS_ok, e4]
  rfl
theorem fnC_nx {N : Nat} {b : MS} {ds : List D} (e : b (ds.map some ++ List.replicate (N - ds.length) none) h = .nx en h1) (e1 : h1.take h.length = h) : fnC N b ds h = .ok .non h := by
  unfold fnC fnF
  rw [e]
  dsimp only
  rw [if_pos e1]
  rfl
theorem fnF_nx {N : Nat} {b : MS} {ds : List D} (e : b (ds.map some ++ List.replicate (N - ds.length) none) h = .nx en h1) : fnF N b ds h = .ok .non h1 := by unfold fnF; rw [e]
end
/-! ints that count -/
abbrev NI (k : Nat) : D := .int ((k : Nat) : Int)
theorem p_add (r : Bool) (x y : Nat) (h : IH) : addD r (NI x) (NI y) h = .ok (NI (x + y)) h := by
  show Out.ok (D.int (((x : Nat) : Int) + ((y : Nat) : Int))) h = _
  congr 2
theorem p_eq (x y : Int) (h : IH) : eqD (.int x) (.int y) h = .ok (.bl (x == y)) h := rfl
theorem p_ne (x y : Int) (h : IH) : neD (.int x) (.int y) h = .ok (.bl (!(x == y))) h := rfl
theorem p_len (xs : List D) (h : IH) : lenD [.vl xs] h = .ok (.int xs.length) h := lenD_e rfl
theorem p_ix {xs : List D} {x : D} {i : Nat} {h : IH} (e : xs[i]? = some x) : ixD (.vl xs) (NI i) h = .ok x h := ixD_e rfl e
theorem p_ixT {xs : List D} {x : D} {i : Nat} {h : IH} (e : xs[i]? = some x) : ixD (.tup xs) (NI i) h = .ok x h := ixD_e rfl e
theorem set_is {en en1 : En} {i : Nat} {d : Option D} (e : en.set i d = en1) : en.set i d = en1 := e
theorem len_le {xs : List D} (e : Nat.ble xs.length 1000 = true) : xs.length ≤ 1000 := Nat.le_of_ble_eq_true e
theorem len_is {xs : List D} {n : Nat} (e : xs.length = n) : xs.length = n := e
/-- a loop over a list that does not change -/
theorem for_run {α : Type} {fi : MV} {gf : MG} {b : MS} {w : View} {en : En} {h h1 : IH} (xs : List α) (c : α → D) (I : Nat → En → IH → Prop) (e : fi en h = .ok w h1) (e2 : ∀ hh, w hh = some (xs.map c)) (start : I 0 en h1)
    (step : ∀ i x en hh, xs[i]? = some x → I i en hh → ∃ en' h', (stepB gf b (c x) en hh = .nx en' h' ∨ stepB gf b (c x) en hh = .ct en' h') ∧ I (i + 1) en' h') : ∃ en' h', forS fi gf b en h = .nx en' h' ∧ I xs.length en' h' := by
  obtain ⟨en', h', q, z⟩ := forS_run (fi := fi) (gf := gf) (b := b) (en := en) (h := h) (w := w) (h1 := h1) (xs := xs.map c) I e (e2 h1) start (fun i en h _ => e2 h) fun i d en hh hd hi => by
    rw [List.getElem?_map] at hd
    cases q : xs[i]? with
    | none => rw [q] at hd; cases hd
    | some x =>
      rw [q] at hd
      cases hd
      exact step i x en hh q hi
  exact ⟨en', h', q, by rw [List.length_map] at z; exact z⟩
theorem enum_map {α : Type} (c : α → D) (xs : List α) : enumFrom 0 (xs.map c) = xs.zipIdx.map fun p => .tup [NI p.2, c p.1] := by
  refine List.ext_getElem? fun i => ?_
  rw [enumFrom_get, List.getElem?_map, List.getElem?_map, List.getElem?_zipIdx]
  cases xs[i]? with
  | none => rfl
  | some x => simp
theorem r_enum {f : ME} {xs : List D} {en : En} {h : IH} (e1 : f en h = .ok (.vl xs) h) : enumV (consA f nilA) en h = .ok (fun _ => some (enumFrom 0 xs)) h := by
  unfold enumV
  rw [consA_e, e1]
  rfl
theorem r_rng {f : ME} {en : En} {h h1 : IH} {n : Nat} (e : f en h = .ok (NI n) h1) (hn : n ≤ 5000) : rng1V (consA f nilA) en h = .ok (fun _ => some ((List.range n).map NI)) h1 := by
  have e0 : rangeL 0 n = (List.range n).map NI := by
    unfold rangeL
    refine List.map_congr_left fun i _ => ?_
    simp
  unfold rng1V
  rw [consA_e, e, Out.bind_ok, nilA_e, Out.bind_ok, Out.bind_ok]
  dsimp only
  have : grd (inB ((n : Nat) : Int)) (Out.ok (fun _ => some (rangeL 0 ((n : Nat) : Int).toNat)) h1 : Out View) = .ok (fun _ => some ((List.range n).map NI)) h1 := by
    have hb : inB ((n : Nat) : Int) = true := by
      simp only [inB, Bool.and_eq_true, decide_eq_true_eq]
      omega
    rw [hb, grd_true, Int.toNat_natCast, e0]
  exact this
theorem setD_nat {h : IH} {p i : Nat} {xs : List D} {v : D} (hp : lstAt h p = some xs) (hi : i < xs.length) : setD (.ref p) (NI i) v h = .ok () (h.set p (.lst (xs.set i v))) := by
  have e : ixN xs.length ((i : Nat) : Int) = some i := by
    unfold ixN
    rw [if_pos (by omega), if_pos (by omega)]
    simp
  have e2 : refL h (.ref p) = some (p, xs) := by show (match lstAt h p with | some xs => some (p, xs) | none => none) = _; rw [hp]
  unfold setD
  rw [e2]
  dsimp only
  rw [e]
theorem appD_nat {h : IH} {p : Nat} {xs : List D} {v : D} (hp : lstAt h p = some xs) (hi : xs.length ≤ 1000) : appD (.ref p) [v] h = .ok .non (h.set p (.lst (xs ++ [v]))) := by
  have e2 : refL h (.ref p) = some (p, xs) := by show (match lstAt h p with | some xs => some (p, xs) | none => none) = _; rw [hp]
  unfold appD
  rw [e2]
  dsimp only
  rw [decide_eq_true (sizeL hi)]
  rfl
theorem lst_is {h : IH} {p : Nat} {xs : List D} (e : lstAt h p = some xs) : lstAt h p = some xs := e
theorem ok_is {α : Type} {o : Out α} {x : α} {h : IH} (e : o = .ok x h) : o = .ok x h := e
theorem so_is {o o' : SO} (e : o = o') : o = o' := e
end DL

set_option Elab.async false
set_option linter.all false
set_option maxRecDepth 100000
set_option maxHeartbeats 0
namespace GK
open PySem PySem.Spec PyProof.Rows L2 DL HotX L2H
def top (i : Nat) : Stmt := PySem.Challenge.pw_cordboard_k32_whole_hours_moved.main.body.getD i (.Pass ⟨0, 0, 0, 0⟩)
abbrev nE : Nat := 9
abbrev st__law_cell : Stmt := top 19
abbrev st__law_drawn : Stmt := top 20
abbrev st__law_hours : Stmt := top 21
abbrev st_is_count : Stmt := top 7
abbrev st_is_call : Stmt := top 12
abbrev st_need_calls : Stmt := top 13
abbrev st_led : Stmt := top 14
abbrev st_carried : Stmt := top 15
abbrev st_fewest : Stmt := top 16
abbrev st_greatest : Stmt := top 17
abbrev st_law : Stmt := top 22
structure Fs (P : Program) (w : World) (K : PySem.W.Frag) (mg : Str → Option Value) (base : Heap) (T : List (Addr × Str)) : Prop where
  n_all : mg "all" = none
  n_bool : mg "bool" = none
  n_int : mg "int" = none
  n_isinstance : mg "isinstance" = none
  n_len : mg "len" = none
  n_list : mg "list" = none
  n_max : mg "max" = none
  n_min : mg "min" = none
  n_range : mg "range" = none
  n_sorted : mg "sorted" = none
  n_tuple : mg "tuple" = none
  n_zip : mg "zip" = none
  g_LATEST : GloIs K mg "LATEST" (.int 10000)
  g_LONGEST : GloIs K mg "LONGEST" (.int 1000)
  g_MOST_CALLS : GloIs K mg "MOST_CALLS" (.int 60)
  g_MOST_CORDS : GloIs K mg "MOST_CORDS" (.int 8)
  g_MOST_LINES : GloIs K mg "MOST_LINES" (.int 20)
  e_11 : ErOk K mg 11
  e_16 : ErOk K mg 16
  d__law_cell : DefF K mg "_law_cell" st__law_cell
  d__law_drawn : DefF K mg "_law_drawn" st__law_drawn
  d__law_hours : DefF K mg "_law_hours" st__law_hours
  d_is_count : DefF K mg "is_count" st_is_count
  d_is_call : DefF K mg "is_call" st_is_call
  d_need_calls : DefF K mg "need_calls" st_need_calls
  d_led : DefL K mg base T "led" st_led
  d_carried : DefF K mg "carried" st_carried
  d_fewest : DefF K mg "fewest" st_fewest
  d_greatest : DefF K mg "greatest" st_greatest
  d_law : DefF K mg "law" st_law
section
variable {P : Program} {w : World} {K : PySem.W.Frag} {mg : Str → Option Value} {base : Heap} {T : List (Addr × Str)}
abbrev N__law_cell : List Str := ["script", "k"]
theorem sc__law_cell : FnScope N__law_cell ["script", "k"] (defScope st__law_cell) := ⟨rfl, rfl, rfl, by decide +kernel, rfl, by decide +kernel, by decide +kernel⟩
def b__law_cell : MS := seqS (ifS (tst (op2 eqD (varE 0) (lstE false (nilA)))) (retS (op2 (mulD false) (varE 1) (cE (.int 7919)))) (passS)) (retS (op2 (addD false) (op2 ixD (varE 0) (op2 modD (varE 1) (callB lenD (consA (varE 0) (nilA))))) (op2 (mulD false) (op2 fdivD (varE 1) (callB lenD (consA (varE 0) (nilA)))) (cE (.int 104729)))))
abbrev F__law_cell : List D → IH → Out D := fnC 2 b__law_cell
theorem cal__law_cell (Fx : Fs P w K mg base T) : CalF P w K mg base T "_law_cell" 1 2 F__law_cell := by
  obtain ⟨f, fd, F, gF⟩ := Fx.d__law_cell
  have S := sc__law_cell
  refine ⟨f, fd, ["script", "k"], rfl, gF, F.kp, F.bindsN (fun _ _ _ _ _ _ us hl => match us, hl with | [_, _], _ => rfl), fn_okC (k := 0) F S (fun A outer s H E hc hr tk hp => ?_)⟩
  unfold b__law_cell
  exact dss_cons (ds_if (dt_cmp (cr_eq hr) (de_var 0) (de_lst false (da_nil))) (dss_one (ds_ret (de_mul false (de_var 1) (de_int)))) (dss_nil)) (dss_one (ds_ret (de_add false (de_item (de_var 0) (de_mod (de_var 1) (de_len Fx.n_len (da_cons (de_var 0) (da_nil))))) (de_mul false (de_fdiv (de_var 1) (de_len Fx.n_len (da_cons (de_var 0) (da_nil)))) (de_int)))))
abbrev N__law_drawn : List Str := ["cell", "k", "more"]
theorem sc__law_drawn : FnScope N__law_drawn ["cell", "k"] (defScope st__law_drawn) := ⟨rfl, rfl, rfl, by decide +kernel, rfl, by decide +kernel, by decide +kernel⟩
def b__law_drawn : MS := seqS (asgS (op2 modD (op2 (addD false) (op2 (mulD false) (varE 0) (cE (.int 6364136223846793005))) (op2 (mulD false) (op2 (addD false) (varE 1) (cE (.int 1))) (cE (.int 1442695040888963407)))) (cE (.int 340282366920938463463374607431768211507))) (nameG 2)) (seqS (asgS (op2 modD (op2 (mulD false) (varE 2) (varE 2)) (cE (.int 340282366920938463463374607431768211297))) (nameG 2)) (seqS (asgS (op2 (mulD false) (op2 (mulD false) (op2 (addD false) (op2 modD (varE 2) (cE (.int 18446744073709551557))) (cE (.int 1))) (op2 (addD false) (op2 fdivD (varE 2) (cE (.int 18446744073709551557))) (cE (.int 1)))) (varE 2)) (nameG 2)) (retS (op2 modD (varE 2) (cE (.int 340282366920938463463374607431768211507))))))
abbrev F__law_drawn : List D → IH → Out D := fnC 3 b__law_drawn
theorem cal__law_drawn (Fx : Fs P w K mg base T) : CalF P w K mg base T "_law_drawn" 1 2 F__law_drawn := by
  obtain ⟨f, fd, F, gF⟩ := Fx.d__law_drawn
  have S := sc__law_drawn
  refine ⟨f, fd, ["cell", "k"], rfl, gF, F.kp, F.bindsN (fun _ _ _ _ _ _ us hl => match us, hl with | [_, _], _ => rfl), fn_okC (k := 0) F S (fun A outer s H E hc hr tk hp => ?_)⟩
  unfold b__law_drawn
  exact dss_cons (ds_set 2 S.nd (de_mod (de_add false (de_mul false (de_var 0) (de_int)) (de_mul false (de_add false (de_var 1) (de_int)) (de_int))) (de_int))) (dss_cons (ds_set 2 S.nd (de_mod (de_mul false (de_var 2) (de_var 2)) (de_int))) (dss_cons (ds_set 2 S.nd (de_mul false (de_mul false (de_add false (de_mod (de_var 2) (de_int)) (de_int)) (de_add false (de_fdiv (de_var 2) (de_int)) (de_int))) (de_var 2))) (dss_one (ds_ret (de_mod (de_var 2) (de_int))))))
abbrev N__law_hours : List Str := ["more", "found", "j", "here", "one", "other"]
theorem sc__law_hours : FnScope N__law_hours ["more"] (defScope st__law_hours) := ⟨rfl, rfl, rfl, by decide +kernel, rfl, by decide +kernel, by decide +kernel⟩
def b__law_hours_0 : MS := seqS (asgS (callF 2 F__law_drawn (consA (varE 0) (consA (op2 (addD false) (cE (.int 20)) (varE 2)) (nilA)))) (nameG 3)) (seqS (parS 4 5 (consA (op2 modD (op2 fdivD (varE 3) (cE (.int 16))) (cE (.int 8))) (consA (op2 modD (op2 fdivD (varE 3) (cE (.int 128))) (cE (.int 7))) nilA))) (exprS (bmE appD (varE 1) (consA (tupE (consA (varE 4) (consA (iteE (tst (op2 neD (varE 5) (varE 4))) (varE 5) (cE (.int 7))) (consA (op2 (addD false) (op2 (mulD false) (cE (.int 7)) (varE 2)) (op2 modD (op2 fdivD (varE 3) (cE (.int 1024))) (cE (.int 7)))) (consA (op2 (addD false) (cE (.int 1)) (op2 modD (op2 fdivD (varE 3) (op2 powD (cE (.int 2)) (cE (.int 30)))) (cE (.int 40)))) (nilA)))))) (nilA)))))
def b__law_hours : MS := seqS (asgS (lstE true (nilA)) (nameG 1)) (seqS (forS (rng1V (consA (op2 modD (varE 0) (cE (.int 21))) (nilA))) (nameG 2) (b__law_hours_0)) (retS (varE 1)))
abbrev F__law_hours : List D → IH → Out D := fnC 6 b__law_hours
theorem cal__law_hours (Fx : Fs P w K mg base T) : CalF P w K mg base T "_law_hours" 2 1 F__law_hours := by
  obtain ⟨f, fd, F, gF⟩ := Fx.d__law_hours
  have S := sc__law_hours
  refine ⟨f, fd, ["more"], rfl, gF, F.kp, F.bindsN (fun _ _ _ _ _ _ us hl => match us, hl with | [_], _ => rfl), fn_okC (k := 1) F S (fun A outer s H E hc hr tk hp => ?_)⟩
  unfold b__law_hours
  exact dss_cons (ds_set 1 S.nd (de_lst true (da_nil))) (dss_cons (ds_for hp rfl (di_range1 Fx.n_range (da_cons (de_mod (de_var 0) (de_int)) (da_nil))) (dg_name 2 S.nd) (dss_cons (ds_set 3 S.nd (de_call ⟨cal__law_drawn Fx⟩ (hr.mono (by decide)) tk (da_cons (de_var 0) (da_cons (de_add false (de_int) (de_var 2)) (da_nil))))) (dss_cons (ds_par 4 5 rfl S.nd (da_cons (de_mod (de_fdiv (de_var 3) (de_int)) (de_int)) (da_cons (de_mod (de_fdiv (de_var 3) (de_int)) (de_int)) da_nil))) (dss_one (ds_expr (de_append (de_var 1) (da_cons (de_tup (da_cons (de_var 4) (da_cons (de_ifExp (dt_cmp (cr_ne hr) (de_var 5) (de_var 4)) (de_var 5) (de_int)) (da_cons (de_add false (de_mul false (de_int) (de_var 2)) (de_mod (de_fdiv (de_var 3) (de_int)) (de_int))) (da_cons (de_add false (de_int) (de_mod (de_fdiv (de_var 3) (de_pow (de_int) (de_int))) (de_int))) (da_nil)))))) (da_nil)))))))) (dss_one (ds_ret (de_var 1))))
abbrev N_is_count : List Str := ["thing", "low", "high"]
theorem sc_is_count : FnScope N_is_count ["thing", "low", "high"] (defScope st_is_count) := ⟨rfl, rfl, rfl, by decide +kernel, rfl, by decide +kernel, by decide +kernel⟩
def b_is_count : MS := retS (andE (op1 (isiD .int) (varE 0)) (andE (op1 notD (op1 (isiD .bool) (varE 0))) (chE leD leD (varE 1) (varE 0) (varE 2))))
abbrev F_is_count : List D → IH → Out D := fnC 3 b_is_count
theorem cal_is_count (Fx : Fs P w K mg base T) : CalF P w K mg base T "is_count" 1 3 F_is_count := by
  obtain ⟨f, fd, F, gF⟩ := Fx.d_is_count
  have S := sc_is_count
  refine ⟨f, fd, ["thing", "low", "high"], rfl, gF, F.kp, F.bindsN (fun _ _ _ _ _ _ us hl => match us, hl with | [_, _, _], _ => rfl), fn_okC (k := 0) F S (fun A outer s H E hc hr tk hp => ?_)⟩
  unfold b_is_count
  exact dss_one (ds_ret (de_and (de_isi .int Fx.n_isinstance Fx.n_int (by decide +kernel) (de_var 0)) (de_and (de_not (de_isi .bool Fx.n_isinstance Fx.n_bool (by decide +kernel) (de_var 0))) (de_one (de_chain cr_le cr_le (de_var 1) (de_var 0) (de_var 2))))))
abbrev N_is_call : List Str := ["thing"]
theorem sc_is_call : FnScope N_is_call ["thing"] (defScope st_is_call) := ⟨rfl, rfl, rfl, by decide +kernel, rfl, by decide +kernel, by decide +kernel⟩
def b_is_call : MS := seqS (ifS (orT (notT (tst (op1 (isiD .tuple) (varE 0)))) (tst (op2 neD (callB lenD (consA (varE 0) (nilA))) (cE (.int 4))))) (retS (cE (.bl false))) (passS)) (seqS (ifS (orT (notT (tst (callF 3 F_is_count (consA (op2 ixD (varE 0) (cE (.int 0))) (consA (cE (.int 0)) (consA (op2 subD (cE (.int 20)) (cE (.int 1))) (nilA))))))) (orT (notT (tst (callF 3 F_is_count (consA (op2 ixD (varE 0) (cE (.int 1))) (consA (cE (.int 0)) (consA (op2 subD (cE (.int 20)) (cE (.int 1))) (nilA))))))) (tst (op2 eqD (op2 ixD (varE 0) (cE (.int 0))) (op2 ixD (varE 0) (cE (.int 1))))))) (retS (cE (.bl false))) (passS)) (retS (andE (callF 3 F_is_count (consA (op2 ixD (varE 0) (cE (.int 2))) (consA (cE (.int 0)) (consA (cE (.int 10000)) (nilA))))) (callF 3 F_is_count (consA (op2 ixD (varE 0) (cE (.int 3))) (consA (cE (.int 1)) (consA (cE (.int 1000)) (nilA))))))))
abbrev F_is_call : List D → IH → Out D := fnC 1 b_is_call
theorem cal_is_call (Fx : Fs P w K mg base T) : CalF P w K mg base T "is_call" 2 1 F_is_call := by
  obtain ⟨f, fd, F, gF⟩ := Fx.d_is_call
  have S := sc_is_call
  refine ⟨f, fd, ["thing"], rfl, gF, F.kp, F.bindsN (fun _ _ _ _ _ _ us hl => match us, hl with | [_], _ => rfl), fn_okC (k := 1) F S (fun A outer s H E hc hr tk hp => ?_)⟩
  unfold b_is_call
  exact dss_cons (ds_if (DW.dt (dw_or (dt_not (dt_val (de_isi .tuple Fx.n_isinstance Fx.n_tuple (by decide +kernel) (de_var 0)))) (dw_or1 (dt_cmp (cr_ne hr) (de_len Fx.n_len (da_cons (de_var 0) (da_nil))) (de_int))))) (dss_one (ds_ret (de_bl))) (dss_nil)) (dss_cons (ds_if (DW.dt (dw_or (dt_not (dt_val (de_call ⟨cal_is_count Fx⟩ (hr.mono (by decide)) tk (da_cons (de_item (de_var 0) (de_int)) (da_cons (de_int) (da_cons (de_sub (de_glob (by rfl) Fx.g_MOST_LINES) (de_int)) (da_nil))))))) (dw_or (dt_not (dt_val (de_call ⟨cal_is_count Fx⟩ (hr.mono (by decide)) tk (da_cons (de_item (de_var 0) (de_int)) (da_cons (de_int) (da_cons (de_sub (de_glob (by rfl) Fx.g_MOST_LINES) (de_int)) (da_nil))))))) (dw_or1 (dt_cmp (cr_eq hr) (de_item (de_var 0) (de_int)) (de_item (de_var 0) (de_int))))))) (dss_one (ds_ret (de_bl))) (dss_nil)) (dss_one (ds_ret (de_and (de_call ⟨cal_is_count Fx⟩ (hr.mono (by decide)) tk (da_cons (de_item (de_var 0) (de_int)) (da_cons (de_int) (da_cons (de_glob (by rfl) Fx.g_LATEST) (da_nil))))) (de_one (de_call ⟨cal_is_count Fx⟩ (hr.mono (by decide)) tk (da_cons (de_item (de_var 0) (de_int)) (da_cons (de_int) (da_cons (de_glob (by rfl) Fx.g_LONGEST) (da_nil))))))))))
abbrev N_need_calls : List Str := ["calls", "call"]
theorem sc_need_calls : FnScope N_need_calls ["calls"] (defScope st_need_calls) := ⟨rfl, rfl, rfl, by decide +kernel, rfl, by decide +kernel, by decide +kernel⟩
def b_need_calls : MS := ifS (orT (notT (tst (op1 (isiD .list) (varE 0)))) (orT (tst (op2 gtD (callB lenD (consA (varE 0) (nilA))) (cE (.int 60)))) (notT (tst (callB (one allD) (consA (lcE false (seqV (varE 0)) (.one 1) (yesT) (callF 1 F_is_call (consA (varE 1) (nilA))) [1]) (nilA))))))) (raiseS 16) (passS)
abbrev F_need_calls : List D → IH → Out D := fnC 2 b_need_calls
theorem cal_need_calls (Fx : Fs P w K mg base T) : CalF P w K mg base T "need_calls" 3 1 F_need_calls := by
  obtain ⟨f, fd, F, gF⟩ := Fx.d_need_calls
  have S := sc_need_calls
  refine ⟨f, fd, ["calls"], rfl, gF, F.kp, F.bindsN (fun _ _ _ _ _ _ us hl => match us, hl with | [_], _ => rfl), fn_okC (k := 2) F S (fun A outer s H E hc hr tk hp => ?_)⟩
  unfold b_need_calls
  exact dss_one (ds_if (DW.dt (dw_or (dt_not (dt_val (de_isi .list Fx.n_isinstance Fx.n_list (by decide +kernel) (de_var 0)))) (dw_or (dt_cmp cr_gt (de_len Fx.n_len (da_cons (de_var 0) (da_nil))) (de_glob (by rfl) Fx.g_MOST_CALLS)) (dw_or1 (dt_not (dt_val (de_all rfl Fx.n_all (da_cons (de_lc false (.one 1) [("call", 1)] rfl S.nd (di_seq (de_var 0)) (blkOk_by (by rfl)) (fun _ _ _ _ _ => pg_name S.nd rfl (by first | exact Or.inl rfl | exact Or.inr rfl)) (fun _ _ _ _ _ => dts_nil) (fun _ _ _ _ _ => de_call ⟨cal_is_call Fx⟩ (hr.mono (by decide)) takesN0 (da_cons (de_var 1) (da_nil)))) (da_nil))))))))) (dss_one (ds_raise 16 Fx.e_16 rfl tk)) (dss_nil))
abbrev N_led : List Str := ["calls", "cords", "found", "order", "held", "number", "one", "other", "begun", "size", "lines", "free", "row", "cord"]
theorem sc_led : FnScope N_led ["calls", "cords"] (defScope st_led) := ⟨rfl, rfl, rfl, by decide +kernel, rfl, by decide +kernel, by decide +kernel⟩
def b_led_0 : MS := seqS (asgS (op2 ixD (varE 0) (varE 5)) (tupG 4 (consG (nameG 6) (consG (nameG 7) (consG (nameG 8) (consG (nameG 9) (nilG))))))) (seqS (asgS (lcE true (seqV (varE 4)) (.one 12) (tst (op2 gtD (op2 ixD (varE 12) (cE (.int 3))) (varE 8))) (varE 12) [12]) (nameG 4)) (seqS (asgS (op2 (addD false) (lcE false (seqV (varE 4)) (.one 12) (yesT) (op2 ixD (varE 12) (cE (.int 1))) [12]) (lcE false (seqV (varE 4)) (.one 12) (yesT) (op2 ixD (varE 12) (cE (.int 2))) [12])) (nameG 10)) (seqS (asgS (lcE false (rng1V (consA (varE 1) (nilA))) (.one 13) (tst (op2 (inD true) (varE 13) (lcE false (seqV (varE 4)) (.one 12) (yesT) (op2 ixD (varE 12) (cE (.int 0))) [12]))) (varE 13) [13]) (nameG 11)) (ifS (orT (tst (op2 (inD false) (varE 6) (varE 10))) (tst (op2 (inD false) (varE 7) (varE 10)))) (setS (cE (.wd 24)) (varE 2) (varE 5)) (ifS (tst (op2 eqD (varE 11) (lstE false (nilA)))) (setS (cE (.wd 25)) (varE 2) (varE 5)) (seqS (setS (op2 ixD (varE 11) (cE (.int 0))) (varE 2) (varE 5)) (exprS (bmE appD (varE 4) (consA (tupE (consA (op2 ixD (varE 11) (cE (.int 0))) (consA (varE 6) (consA (varE 7) (consA (op2 (addD false) (varE 8) (varE 9)) (nilA)))))) (nilA))))))))))
def b_led : MS := seqS (asgS (op2 (mulD true) (lstE false (consA (cE .non) (nilA))) (callB lenD (consA (varE 0) (nilA)))) (nameG 2)) (seqS (asgS (sortKE false 0 2 (lrg1E false (callB lenD (consA (varE 0) (nilA))))) (nameG 3)) (seqS (asgS (lstE true (nilA)) (nameG 4)) (seqS (forS (seqV (varE 3)) (nameG 5) (b_led_0)) (retS (varE 2)))))
abbrev F_led : List D → IH → Out D := fnC 14 b_led
theorem cal_led (Fx : Fs P w K mg base T) : CalF P w K mg base T "led" 3 2 F_led := by
  obtain ⟨f, fd, F, gF, c, P0, hcd, TB, hmT, hu⟩ := Fx.d_led
  have S := sc_led
  refine ⟨f, fd, ["calls", "cords"], rfl, gF, F.kp, F.bindsN (fun _ _ _ _ _ _ us hl => match us, hl with | [_, _], _ => rfl), fn_okC (k := 2) F S (fun A outer s H E hc hr tk hp => ?_)⟩
  unfold b_led
  exact dss_cons (ds_set 2 S.nd (de_mul true (de_lst false (da_cons (de_non) (da_nil))) (de_len Fx.n_len (da_cons (de_var 0) (da_nil))))) (dss_cons (ds_set 3 S.nd (de_sortK (nr := 0) false 0 2 (hr.mono (by decide)) TB hcd hmT hu (lamK_by (by rfl)) (de_lrg1 false rfl Fx.n_list Fx.n_range (de_len Fx.n_len (da_cons (de_var 0) (da_nil)))) Fx.n_sorted)) (dss_cons (ds_set 4 S.nd (de_lst true (da_nil))) (dss_cons (ds_for hp rfl (di_seq (de_var 3)) (dg_name 5 S.nd) (dss_cons (ds_asg (de_item (de_var 0) (de_var 5)) (dg_tup rfl (dgs_cons (dg_name 6 S.nd) (dgs_cons (dg_name 7 S.nd) (dgs_cons (dg_name 8 S.nd) (dgs_cons (dg_name 9 S.nd) (dgs_nil))))))) (dss_cons (ds_set 4 S.nd (de_lc true (.one 12) [("row", 12)] rfl S.nd (di_seq (de_var 4)) (blkOk_by (by rfl)) (fun _ _ _ _ _ => pg_name S.nd rfl (by first | exact Or.inl rfl | exact Or.inr rfl)) (fun _ _ _ _ _ => dts_one (dt_cmp cr_gt (de_item (de_var 12) (de_int)) (de_var 8))) (fun _ _ _ _ _ => de_var 12))) (dss_cons (ds_set 10 S.nd (de_add false (de_lc false (.one 12) [("row", 12)] rfl S.nd (di_seq (de_var 4)) (blkOk_by (by rfl)) (fun _ _ _ _ _ => pg_name S.nd rfl (by first | exact Or.inl rfl | exact Or.inr rfl)) (fun _ _ _ _ _ => dts_nil) (fun _ _ _ _ _ => de_item (de_var 12) (de_int))) (de_lc false (.one 12) [("row", 12)] rfl S.nd (di_seq (de_var 4)) (blkOk_by (by rfl)) (fun _ _ _ _ _ => pg_name S.nd rfl (by first | exact Or.inl rfl | exact Or.inr rfl)) (fun _ _ _ _ _ => dts_nil) (fun _ _ _ _ _ => de_item (de_var 12) (de_int))))) (dss_cons (ds_setLc 11 false (.one 13) [("cord", 13)] rfl S.nd (di_range1 Fx.n_range (da_cons (de_var 1) (da_nil))) (blkOk_by (by rfl)) (fun _ _ _ _ _ => pg_name S.nd rfl (by first | exact Or.inl rfl | exact Or.inr rfl)) (fun _ _ _ _ _ => dts_one (dt_cmp cr_notin (de_var 13) (de_lc false (.one 12) [("row", 12)] rfl S.nd (di_seq (de_var 4)) (blkOk_by (by rfl)) (fun _ _ _ _ _ => pg_name S.nd rfl (by first | exact Or.inl rfl | exact Or.inr rfl)) (fun _ _ _ _ _ => dts_nil) (fun _ _ _ _ _ => de_item (de_var 12) (de_int))))) (fun _ _ _ _ _ => de_var 13)) (dss_one (ds_if (DW.dt (dw_or (dt_cmp cr_in (de_var 6) (de_var 10)) (dw_or1 (dt_cmp cr_in (de_var 7) (de_var 10))))) (dss_one (ds_setItem (de_wd 24) (de_var 2) (de_var 5))) (dss_one (ds_if (dt_cmp (cr_eq hr) (de_var 11) (de_lst false (da_nil))) (dss_one (ds_setItem (de_wd 25) (de_var 2) (de_var 5))) (dss_cons (ds_setItem (de_item (de_var 11) (de_int)) (de_var 2) (de_var 5)) (dss_one (ds_expr (de_append (de_var 4) (da_cons (de_tup (da_cons (de_item (de_var 11) (de_int)) (da_cons (de_var 6) (da_cons (de_var 7) (da_cons (de_add false (de_var 8) (de_var 9)) (da_nil)))))) (da_nil))))))))))))))) (dss_one (ds_ret (de_var 2))))))
abbrev N_carried : List Str := ["calls", "cords"]
theorem sc_carried : FnScope N_carried ["calls", "cords"] (defScope st_carried) := ⟨rfl, rfl, rfl, by decide +kernel, rfl, by decide +kernel, by decide +kernel⟩
def b_carried : MS := seqS (exprS (callF 1 F_need_calls (consA (varE 0) (nilA)))) (seqS (ifS (notT (tst (callF 3 F_is_count (consA (varE 1) (consA (cE (.int 0)) (consA (cE (.int 8)) (nilA))))))) (raiseS 11) (passS)) (retS (callF 2 F_led (consA (varE 0) (consA (varE 1) (nilA))))))
abbrev F_carried : List D → IH → Out D := fnC 2 b_carried
theorem cal_carried (Fx : Fs P w K mg base T) : CalF P w K mg base T "carried" 4 2 F_carried := by
  obtain ⟨f, fd, F, gF⟩ := Fx.d_carried
  have S := sc_carried
  refine ⟨f, fd, ["calls", "cords"], rfl, gF, F.kp, F.bindsN (fun _ _ _ _ _ _ us hl => match us, hl with | [_, _], _ => rfl), fn_okC (k := 3) F S (fun A outer s H E hc hr tk hp => ?_)⟩
  unfold b_carried
  exact dss_cons (ds_expr (de_call ⟨cal_need_calls Fx⟩ (hr.mono (by decide)) tk (da_cons (de_var 0) (da_nil)))) (dss_cons (ds_if (dt_not (dt_val (de_call ⟨cal_is_count Fx⟩ (hr.mono (by decide)) tk (da_cons (de_var 1) (da_cons (de_int) (da_cons (de_glob (by rfl) Fx.g_MOST_CORDS) (da_nil))))))) (dss_one (ds_raise 11 Fx.e_11 rfl tk)) (dss_nil)) (dss_one (ds_ret (de_call ⟨cal_led Fx⟩ (hr.mono (by decide)) tk (da_cons (de_var 0) (da_cons (de_var 1) (da_nil)))))))
abbrev N_fewest : List Str := ["calls", "some", "cord"]
theorem sc_fewest : FnScope N_fewest ["calls"] (defScope st_fewest) := ⟨rfl, rfl, rfl, by decide +kernel, rfl, by decide +kernel, by decide +kernel⟩
def b_fewest : MS := seqS (exprS (callF 1 F_need_calls (consA (varE 0) (nilA)))) (seqS (asgS (lcE false (seqV (callF 2 F_led (consA (varE 0) (consA (cE (.int 20)) (nilA))))) (.one 2) (tst (op2 neD (varE 2) (cE (.wd 24)))) (varE 2) [2]) (nameG 1)) (retS (callB (one maxD) (consA (op2 (addD false) (lstE false (consA (cE (.int 0)) (nilA))) (lcE false (seqV (varE 1)) (.one 2) (yesT) (op2 (addD false) (varE 2) (cE (.int 1))) [2])) (nilA)))))
abbrev F_fewest : List D → IH → Out D := fnC 3 b_fewest
theorem cal_fewest (Fx : Fs P w K mg base T) : CalF P w K mg base T "fewest" 4 1 F_fewest := by
  obtain ⟨f, fd, F, gF⟩ := Fx.d_fewest
  have S := sc_fewest
  refine ⟨f, fd, ["calls"], rfl, gF, F.kp, F.bindsN (fun _ _ _ _ _ _ us hl => match us, hl with | [_], _ => rfl), fn_okC (k := 3) F S (fun A outer s H E hc hr tk hp => ?_)⟩
  unfold b_fewest
  exact dss_cons (ds_expr (de_call ⟨cal_need_calls Fx⟩ (hr.mono (by decide)) tk (da_cons (de_var 0) (da_nil)))) (dss_cons (ds_setLc 1 false (.one 2) [("cord", 2)] rfl S.nd (di_seq (de_call ⟨cal_led Fx⟩ (hr.mono (by decide)) tk (da_cons (de_var 0) (da_cons (de_glob (by rfl) Fx.g_MOST_LINES) (da_nil))))) (blkOk_by (by rfl)) (fun _ _ _ _ _ => pg_name S.nd rfl (by first | exact Or.inl rfl | exact Or.inr rfl)) (fun _ _ _ _ _ => dts_one (dt_cmp (cr_ne hr) (de_var 2) (de_wd 24))) (fun _ _ _ _ _ => de_var 2)) (dss_one (ds_ret (de_max1 rfl Fx.n_max (da_cons (de_add false (de_lst false (da_cons (de_int) (da_nil))) (de_lc false (.one 2) [("cord", 2)] rfl S.nd (di_seq (de_var 1)) (blkOk_by (by rfl)) (fun _ _ _ _ _ => pg_name S.nd rfl (by first | exact Or.inl rfl | exact Or.inr rfl)) (fun _ _ _ _ _ => dts_nil) (fun _ _ _ _ _ => de_add false (de_var 2) (de_int)))) (da_nil))))))
abbrev N_greatest : List Str := ["calls", "told", "rows", "counts", "most", "call", "cord", "tick", "later", "begun", "over"]
theorem sc_greatest : FnScope N_greatest ["calls"] (defScope st_greatest) := ⟨rfl, rfl, rfl, by decide +kernel, rfl, by decide +kernel, by decide +kernel⟩
def b_greatest : MS := seqS (exprS (callF 1 F_need_calls (consA (varE 0) (nilA)))) (seqS (asgS (callF 2 F_led (consA (varE 0) (consA (cE (.int 20)) (nilA)))) (nameG 1)) (seqS (asgS (lcE false (zipE (consA (varE 0) (consA (varE 1) (nilA)))) (.many [5, 6]) (tst (op2 neD (varE 6) (cE (.wd 24)))) (tupE (consA (op2 ixD (varE 5) (cE (.int 2))) (consA (op2 (addD false) (op2 ixD (varE 5) (cE (.int 2))) (op2 ixD (varE 5) (cE (.int 3)))) (nilA)))) [5, 6]) (nameG 2)) (seqS (ifS (tst (op2 eqD (varE 2) (lstE false (nilA)))) (retS (cE .non)) (passS)) (seqS (asgS (lcE false (seqV (varE 2)) (.many [7, 8]) (yesT) (tupE (consA (callB lenD (consA (lcE false (seqV (varE 2)) (.many [9, 10]) (tst (chE leD ltD (varE 9) (varE 7) (varE 10))) (cE (.int 1)) [9, 10]) (nilA))) (consA (op2 subD (cE (.int 0)) (varE 7)) (nilA)))) [7, 8]) (nameG 3)) (seqS (asgS (callB (one maxTD) (consA (varE 3) (nilA))) (nameG 4)) (retS (tupE (consA (op2 ixD (varE 4) (cE (.int 0))) (consA (op2 subD (cE (.int 0)) (op2 ixD (varE 4) (cE (.int 1)))) (nilA))))))))))
abbrev F_greatest : List D → IH → Out D := fnC 11 b_greatest
theorem cal_greatest (Fx : Fs P w K mg base T) : CalF P w K mg base T "greatest" 4 1 F_greatest := by
  obtain ⟨f, fd, F, gF⟩ := Fx.d_greatest
  have S := sc_greatest
  refine ⟨f, fd, ["calls"], rfl, gF, F.kp, F.bindsN (fun _ _ _ _ _ _ us hl => match us, hl with | [_], _ => rfl), fn_okC (k := 3) F S (fun A outer s H E hc hr tk hp => ?_)⟩
  unfold b_greatest
  exact dss_cons (ds_expr (de_call ⟨cal_need_calls Fx⟩ (hr.mono (by decide)) tk (da_cons (de_var 0) (da_nil)))) (dss_cons (ds_set 1 S.nd (de_call ⟨cal_led Fx⟩ (hr.mono (by decide)) tk (da_cons (de_var 0) (da_cons (de_glob (by rfl) Fx.g_MOST_LINES) (da_nil))))) (dss_cons (ds_set 2 S.nd (de_lc false (.many [5, 6]) [("call", 5), ("cord", 6)] rfl S.nd (di_zip Fx.n_zip (da_cons (de_var 0) (da_cons (de_var 1) (da_nil)))) (blkOk_by (by rfl)) (fun _ _ _ _ _ => pg_tup rfl (pgs_cons (pg_name S.nd rfl (by first | exact Or.inl rfl | exact Or.inr rfl)) (pgs_cons (pg_name S.nd rfl (by first | exact Or.inl rfl | exact Or.inr rfl)) (pgs_nil)))) (fun _ _ _ _ _ => dts_one (dt_cmp (cr_ne hr) (de_var 6) (de_wd 24))) (fun _ _ _ _ _ => de_tup (da_cons (de_item (de_var 5) (de_int)) (da_cons (de_add false (de_item (de_var 5) (de_int)) (de_item (de_var 5) (de_int))) (da_nil)))))) (dss_cons (ds_if (dt_cmp (cr_eq hr) (de_var 2) (de_lst false (da_nil))) (dss_one (ds_ret (de_non))) (dss_nil)) (dss_cons (ds_setLc 3 false (.many [7, 8]) [("tick", 7), ("later", 8)] rfl S.nd (di_seq (de_var 2)) (blkOk_by (by rfl)) (fun _ _ _ _ _ => pg_tup rfl (pgs_cons (pg_name S.nd rfl (by first | exact Or.inl rfl | exact Or.inr rfl)) (pgs_cons (pg_name S.nd rfl (by first | exact Or.inl rfl | exact Or.inr rfl)) (pgs_nil)))) (fun _ _ _ _ _ => dts_nil) (fun _ _ _ _ _ => de_tup (da_cons (de_len Fx.n_len (da_cons (de_lc false (.many [9, 10]) [("begun", 9), ("over", 10)] rfl S.nd (di_seq (de_var 2)) (blkOk_by (by rfl)) (fun _ _ _ _ _ => pg_tup rfl (pgs_cons (pg_name S.nd rfl (by first | exact Or.inl rfl | exact Or.inr rfl)) (pgs_cons (pg_name S.nd rfl (by first | exact Or.inl rfl | exact Or.inr rfl)) (pgs_nil)))) (fun _ _ _ _ _ => dts_one (dt_chain cr_le cr_lt (de_var 9) (de_var 7) (de_var 10))) (fun _ _ _ _ _ => de_int)) (da_nil))) (da_cons (de_sub (de_int) (de_var 7)) (da_nil))))) (dss_cons (ds_set 4 S.nd (de_maxT hr Fx.n_max (da_cons (de_var 3) (da_nil)))) (dss_one (ds_ret (de_tup (da_cons (de_item (de_var 4) (de_int)) (da_cons (de_sub (de_int) (de_item (de_var 4) (de_int))) (da_nil)))))))))))
abbrev N_law : List Str := ["script", "k", "more", "calls", "cords", "late", "by", "told", "later", "wider", "others", "some", "left", "turn", "j", "mixed", "last", "most", "ticks", "one", "other", "begun", "size", "number", "call"]
theorem sc_law : FnScope N_law ["script"] (defScope st_law) := ⟨rfl, rfl, rfl, by decide +kernel, rfl, by decide +kernel, by decide +kernel⟩
def b_law_1 : MS := ifS (orT (tst (op2 neD (callF 2 F_carried (consA (varE 11) (consA (varE 4) (nilA)))) (varE 7))) (tst (op2 neD (callF 1 F_fewest (consA (varE 11) (nilA))) (callF 1 F_fewest (consA (varE 3) (nilA)))))) (retS (cE (.bl false))) (passS)
def b_law_2 : MS := exprS (bmE appD (varE 13) (consA (bmE popiD (varE 12) (consA (op2 modD (op2 fdivD (callF 2 F__law_drawn (consA (varE 2) (consA (op2 (addD false) (cE (.int 60)) (varE 14)) (nilA)))) (cE (.int 16))) (callB lenD (consA (varE 12) (nilA)))) (nilA))) (nilA)))
def v_law_0 : MT := tst (op2 neD (callF 2 F_carried (consA (op2 (addD false) (varE 3) (lstE false (consA (tupE (consA (cE (.int 0)) (consA (cE (.int 19)) (consA (varE 16) (consA (cE (.int 5)) (nilA)))))) (nilA)))) (consA (varE 4) (nilA)))) (op2 (addD false) (varE 7) (iteE (tst (op2 gtD (varE 4) (cE (.int 0)))) (lstE false (consA (cE (.int 0)) (nilA))) (lstE false (consA (cE (.wd 25)) (nilA))))))
def v_law_1 : MT := andT (tst (op2 (inD false) (callF 1 F_fewest (consA (varE 3) (nilA))) (lrg2E false (cE (.int 1)) (cE (.int 9))))) (tst (op2 (inD true) (cE (.wd 25)) (callF 2 F_carried (consA (varE 3) (consA (op2 subD (callF 1 F_fewest (consA (varE 3) (nilA))) (cE (.int 1))) (nilA))))))
def b_law_0 : MS := seqS (asgS (callF 2 F__law_drawn (consA (callF 2 F__law_cell (consA (varE 0) (consA (varE 1) (nilA)))) (consA (varE 1) (nilA)))) (nameG 2)) (seqS (asgS (tupE (consA (callF 1 F__law_hours (consA (callF 2 F__law_drawn (consA (varE 2) (consA (cE (.int 1)) (nilA)))) (nilA))) (consA (op2 modD (op2 fdivD (varE 2) (cE (.int 16))) (cE (.int 5))) nilA))) (tupG 2 (consG (nameG 3) (consG (nameG 4) (nilG))))) (seqS (asgS (tupE (consA (op2 modD (op2 fdivD (varE 2) (cE (.int 128))) (cE (.int 5000))) (consA (op2 (addD false) (cE (.int 2)) (op2 modD (op2 fdivD (varE 2) (cE (.int 512))) (cE (.int 7)))) nilA))) (tupG 2 (consG (nameG 5) (consG (nameG 6) (nilG))))) (seqS (asgS (callF 2 F_carried (consA (varE 3) (consA (varE 4) (nilA)))) (nameG 7)) (seqS (asgS (lcE false (seqV (varE 3)) (.many [19, 20, 21, 22]) (yesT) (tupE (consA (varE 19) (consA (varE 20) (consA (op2 (addD false) (varE 21) (varE 5)) (consA (varE 22) (nilA)))))) [19, 20, 21, 22]) (nameG 8)) (seqS (asgS (lcE false (seqV (varE 3)) (.many [19, 20, 21, 22]) (yesT) (tupE (consA (varE 19) (consA (varE 20) (consA (op2 (mulD false) (varE 21) (varE 6)) (consA (op2 (mulD false) (varE 22) (varE 6)) (nilA)))))) [19, 20, 21, 22]) (nameG 9)) (seqS (asgS (lcE false (seqV (varE 3)) (.many [19, 20, 21, 22]) (yesT) (tupE (consA (op2 subD (cE (.int 19)) (varE 20)) (consA (op2 subD (cE (.int 19)) (varE 19)) (consA (varE 21) (consA (varE 22) (nilA)))))) [19, 20, 21, 22]) (nameG 10)) (seqS (forS (seqV (lstE false (consA (varE 8) (consA (varE 9) (consA (varE 10) (nilA)))))) (nameG 11) (b_law_1)) (seqS (parS 12 13 (consA (lrg1E true (callB lenD (consA (varE 3) (nilA)))) (consA (lstE true (nilA)) nilA))) (seqS (forS (rng1V (consA (callB lenD (consA (varE 3) (nilA))) (nilA))) (nameG 14) (b_law_2)) (seqS (asgS (callF 2 F_carried (consA (lcE false (seqV (varE 13)) (.one 23) (yesT) (op2 ixD (varE 3) (varE 23)) [23]) (consA (varE 4) (nilA)))) (nameG 15)) (seqS (ifS (tst (op2 neD (varE 15) (lcE false (seqV (varE 13)) (.one 23) (yesT) (op2 ixD (varE 7) (varE 23)) [23]))) (retS (cE (.bl false))) (passS)) (seqS (asgS (callB (one maxD) (consA (op2 (addD false) (lstE false (consA (cE (.int 0)) (nilA))) (lcE false (seqV (varE 3)) (.many [19, 20, 21, 22]) (yesT) (op2 (addD false) (varE 21) (varE 22)) [19, 20, 21, 22])) (nilA))) (nameG 16)) (seqS (ifS (v_law_0) (retS (cE (.bl false))) (passS)) (seqS (asgS (callF 1 F_greatest (consA (varE 3) (nilA))) (nameG 17)) (seqS (asgS (lcE false (seqV (varE 3)) (.one 24) (yesT) (op2 ixD (varE 24) (cE (.int 2))) [24]) (nameG 18)) (seqS (ifS (andT (tst (op2 neD (varE 3) (lstE false (nilA)))) (orT (tst (op2 neD (op2 ixD (varE 17) (cE (.int 0))) (callF 1 F_fewest (consA (varE 3) (nilA))))) (tst (op2 (inD true) (op2 ixD (varE 17) (cE (.int 1))) (varE 18))))) (retS (cE (.bl false))) (passS)) (seqS (ifS (andT (tst (op2 ltD (callF 1 F_fewest (consA (varE 3) (nilA))) (cE (.int 9)))) (tst (op2 (inD false) (cE (.wd 25)) (callF 2 F_carried (consA (varE 3) (consA (callF 1 F_fewest (consA (varE 3) (nilA))) (nilA))))))) (retS (cE (.bl false))) (passS)) (ifS (v_law_1) (retS (cE (.bl false))) (passS)))))))))))))))))))
def b_law : MS := seqS (forS (rng1V (consA (callB max2 (consA (cE (.int 1)) (consA (callB min2 (consA (cE (.int 3)) (consA (callB lenD (consA (varE 0) (nilA))) (nilA)))) (nilA)))) (nilA))) (nameG 1) (cutS b_law_0)) (retS (cE (.bl true)))
abbrev F_law : List D → IH → Out D := fnC 25 b_law
theorem ok_law (Fx : Fs P w K mg base T) {f : Addr} {fd : FuncData} (F : FunD K "law" "law" (defArgs st_law) (defBody st_law) (defScope st_law) [] [] f fd) : FnOk P w K mg base (L2N.CX P w) 5 f fd ["script"] (SpOf ⟨K, mg, T⟩ 1 F_law) := by
  have S := sc_law
  refine fn_okC (k := 4) F S (fun A outer s H E hc hr tk hp => ?_)
  unfold b_law
  exact dss_cons (ds_for hp rfl (di_range1 Fx.n_range (da_cons (de_max2 rfl Fx.n_max (da_cons (de_int) (da_cons (de_min2 rfl Fx.n_min (da_cons (de_int) (da_cons (de_len Fx.n_len (da_cons (de_var 0) (da_nil))) (da_nil)))) (da_nil)))) (da_nil))) (dg_name 1 S.nd) (dss_cut (dss_cons (ds_set 2 S.nd (de_call ⟨cal__law_drawn Fx⟩ (hr.mono (by decide)) tk (da_cons (de_call ⟨cal__law_cell Fx⟩ (hr.mono (by decide)) tk (da_cons (de_var 0) (da_cons (de_var 1) (da_nil)))) (da_cons (de_var 1) (da_nil))))) (dss_cons (ds_asg (de_tup (da_cons (de_call ⟨cal__law_hours Fx⟩ (hr.mono (by decide)) tk (da_cons (de_call ⟨cal__law_drawn Fx⟩ (hr.mono (by decide)) tk (da_cons (de_var 2) (da_cons (de_int) (da_nil)))) (da_nil))) (da_cons (de_mod (de_fdiv (de_var 2) (de_int)) (de_int)) da_nil))) (dg_tup rfl (dgs_cons (dg_name 3 S.nd) (dgs_cons (dg_name 4 S.nd) (dgs_nil))))) (dss_cons (ds_asg (de_tup (da_cons (de_mod (de_fdiv (de_var 2) (de_int)) (de_int)) (da_cons (de_add false (de_int) (de_mod (de_fdiv (de_var 2) (de_int)) (de_int))) da_nil))) (dg_tup rfl (dgs_cons (dg_name 5 S.nd) (dgs_cons (dg_name 6 S.nd) (dgs_nil))))) (dss_cons (ds_set 7 S.nd (de_call ⟨cal_carried Fx⟩ (hr.mono (by decide)) tk (da_cons (de_var 3) (da_cons (de_var 4) (da_nil))))) (dss_cons (ds_setLc 8 false (.many [19, 20, 21, 22]) [("one", 19), ("other", 20), ("begun", 21), ("size", 22)] rfl S.nd (di_seq (de_var 3)) (blkOk_by (by rfl)) (fun _ _ _ _ _ => pg_tup rfl (pgs_cons (pg_name S.nd rfl (by first | exact Or.inl rfl | exact Or.inr rfl)) (pgs_cons (pg_name S.nd rfl (by first | exact Or.inl rfl | exact Or.inr rfl)) (pgs_cons (pg_name S.nd rfl (by first | exact Or.inl rfl | exact Or.inr rfl)) (pgs_cons (pg_name S.nd rfl (by first | exact Or.inl rfl | exact Or.inr rfl)) (pgs_nil)))))) (fun _ _ _ _ _ => dts_nil) (fun _ _ _ _ _ => de_tup (da_cons (de_var 19) (da_cons (de_var 20) (da_cons (de_add false (de_var 21) (de_var 5)) (da_cons (de_var 22) (da_nil))))))) (dss_cons (ds_setLc 9 false (.many [19, 20, 21, 22]) [("one", 19), ("other", 20), ("begun", 21), ("size", 22)] rfl S.nd (di_seq (de_var 3)) (blkOk_by (by rfl)) (fun _ _ _ _ _ => pg_tup rfl (pgs_cons (pg_name S.nd rfl (by first | exact Or.inl rfl | exact Or.inr rfl)) (pgs_cons (pg_name S.nd rfl (by first | exact Or.inl rfl | exact Or.inr rfl)) (pgs_cons (pg_name S.nd rfl (by first | exact Or.inl rfl | exact Or.inr rfl)) (pgs_cons (pg_name S.nd rfl (by first | exact Or.inl rfl | exact Or.inr rfl)) (pgs_nil)))))) (fun _ _ _ _ _ => dts_nil) (fun _ _ _ _ _ => de_tup (da_cons (de_var 19) (da_cons (de_var 20) (da_cons (de_mul false (de_var 21) (de_var 6)) (da_cons (de_mul false (de_var 22) (de_var 6)) (da_nil))))))) (dss_cons (ds_setLc 10 false (.many [19, 20, 21, 22]) [("one", 19), ("other", 20), ("begun", 21), ("size", 22)] rfl S.nd (di_seq (de_var 3)) (blkOk_by (by rfl)) (fun _ _ _ _ _ => pg_tup rfl (pgs_cons (pg_name S.nd rfl (by first | exact Or.inl rfl | exact Or.inr rfl)) (pgs_cons (pg_name S.nd rfl (by first | exact Or.inl rfl | exact Or.inr rfl)) (pgs_cons (pg_name S.nd rfl (by first | exact Or.inl rfl | exact Or.inr rfl)) (pgs_cons (pg_name S.nd rfl (by first | exact Or.inl rfl | exact Or.inr rfl)) (pgs_nil)))))) (fun _ _ _ _ _ => dts_nil) (fun _ _ _ _ _ => de_tup (da_cons (de_sub (de_int) (de_var 20)) (da_cons (de_sub (de_int) (de_var 19)) (da_cons (de_var 21) (da_cons (de_var 22) (da_nil))))))) (dss_cons (ds_for hp rfl (di_seq (de_lst false (da_cons (de_var 8) (da_cons (de_var 9) (da_cons (de_var 10) (da_nil)))))) (dg_name 11 S.nd) (dss_one (ds_if (DW.dt (dw_or (dt_cmp (cr_ne hr) (de_call ⟨cal_carried Fx⟩ (hr.mono (by decide)) tk (da_cons (de_var 11) (da_cons (de_var 4) (da_nil)))) (de_var 7)) (dw_or1 (dt_cmp (cr_ne hr) (de_call ⟨cal_fewest Fx⟩ (hr.mono (by decide)) tk (da_cons (de_var 11) (da_nil))) (de_call ⟨cal_fewest Fx⟩ (hr.mono (by decide)) tk (da_cons (de_var 3) (da_nil))))))) (dss_one (ds_ret (de_bl))) (dss_nil)))) (dss_cons (ds_par 12 13 rfl S.nd (da_cons (de_lrg1 true rfl Fx.n_list Fx.n_range (de_len Fx.n_len (da_cons (de_var 3) (da_nil)))) (da_cons (de_lst true (da_nil)) da_nil))) (dss_cons (ds_for hp rfl (di_range1 Fx.n_range (da_cons (de_len Fx.n_len (da_cons (de_var 3) (da_nil))) (da_nil))) (dg_name 14 S.nd) (dss_one (ds_expr (de_append (de_var 13) (da_cons (de_popi (de_var 12) (da_cons (de_mod (de_fdiv (de_call ⟨cal__law_drawn Fx⟩ (hr.mono (by decide)) tk (da_cons (de_var 2) (da_cons (de_add false (de_int) (de_var 14)) (da_nil)))) (de_int)) (de_len Fx.n_len (da_cons (de_var 12) (da_nil)))) (da_nil))) (da_nil)))))) (dss_cons (ds_set 15 S.nd (de_call ⟨cal_carried Fx⟩ (hr.mono (by decide)) tk (da_cons (de_lc false (.one 23) [("number", 23)] rfl S.nd (di_seq (de_var 13)) (blkOk_by (by rfl)) (fun _ _ _ _ _ => pg_name S.nd rfl (by first | exact Or.inl rfl | exact Or.inr rfl)) (fun _ _ _ _ _ => dts_nil) (fun _ _ _ _ _ => de_item (de_var 3) (de_var 23))) (da_cons (de_var 4) (da_nil))))) (dss_cons (ds_if (dt_cmp (cr_ne hr) (de_var 15) (de_lc false (.one 23) [("number", 23)] rfl S.nd (di_seq (de_var 13)) (blkOk_by (by rfl)) (fun _ _ _ _ _ => pg_name S.nd rfl (by first | exact Or.inl rfl | exact Or.inr rfl)) (fun _ _ _ _ _ => dts_nil) (fun _ _ _ _ _ => de_item (de_var 7) (de_var 23)))) (dss_one (ds_ret (de_bl))) (dss_nil)) (dss_cons (ds_set 16 S.nd (de_max1 rfl Fx.n_max (da_cons (de_add false (de_lst false (da_cons (de_int) (da_nil))) (de_lc false (.many [19, 20, 21, 22]) [("one", 19), ("other", 20), ("begun", 21), ("size", 22)] rfl S.nd (di_seq (de_var 3)) (blkOk_by (by rfl)) (fun _ _ _ _ _ => pg_tup rfl (pgs_cons (pg_name S.nd rfl (by first | exact Or.inl rfl | exact Or.inr rfl)) (pgs_cons (pg_name S.nd rfl (by first | exact Or.inl rfl | exact Or.inr rfl)) (pgs_cons (pg_name S.nd rfl (by first | exact Or.inl rfl | exact Or.inr rfl)) (pgs_cons (pg_name S.nd rfl (by first | exact Or.inl rfl | exact Or.inr rfl)) (pgs_nil)))))) (fun _ _ _ _ _ => dts_nil) (fun _ _ _ _ _ => de_add false (de_var 21) (de_var 22)))) (da_nil)))) (dss_cons (ds_if (dt_cmp (cr_ne hr) (de_call ⟨cal_carried Fx⟩ (hr.mono (by decide)) tk (da_cons (de_add false (de_var 3) (de_lst false (da_cons (de_tup (da_cons (de_int) (da_cons (de_int) (da_cons (de_var 16) (da_cons (de_int) (da_nil)))))) (da_nil)))) (da_cons (de_var 4) (da_nil)))) (de_add false (de_var 7) (de_ifExp (dt_cmp cr_gt (de_var 4) (de_int)) (de_lst false (da_cons (de_int) (da_nil))) (de_lst false (da_cons (de_wd 25) (da_nil)))))) (dss_one (ds_ret (de_bl))) (dss_nil)) (dss_cons (ds_set 17 S.nd (de_call ⟨cal_greatest Fx⟩ (hr.mono (by decide)) tk (da_cons (de_var 3) (da_nil)))) (dss_cons (ds_setLc 18 false (.one 24) [("call", 24)] rfl S.nd (di_seq (de_var 3)) (blkOk_by (by rfl)) (fun _ _ _ _ _ => pg_name S.nd rfl (by first | exact Or.inl rfl | exact Or.inr rfl)) (fun _ _ _ _ _ => dts_nil) (fun _ _ _ _ _ => de_item (de_var 24) (de_int))) (dss_cons (ds_if (DW.dt (dw_and (dt_cmp (cr_ne hr) (de_var 3) (de_lst false (da_nil))) (dw_and1 (DW.dt (dw_or (dt_cmp (cr_ne hr) (de_item (de_var 17) (de_int)) (de_call ⟨cal_fewest Fx⟩ (hr.mono (by decide)) tk (da_cons (de_var 3) (da_nil)))) (dw_or1 (dt_cmp cr_notin (de_item (de_var 17) (de_int)) (de_var 18)))))))) (dss_one (ds_ret (de_bl))) (dss_nil)) (dss_cons (ds_if (DW.dt (dw_and (dt_cmp cr_lt (de_call ⟨cal_fewest Fx⟩ (hr.mono (by decide)) tk (da_cons (de_var 3) (da_nil))) (de_int)) (dw_and1 (dt_cmp cr_in (de_wd 25) (de_call ⟨cal_carried Fx⟩ (hr.mono (by decide)) tk (da_cons (de_var 3) (da_cons (de_call ⟨cal_fewest Fx⟩ (hr.mono (by decide)) tk (da_cons (de_var 3) (da_nil))) (da_nil)))))))) (dss_one (ds_ret (de_bl))) (dss_nil)) (dss_one (ds_if (DW.dt (dw_and (dt_cmp cr_in (de_call ⟨cal_fewest Fx⟩ (hr.mono (by decide)) tk (da_cons (de_var 3) (da_nil))) (de_lrg2 false rfl Fx.n_list Fx.n_range (de_int) (de_int))) (dw_and1 (dt_cmp cr_notin (de_wd 25) (de_call ⟨cal_carried Fx⟩ (hr.mono (by decide)) tk (da_cons (de_var 3) (da_cons (de_sub (de_call ⟨cal_fewest Fx⟩ (hr.mono (by decide)) tk (da_cons (de_var 3) (da_nil))) (de_int)) (da_nil)))))))) (dss_one (ds_ret (de_bl))) (dss_nil))))))))))))))))))))))) (dss_one (ds_ret (de_bl)))
end
end GK

set_option Elab.async false
set_option linter.all false
set_option maxRecDepth 100000
set_option maxHeartbeats 1000000
namespace GK
open DL L2 PySem PySem.Spec PyProof.Rows
local macro_rules | `(tactic| walk_at "ev") => `(tactic| first
  | with_reducible exact ok_is (by assumption)
  | with_reducible exact so_is (by assumption)
  | with_reducible exact lst_is (by assumption)
  | with_reducible exact r_c
  | ((with_reducible show varE _ (_ :: _) _ = _); exact r_var rfl)
  | ((with_reducible show varE _ (List.set _ _ _) _ = _); exact r_var rfl)
  | ((with_reducible show varE _ (setsE _ _ _) _ = _); exact r_var rfl)
  | with_reducible exact r_nilA
  | with_reducible exact r_noP
  | with_reducible exact s_pass
  | with_reducible exact s_cont
  | with_reducible exact s_raise
  | with_reducible exact addI_e
  | with_reducible exact subI_e
  | with_reducible exact ltD_e
  | with_reducible exact leD_e
  | with_reducible exact gtD_e
  | with_reducible exact geD_e
  | with_reducible exact isN_e
  | with_reducible exact isNN_e
  | with_reducible exact p_eq _ _ _
  | with_reducible exact p_ne _ _ _
  | with_reducible exact p_len _ _
  | with_reducible exact modI_e (by decide)
  | with_reducible exact fdivI_e (by decide) (by decide +kernel)
  | with_reducible exact r_notD
  | ((with_reducible apply len_le); exact rfl)
  | ((with_reducible apply len_is); exact rfl)
  | ((with_reducible apply set_is); (try dsimp only [List.set]); try exact rfl)
  | (with_reducible apply r_op2) <;> try walk_at "ev"
  | (with_reducible apply r_op1) <;> try walk_at "ev"
  | (with_reducible apply r_consA) <;> try walk_at "ev"
  | (with_reducible apply r_callB) <;> try walk_at "ev"
  | (with_reducible apply r_one) <;> try walk_at "ev"
  | (with_reducible apply r_callF) <;> try walk_at "ev"
  | (with_reducible apply r_tup) <;> try walk_at "ev"
  | (with_reducible apply r_lst) <;> try walk_at "ev"
  | (with_reducible apply r_lstT) <;> try walk_at "ev"
  | (with_reducible apply r_tst) <;> try walk_at "ev"
  | (with_reducible apply r_not) <;> try walk_at "ev"
  | (with_reducible apply r_bmR) <;> try walk_at "ev"
  | (with_reducible apply r_someP) <;> try walk_at "ev"
  | ((with_reducible apply s_seq); (focus (walk_at "ev"; done)); try walk_at "ev")
  | (with_reducible apply s_name) <;> try walk_at "ev"
  | (with_reducible apply s_par) <;> try walk_at "ev"
  | (with_reducible apply s_expr) <;> try walk_at "ev"
  | (with_reducible apply s_ret) <;> try walk_at "ev")
/-! ### drawn numbers, the script's cells -/
def drawn (c k : Int) : Int :=
  (((((c * 6364136223846793005 + (k + 1) * 1442695040888963407) % 340282366920938463463374607431768211507) * ((c * 6364136223846793005 + (k + 1) * 1442695040888963407) % 340282366920938463463374607431768211507) % 340282366920938463463374607431768211297) % 18446744073709551557 + 1) *
    ((((c * 6364136223846793005 + (k + 1) * 1442695040888963407) % 340282366920938463463374607431768211507) * ((c * 6364136223846793005 + (k + 1) * 1442695040888963407) % 340282366920938463463374607431768211507) % 340282366920938463463374607431768211297) / 18446744073709551557 + 1) *
    (((c * 6364136223846793005 + (k + 1) * 1442695040888963407) % 340282366920938463463374607431768211507) * ((c * 6364136223846793005 + (k + 1) * 1442695040888963407) % 340282366920938463463374607431768211507) % 340282366920938463463374607431768211297)) % 340282366920938463463374607431768211507
theorem drawn_nn (c k : Int) : 0 ≤ drawn c k := Int.emod_nonneg _ (by decide)
theorem natAbs_lt {z : Int} {b : Nat} (h0 : 0 ≤ z) (h1 : z < (b : Int)) : z.natAbs < b := by omega
theorem drawn_ok (c k : Int) (h : IH) : F__law_drawn [.int c, .int k] h = .ok (.int (drawn c k)) h := by
  refine fnC_r0 (d := .int (drawn c k)) ?_ rfl
  have a1 := mulI_e (h := h) (b := false) (mulOk_r (p := c) (q := 6364136223846793005) (by decide))
  have a2 := mulI_e (h := h) (b := false) (mulOk_r (p := k + 1) (q := 1442695040888963407) (by decide))
  unfold drawn
  generalize hm : (c * 6364136223846793005 + (k + 1) * 1442695040888963407) % 340282366920938463463374607431768211507 = m
  have m0 : 0 ≤ m := by rw [← hm]; exact Int.emod_nonneg _ (by decide)
  have m1 : m < 340282366920938463463374607431768211507 := by rw [← hm]; exact Int.emod_lt_of_pos _ (by decide)
  have a3 := mulI_e (h := h) (b := false) (mulOk_m (p := m) (q := m) (natAbs_lt m0 (Int.lt_trans m1 (by decide +kernel))) (natAbs_lt m0 (Int.lt_trans m1 (by decide +kernel))))
  generalize hn : m * m % 340282366920938463463374607431768211297 = n
  have n0 : 0 ≤ n := by rw [← hn]; exact Int.emod_nonneg _ (by decide)
  have n1 : n < 340282366920938463463374607431768211297 := by rw [← hn]; exact Int.emod_lt_of_pos _ (by decide)
  have q0 : 0 ≤ n % 18446744073709551557 + 1 := by omega
  have q1 : n % 18446744073709551557 + 1 < 18446744073709551616 := by omega
  have q2 : 0 ≤ n / 18446744073709551557 + 1 := by omega
  have q3 : n / 18446744073709551557 + 1 < 36893488147419103232 := by omega
  have a4 := mulI_e (h := h) (b := false) (mulOk_l (p := n % 18446744073709551557 + 1) (q := n / 18446744073709551557 + 1) (natAbs_lt q0 (by simpa using q1)))
  have q4 : 0 ≤ (n % 18446744073709551557 + 1) * (n / 18446744073709551557 + 1) := Int.mul_nonneg q0 q2
  have q5 : (n % 18446744073709551557 + 1) * (n / 18446744073709551557 + 1) ≤ 18446744073709551616 * 36893488147419103232 := Int.mul_le_mul (by omega) (by omega) q2 (by decide)
  have a5 := mulI_e (h := h) (b := false) (mulOk_m (p := (n % 18446744073709551557 + 1) * (n / 18446744073709551557 + 1)) (q := n) (natAbs_lt q4 (Int.lt_of_le_of_lt q5 (by decide +kernel))) (natAbs_lt n0 (Int.lt_trans n1 (by decide +kernel))))
  have b1 := fun z => modI_e (h := h) (p := z) (q := 340282366920938463463374607431768211507) (by decide)
  have b2 := fun z => modI_e (h := h) (p := z) (q := 340282366920938463463374607431768211297) (by decide)
  have b3 := fun z => modI_e (h := h) (p := z) (q := 18446744073709551557) (by decide)
  have b4 := fun z => fdivI_e (h := h) (p := z) (q := 18446744073709551557) (by decide) (by decide +kernel)
  show b__law_drawn [some (.int c), some (.int k), none] h = _
  unfold b__law_drawn
  simp [varE, a1, a2, b1, hm, a3, b2, hn, b3, b4, a4, a5]
def cell (ns : List Int) (k : Nat) : Int := match ns with
  | [] => (k : Int) * 7919
  | _ => ns.getD (k % ns.length) 0 + ((k / ns.length : Nat) : Int) * 104729
theorem cell_ok (ns : List Int) (k : Nat) (h : IH) (hk : k < 100) (hn : ns.length ≤ 63) : F__law_cell [.fl (ns.map .int), .int k] h = .ok (.int (cell ns k)) h := by
  refine fnC_r0 (d := .int (cell ns k)) ?_ rfl
  show b__law_cell [some (.fl (ns.map .int)), some (.int k)] h = _
  cases ns with
  | nil =>
    have a1 := mulI_e (h := h) (b := false) (mulOk_r (p := (k : Int)) (q := 7919) (by decide))
    have z : sizeLine = 16777216 := sizeLine_eq
    unfold b__law_cell
    simp [varE, lstE, eqD, res, dp, optAll, eqW, eqWs, a1, cell]
  | cons n ns =>
    have hp : 0 < ((n :: ns).length : Int) := by simp only [List.length_cons]; omega
    have hl : ((n :: ns).length : Int).natAbs < 2 ^ 64 := by simp only [Int.natAbs_natCast]; omega
    have hg : ((n :: ns).length : Int).natAbs.log2 < 9000 := by
      simp only [Int.natAbs_natCast]
      exact (Nat.log2_lt (by simp)).mpr (Nat.lt_of_le_of_lt hn (by decide +kernel))
    have e1 : (k : Int) % ((n :: ns).length : Int) = ((k % (n :: ns).length : Nat) : Int) := by omega
    have e2 : (k : Int) / ((n :: ns).length : Int) = ((k / (n :: ns).length : Nat) : Int) := by omega
    have a1 := mulI_e (h := h) (b := false) (mulOk_r (p := ((k / (n :: ns).length : Nat) : Int)) (q := 104729) (by decide))
    have a2 := modI_e (h := h) (p := (k : Int)) hp
    have a3 := fdivI_e (h := h) (p := (k : Int)) hp hg
    rw [e1] at a2
    rw [e2] at a3
    have hlt : k % (n :: ns).length < (n :: ns).length := Nat.mod_lt _ (by simp)
    have ez := lenD_e (h := h) (d := .fl ((n :: ns).map .int)) rfl
    rw [List.length_map] at ez
    have ei := ixD_e (h := h) (d := .fl ((n :: ns).map .int)) (i := k % (n :: ns).length) (y := .int ((n :: ns).getD (k % (n :: ns).length) 0)) rfl (by
      rw [List.getElem?_map, List.getElem?_eq_getElem hlt, List.getD_eq_getElem?_getD, List.getElem?_eq_getElem hlt]
      rfl)
    have eq := eqD_L (h := h) (x := .fl ((n :: ns).map .int)) (y := .vl []) rfl rfl (pls_ints _) rfl (by rw [deps_ints]; omega) (by decide)
    have eq2 : eqWs ((n :: ns).map D.int) [] = false := rfl
    rw [eq2] at eq
    have ec : cell (n :: ns) k = (n :: ns).getD (k % (n :: ns).length) 0 + ((k / (n :: ns).length : Nat) : Int) * 104729 := rfl
    rw [ec]
    unfold b__law_cell
    generalize D.fl ((n :: ns).map .int) = L at *
    generalize (n :: ns).length = len at *
    generalize k % len = u at *
    generalize k / len = v at *
    simp [varE, lstE, eq, ez, ei, a1, a2, a3]
namespace HR
/-! Calls of told hours: which cord each gets, told by what went before it. -/
structure Cl where
  a : Nat
  b : Nat
  t : Nat
  z : Nat
  deriving DecidableEq, Inhabited
inductive Rs where
  | cord (n : Nat) | busy | lost
  deriving DecidableEq, Inhabited
/-- j goes before i -/
def bef (cs : List Cl) (j i : Nat) : Prop := (cs.getD j default).t < (cs.getD i default).t ∨ ((cs.getD j default).t = (cs.getD i default).t ∧ j < i)
def over (cs : List Cl) (j : Nat) : Nat := (cs.getD j default).t + (cs.getD j default).z
def meets (c d : Cl) : Prop := c.a = d.a ∨ c.a = d.b ∨ c.b = d.a ∨ c.b = d.b
/-- j holds cord m when i begins -/
def Holds (cs : List Cl) (r : Nat → Rs) (i j m : Nat) : Prop := j < cs.length ∧ bef cs j i ∧ r j = .cord m ∧ (cs.getD i default).t < over cs j
def Clash (cs : List Cl) (r : Nat → Rs) (i : Nat) : Prop := ∃ j m, Holds cs r i j m ∧ meets (cs.getD j default) (cs.getD i default)
def Used (cs : List Cl) (r : Nat → Rs) (i m : Nat) : Prop := ∃ j, Holds cs r i j m
/-- what call i gets, of k cords -/
def Is (k : Nat) (cs : List Cl) (r : Nat → Rs) (i : Nat) (x : Rs) : Prop :=
  (Clash cs r i ∧ x = .busy) ∨ (¬ Clash cs r i ∧ ∃ m, m < k ∧ x = .cord m ∧ ¬ Used cs r i m ∧ ∀ m', m' < m → Used cs r i m') ∨ (¬ Clash cs r i ∧ x = .lost ∧ ∀ m, m < k → Used cs r i m)
def Good (k : Nat) (cs : List Cl) (r : Nat → Rs) : Prop := ∀ i, i < cs.length → Is k cs r i (r i)
theorem bef_trans {cs : List Cl} {i j l : Nat} (h1 : bef cs i j) (h2 : bef cs j l) : bef cs i l := by
  unfold bef at *
  omega
theorem bef_irrefl {cs : List Cl} {i : Nat} : ¬ bef cs i i := by
  unfold bef
  omega
theorem bef_total {cs : List Cl} {i j : Nat} (h : i ≠ j) : bef cs i j ∨ bef cs j i := by
  unfold bef
  omega
/-- what holds of a call if it holds of all before it, holds of all -/
theorem bef_ind {cs : List Cl} {P : Nat → Prop} (h : ∀ i, (∀ j, bef cs j i → P j) → P i) : ∀ i, P i := by
  have key : ∀ t i, (cs.getD i default).t = t → P i := by
    intro t
    induction t using Nat.strongRecOn with
    | _ t iht =>
      intro i
      induction i using Nat.strongRecOn with
      | _ i ihi =>
        intro e
        refine h i fun j hj => ?_
        rcases hj with hj | ⟨h1, h2⟩
        · exact iht _ (by omega) j rfl
        · exact ihi j h2 (by omega)
  exact fun i => key _ i rfl
/-- of two rows that are alike the same is told: p takes the calls of the one to those of the other -/
structure Alike (cs cs' : List Cl) (p : Nat → Nat) : Prop where
  lt : ∀ i, i < cs.length → p i < cs'.length
  onto : ∀ i', i' < cs'.length → ∃ i, i < cs.length ∧ p i = i'
  befo : ∀ i j, i < cs.length → j < cs.length → (bef cs j i ↔ bef cs' (p j) (p i))
  act : ∀ i j, i < cs.length → j < cs.length → bef cs j i → ((cs.getD i default).t < over cs j ↔ (cs'.getD (p i) default).t < over cs' (p j))
  meet : ∀ i j, i < cs.length → j < cs.length → (meets (cs.getD j default) (cs.getD i default) ↔ meets (cs'.getD (p j) default) (cs'.getD (p i) default))
theorem Is.unique {k : Nat} {cs : List Cl} {r : Nat → Rs} {i : Nat} {x y : Rs} (h1 : Is k cs r i x) (h2 : Is k cs r i y) : x = y := by
  rcases h1 with ⟨c, rfl⟩ | ⟨c, m, hm, rfl, hu, hl⟩ | ⟨c, rfl, hl⟩ <;> rcases h2 with ⟨c', rfl⟩ | ⟨c', m', hm', rfl, hu', hl'⟩ | ⟨c', rfl, hl'⟩
  · rfl
  · exact absurd c c'
  · exact absurd c c'
  · exact absurd c' c
  · rcases Nat.lt_trichotomy m m' with h | h | h
    · exact absurd (hl' m h) hu
    · rw [h]
    · exact absurd (hl m' h) hu'
  · exact absurd (hl' m hm) hu
  · exact absurd c' c
  · exact absurd (hl m' hm') hu'
  · rfl
theorem Alike.same {k : Nat} {cs cs' : List Cl} {p : Nat → Nat} {r r' : Nat → Rs} (A : Alike cs cs' p) (g : Good k cs r) (g' : Good k cs' r') : ∀ i, i < cs.length → r' (p i) = r i := by
  refine bef_ind (cs := cs) (P := fun i => i < cs.length → r' (p i) = r i) fun i ih hi => ?_
  have hh : ∀ j m, j < cs.length → (Holds cs r i j m ↔ Holds cs' r' (p i) (p j) m) := by
    intro j m hj
    unfold Holds
    constructor
    · rintro ⟨h1, h2, h3, h4⟩
      exact ⟨A.lt j hj, (A.befo i j hi hj).mp h2, by rw [ih j h2 hj]; exact h3, (A.act i j hi hj h2).mp h4⟩
    · rintro ⟨h1, h2, h3, h4⟩
      have hb := (A.befo i j hi hj).mpr h2
      exact ⟨hj, hb, by rw [← ih j hb hj]; exact h3, (A.act i j hi hj hb).mpr h4⟩
  have hu : ∀ m, Used cs r i m ↔ Used cs' r' (p i) m := by
    intro m
    constructor
    · rintro ⟨j, h⟩
      exact ⟨p j, (hh j m h.1).mp h⟩
    · rintro ⟨j', h⟩
      obtain ⟨j, hj, rfl⟩ := A.onto j' h.1
      exact ⟨j, (hh j m hj).mpr h⟩
  have hc : Clash cs r i ↔ Clash cs' r' (p i) := by
    constructor
    · rintro ⟨j, m, h, q⟩
      exact ⟨p j, m, (hh j m h.1).mp h, (A.meet i j hi h.1).mp q⟩
    · rintro ⟨j', m, h, q⟩
      obtain ⟨j, hj, rfl⟩ := A.onto j' h.1
      exact ⟨j, m, (hh j m hj).mpr h, (A.meet i j hi hj).mpr q⟩
  have z : Is k cs' r' (p i) (r i) := by
    have := g i hi
    unfold Is at this ⊢
    simp only [hc, hu] at this
    exact this
  exact (g' (p i) (A.lt i hi)).unique z
theorem Good.unique {k : Nat} {cs : List Cl} {r r' : Nat → Rs} (g : Good k cs r) (g' : Good k cs r') : ∀ i, i < cs.length → r' i = r i :=
  Alike.same (p := id) ⟨fun _ h => h, fun i h => ⟨i, h, rfl⟩, fun _ _ _ _ => Iff.rfl, fun _ _ _ _ _ => Iff.rfl, fun _ _ _ _ => Iff.rfl⟩ g g'
/-! ### more cords, fewer cords -/
/-- with no call lost, more cords change nothing -/
theorem Good.more {k k' : Nat} {cs : List Cl} {r : Nat → Rs} (g : Good k cs r) (hk : k ≤ k') (hl : ∀ i, i < cs.length → r i ≠ .lost) : Good k' cs r := fun i hi => by
  rcases g i hi with h | ⟨c, m, hm, h⟩ | ⟨c, h, _⟩
  · exact .inl h
  · exact .inr (.inl ⟨c, m, by omega, h⟩)
  · exact absurd h (hl i hi)
/-- with all cords given below k, k are enough -/
theorem Good.less {k k' : Nat} {cs : List Cl} {r : Nat → Rs} (g : Good k cs r) (hl : ∀ i, i < cs.length → r i ≠ .lost) (hm : ∀ i m, i < cs.length → r i = .cord m → m < k') : Good k' cs r := fun i hi => by
  rcases g i hi with h | ⟨c, m, hk, h⟩ | ⟨c, h, _⟩
  · exact .inl h
  · exact .inr (.inl ⟨c, m, hm i m hi h.1, h⟩)
  · exact absurd h (hl i hi)
/-- two that are there at one tick have two cords -/
theorem Good.apart {k : Nat} {cs : List Cl} {r : Nat → Rs} (g : Good k cs r) {i j m t : Nat} (hi : i < cs.length) (hj : j < cs.length) (h : i ≠ j) (ri : r i = .cord m) (rj : r j = .cord m) (t1 : (cs.getD i default).t ≤ t) (t2 : t < over cs i) (t3 : (cs.getD j default).t ≤ t) (t4 : t < over cs j) : False := by
  have half : ∀ i j, i < cs.length → j < cs.length → r i = .cord m → r j = .cord m → (cs.getD i default).t ≤ t → t < over cs j → bef cs j i → False := by
    intro i j hi hj ri rj t1 t4 hb
    rcases g i hi with ⟨_, h⟩ | ⟨c, m', hk, h, hu, _⟩ | ⟨c, h, _⟩
    · rw [ri] at h; cases h
    · rw [ri] at h
      cases h
      exact hu ⟨j, hj, hb, rj, by omega⟩
    · rw [ri] at h; cases h
  rcases bef_total (cs := cs) h with hb | hb
  · exact half j i hj hi rj ri t3 t2 hb
  · exact half i j hi hj ri rj t1 t4 hb
/-- a cord is given only while those below are held -/
theorem Good.below {k : Nat} {cs : List Cl} {r : Nat → Rs} (g : Good k cs r) {i m : Nat} (hi : i < cs.length) (ri : r i = .cord m) : ∀ m', m' < m → ∃ j, j < cs.length ∧ r j = .cord m' ∧ (cs.getD j default).t ≤ (cs.getD i default).t ∧ (cs.getD i default).t < over cs j := by
  intro m' hm
  rcases g i hi with ⟨_, h⟩ | ⟨c, m2, hk, h, hu, hl⟩ | ⟨c, h, _⟩
  · rw [ri] at h; cases h
  · rw [ri] at h
    cases h
    obtain ⟨j, h1, h2, h3, h4⟩ := hl m' hm
    refine ⟨j, h1, h3, ?_, h4⟩
    unfold bef at h2
    omega
  · rw [ri] at h; cases h
/-! ### counting -/
theorem nodup_le {α : Type} [DecidableEq α] : ∀ {l l' : List α}, l.Nodup → (∀ x ∈ l, x ∈ l') → l.length ≤ l'.length
  | [], _, _, _ => Nat.zero_le _
  | x :: l, l', h, s => by
    have hx := s x List.mem_cons_self
    have hn := List.nodup_cons.mp h
    have ih := nodup_le (l := l) (l' := l'.erase x) hn.2 fun y hy => by
      refine (List.mem_erase_of_ne ?_).mpr (s y (List.mem_cons_of_mem _ hy))
      rintro rfl
      exact hn.1 hy
    rw [List.length_erase_of_mem hx] at ih
    have : 0 < l'.length := List.length_pos_of_mem hx
    simp only [List.length_cons]
    omega
theorem nodup_lt {l : List Nat} {n : Nat} (h : l.Nodup) (s : ∀ x ∈ l, x < n) : l.length ≤ n := by
  have := nodup_le (l' := List.range n) h fun x hx => List.mem_range.mpr (s x hx)
  rwa [List.length_range] at this
theorem nodup_map {α β : Type} {f : α → β} : ∀ {l : List α}, l.Nodup → (∀ x ∈ l, ∀ y ∈ l, x ≠ y → f x ≠ f y) → (l.map f).Nodup
  | [], _, _ => List.nodup_nil
  | x :: l, h, q => by
    have hn := List.nodup_cons.mp h
    rw [List.map_cons]
    refine List.nodup_cons.mpr ⟨fun z => ?_, nodup_map hn.2 fun a ha b hb => q a (List.mem_cons_of_mem _ ha) b (List.mem_cons_of_mem _ hb)⟩
    obtain ⟨y, hy, e⟩ := List.mem_map.mp z
    refine q y (List.mem_cons_of_mem _ hy) x List.mem_cons_self ?_ e
    rintro rfl
    exact hn.1 hy
/-- with as many cords as lines none is lost -/
theorem Good.never {k : Nat} {cs : List Cl} {r : Nat → Rs} (g : Good k cs r) (hb : ∀ i, i < cs.length → (cs.getD i default).a < k) : ∀ i, i < cs.length → r i ≠ .lost := by
  intro i hi e
  rcases g i hi with ⟨_, h⟩ | ⟨c, m', hk, h, hu, _⟩ | ⟨c, _, h⟩
  · rw [e] at h; cases h
  · rw [e] at h; cases h
  · have hx : ∀ m, ∃ j, m < k → Holds cs r i j m := fun m => by
      by_cases hm : m < k
      · obtain ⟨j, q⟩ := h m hm
        exact ⟨j, fun _ => q⟩
      · exact ⟨0, fun z => absurd z hm⟩
    obtain ⟨f, hf⟩ := Classical.axiomOfChoice hx
    have key : ∀ m m', m < k → m' < k → m ≠ m' → bef cs (f m) (f m') → (cs.getD (f m) default).a ≠ (cs.getD (f m') default).a := by
      intro m m' hm hm' hne hbe ea
      obtain ⟨y1, y2, y3, y4⟩ := hf m hm
      obtain ⟨z1, z2, z3, z4⟩ := hf m' hm'
      rcases g (f m') z1 with ⟨_, q⟩ | ⟨c, _⟩ | ⟨c, _⟩
      · rw [z3] at q; cases q
      · refine c ⟨f m, m, ⟨y1, hbe, y3, ?_⟩, .inl ea⟩
        unfold bef at z2
        omega
      · refine c ⟨f m, m, ⟨y1, hbe, y3, ?_⟩, .inl ea⟩
        unfold bef at z2
        omega
    have nd : ((List.range k).map fun m => (cs.getD (f m) default).a).Nodup := by
      refine nodup_map List.nodup_range fun m hm m' hm' hne ea => ?_
      have hm := List.mem_range.mp hm
      have hm' := List.mem_range.mp hm'
      have hff : f m ≠ f m' := fun z => by
        have e1 := (hf m hm).2.2.1
        have e2 := (hf m' hm').2.2.1
        rw [z, e2] at e1
        cases e1
        exact hne rfl
      rcases bef_total (cs := cs) hff with hbe | hbe
      · exact key m m' hm hm' hne hbe ea
      · exact key m' m hm' hm (Ne.symm hne) hbe ea.symm
    have nd2 : ((cs.getD i default).a :: (List.range k).map fun m => (cs.getD (f m) default).a).Nodup := by
      refine List.nodup_cons.mpr ⟨fun z => ?_, nd⟩
      obtain ⟨m, hm, ea⟩ := List.mem_map.mp z
      exact c ⟨f m, m, hf m (List.mem_range.mp hm), .inl ea⟩
    have := nodup_lt nd2 fun x hx => by
      rcases List.mem_cons.mp hx with rfl | hx
      · exact hb i hi
      · obtain ⟨m, hm, rfl⟩ := List.mem_map.mp hx
        exact hb _ (hf m (List.mem_range.mp hm)).1
    simp only [List.length_cons, List.length_map, List.length_range] at this
    omega
/-- those that are there at a tick -/
def here (cs : List Cl) (r : Nat → Rs) (t : Nat) : List Nat := (List.range cs.length).filter fun j => decide (r j ≠ .busy) && decide ((cs.getD j default).t ≤ t) && decide (t < over cs j)
theorem mem_here {cs : List Cl} {r : Nat → Rs} {t j : Nat} : j ∈ here cs r t ↔ j < cs.length ∧ r j ≠ .busy ∧ (cs.getD j default).t ≤ t ∧ t < over cs j := by
  unfold here
  simp only [List.mem_filter, List.mem_range, Bool.and_eq_true, decide_eq_true_eq]
  constructor
  · rintro ⟨h1, ⟨h2, h3⟩, h4⟩
    exact ⟨h1, h2, h3, h4⟩
  · rintro ⟨h1, h2, h3, h4⟩
    exact ⟨h1, ⟨h2, h3⟩, h4⟩
def cordOf : Rs → Nat
  | .cord n => n
  | _ => 0
/-- no more are there at once than cords are given -/
theorem Good.most {k n : Nat} {cs : List Cl} {r : Nat → Rs} (g : Good k cs r) (hl : ∀ i, i < cs.length → r i ≠ .lost) (hn : ∀ i m, i < cs.length → r i = .cord m → m < n) (t : Nat) : (here cs r t).length ≤ n := by
  have cd : ∀ j, j ∈ here cs r t → ∃ m, r j = .cord m := fun j hj => by
    obtain ⟨h1, h2, _, _⟩ := mem_here.mp hj
    cases e : r j with
    | cord m => exact ⟨m, rfl⟩
    | busy => exact absurd e h2
    | lost => exact absurd e (hl j h1)
  have nd : ((here cs r t).map fun j => cordOf (r j)).Nodup := by
    refine nodup_map (List.nodup_range.filter _) fun x hx y hy hne e => ?_
    obtain ⟨m, e1⟩ := cd x hx
    obtain ⟨m', e2⟩ := cd y hy
    rw [e1, e2] at e
    have e : m = m' := e
    subst e
    obtain ⟨x1, _, x3, x4⟩ := mem_here.mp hx
    obtain ⟨y1, _, y3, y4⟩ := mem_here.mp hy
    exact g.apart x1 y1 hne e1 e2 x3 x4 y3 y4
  have := nodup_lt nd fun x hx => by
    obtain ⟨j, hj, rfl⟩ := List.mem_map.mp hx
    obtain ⟨m, e⟩ := cd j hj
    rw [e]
    exact hn j m (mem_here.mp hj).1 e
  rwa [List.length_map] at this
/-- where cord m is given, more than m are there -/
theorem Good.least {k : Nat} {cs : List Cl} {r : Nat → Rs} (g : Good k cs r) {i m : Nat} (hi : i < cs.length) (ri : r i = .cord m) (hz : 0 < (cs.getD i default).z) : m + 1 ≤ (here cs r (cs.getD i default).t).length := by
  have hx : ∀ m', ∃ j, m' < m + 1 → j < cs.length ∧ r j = .cord m' ∧ (cs.getD j default).t ≤ (cs.getD i default).t ∧ (cs.getD i default).t < over cs j := fun m' => by
    by_cases h : m' < m
    · obtain ⟨j, q⟩ := g.below hi ri m' h
      exact ⟨j, fun _ => q⟩
    · refine ⟨i, fun h2 => ?_⟩
      have : m' = m := by omega
      subst this
      refine ⟨hi, ri, Nat.le_refl _, ?_⟩
      unfold over
      omega
  obtain ⟨f, hf⟩ := Classical.axiomOfChoice hx
  have nd : ((List.range (m + 1)).map f).Nodup := by
    refine nodup_map List.nodup_range fun x hx y hy hne e => ?_
    have e1 := (hf x (List.mem_range.mp hx)).2.1
    have e2 := (hf y (List.mem_range.mp hy)).2.1
    rw [e, e2] at e1
    cases e1
    exact hne rfl
  have := nodup_le (l' := here cs r (cs.getD i default).t) nd fun x hx => by
    obtain ⟨m', hm, rfl⟩ := List.mem_map.mp hx
    obtain ⟨h1, h2, h3, h4⟩ := hf m' (List.mem_range.mp hm)
    exact mem_here.mpr ⟨h1, by rw [h2]; exact fun z => (by cases z), h3, h4⟩
  rw [List.length_map, List.length_range] at this
  exact this
end HR

namespace HR
/-! ### the loops -/
abbrev Row := Nat × Nat × Nat × Nat
def rOf (R : List (Option Rs)) (i : Nat) : Rs := (R.getD i none).getD .busy
theorem rOf_set {R : List (Option Rs)} {i j : Nat} {x : Rs} (hi : i < R.length) : rOf (R.set i (some x)) j = if j = i then x else rOf R j := by
  unfold rOf
  simp only [List.getD_eq_getElem?_getD]
  rw [List.getElem?_set]
  by_cases h : i = j
  · subst h
    simp [hi]
  · rw [if_neg h, if_neg (fun z => h z.symm)]
theorem Is.congr {k : Nat} {cs : List Cl} {r r' : Nat → Rs} {i : Nat} {x : Rs} (h : ∀ j, j < cs.length → bef cs j i → r j = r' j) (q : Is k cs r i x) : Is k cs r' i x := by
  have hh : ∀ j m, Holds cs r i j m ↔ Holds cs r' i j m := by
    intro j m
    unfold Holds
    constructor
    · rintro ⟨h1, h2, h3, h4⟩
      exact ⟨h1, h2, by rw [← h j h1 h2]; exact h3, h4⟩
    · rintro ⟨h1, h2, h3, h4⟩
      exact ⟨h1, h2, by rw [h j h1 h2]; exact h3, h4⟩
  unfold Is Clash Used at q ⊢
  simp only [hh] at q
  exact q
/-- the decision by rows -/
def decR (k : Nat) (rows : List (Nat × Nat × Nat)) (c : Cl) : Rs :=
  if (rows.any fun r => decide (r.2.1 = c.a) || decide (r.2.2 = c.a) || decide (r.2.1 = c.b) || decide (r.2.2 = c.b)) = true then .busy
  else match (List.range k).filter (fun m => !(rows.map (·.1)).contains m) with
    | [] => .lost
    | m :: _ => .cord m
theorem range_filter_head {k m : Nat} {p : Nat → Bool} {l : List Nat} (h : (List.range k).filter p = m :: l) : m < k ∧ p m = true ∧ ∀ m', m' < m → p m' = false := by
  have hm : m ∈ (List.range k).filter p := by rw [h]; exact List.mem_cons_self
  have hm' := List.mem_filter.mp hm
  refine ⟨List.mem_range.mp hm'.1, hm'.2, fun m' hlt => ?_⟩
  cases e : p m' with
  | false => rfl
  | true =>
    have hmem : m' ∈ (List.range k).filter p := List.mem_filter.mpr ⟨List.mem_range.mpr (by have := List.mem_range.mp hm'.1; omega), e⟩
    rw [h] at hmem
    have pw : ((List.range k).filter p).Pairwise (· < ·) := List.pairwise_lt_range.filter _
    rw [h] at pw
    rcases List.mem_cons.mp hmem with rfl | hmem
    · omega
    · have := (List.pairwise_cons.mp pw).1 m' hmem
      omega
/-- rows that tell just those that hold a cord -/
theorem decR_is {k : Nat} {cs : List Cl} {r : Nat → Rs} {i : Nat} {rows : List (Nat × Nat × Nat)}
    (h1 : ∀ x, x ∈ rows → ∃ j, Holds cs r i j x.1 ∧ x.2.1 = (cs.getD j default).a ∧ x.2.2 = (cs.getD j default).b)
    (h2 : ∀ j m, Holds cs r i j m → (m, (cs.getD j default).a, (cs.getD j default).b) ∈ rows) : Is k cs r i (decR k rows (cs.getD i default)) := by
  have hc : (rows.any fun r => decide (r.2.1 = (cs.getD i default).a) || decide (r.2.2 = (cs.getD i default).a) || decide (r.2.1 = (cs.getD i default).b) || decide (r.2.2 = (cs.getD i default).b)) = true ↔ Clash cs r i := by
    rw [List.any_eq_true]
    constructor
    · rintro ⟨x, hx, q⟩
      obtain ⟨j, hj, e1, e2⟩ := h1 x hx
      refine ⟨j, x.1, hj, ?_⟩
      simp only [Bool.or_eq_true, decide_eq_true_eq, e1, e2] at q
      unfold meets
      omega
    · rintro ⟨j, m, hj, q⟩
      refine ⟨_, h2 j m hj, ?_⟩
      simp only [Bool.or_eq_true, decide_eq_true_eq]
      unfold meets at q
      omega
  have hu : ∀ m, (!(rows.map (·.1)).contains m) = false ↔ Used cs r i m := by
    intro m
    rw [Bool.not_eq_false', List.contains_iff_mem, List.mem_map]
    constructor
    · rintro ⟨x, hx, rfl⟩
      obtain ⟨j, hj, _⟩ := h1 x hx
      exact ⟨j, hj⟩
    · rintro ⟨j, hj⟩
      exact ⟨_, h2 j m hj, rfl⟩
  unfold decR
  split
  · rename_i q
    exact .inl ⟨hc.mp q, rfl⟩
  · rename_i q
    have nc : ¬ Clash cs r i := fun z => q (hc.mpr z)
    split
    · rename_i e
      refine .inr (.inr ⟨nc, rfl, fun m hm => (hu m).mp ?_⟩)
      cases e2 : (!(rows.map (·.1)).contains m) with
      | false => rfl
      | true =>
        have : m ∈ (List.range k).filter (fun m => !(rows.map (·.1)).contains m) := List.mem_filter.mpr ⟨List.mem_range.mpr hm, e2⟩
        rw [e] at this
        cases this
    · rename_i m l e
      obtain ⟨e1, e2, e3⟩ := range_filter_head e
      refine .inr (.inl ⟨nc, m, e1, rfl, fun z => ?_, fun m' hm' => (hu m').mp (e3 m' hm')⟩)
      have := (hu m).mpr z
      rw [e2] at this
      cases this
/-- so far: those of l1 are told, those of l2 come -/
structure Sofar (k : Nat) (cs : List Cl) (l1 l2 : List Nat) (R : List (Option Rs)) : Prop where
  len : R.length = cs.length
  ord : (l1 ++ l2).Pairwise (bef cs)
  all : ∀ i, i < cs.length ↔ i ∈ l1 ++ l2
  is : ∀ i, i ∈ l1 → Is k cs (rOf R) i (rOf R i) ∧ ∃ x, R.getD i none = some x
  no : ∀ i, i ∈ l2 → R.getD i none = none
theorem Sofar.bef {k : Nat} {cs : List Cl} {l1 l2 : List Nat} {R : List (Option Rs)} {i j : Nat} (S : Sofar k cs l1 (i :: l2) R) (hj : j < cs.length) : HR.bef cs j i ↔ j ∈ l1 := by
  have hp := List.pairwise_append.mp S.ord
  constructor
  · intro h
    rcases List.mem_append.mp ((S.all j).mp hj) with q | q
    · exact q
    · rcases List.mem_cons.mp q with rfl | q
      · exact absurd h bef_irrefl
      · exact absurd (bef_trans h ((List.pairwise_cons.mp hp.2.1).1 j q)) bef_irrefl
  · intro h
    exact hp.2.2 j h i List.mem_cons_self
theorem Sofar.step {k : Nat} {cs : List Cl} {l1 l2 : List Nat} {R : List (Option Rs)} {i : Nat} {x : Rs} (S : Sofar k cs l1 (i :: l2) R) (hx : Is k cs (rOf R) i x) : Sofar k cs (l1 ++ [i]) l2 (R.set i (some x)) := by
  have hi : i < cs.length := (S.all i).mpr (List.mem_append_right _ List.mem_cons_self)
  have hiR : i < R.length := by rw [S.len]; exact hi
  have e : l1 ++ [i] ++ l2 = l1 ++ i :: l2 := by simp
  have hp := List.pairwise_append.mp S.ord
  have nb : ∀ j, j ∈ l1 → ∀ j', HR.bef cs j' j → j' ≠ i := fun j hj j' hb z => by
    subst z
    exact absurd (bef_trans hb (hp.2.2 j hj j' List.mem_cons_self)) bef_irrefl
  refine ⟨by rw [List.length_set]; exact S.len, by rw [e]; exact S.ord, fun j => by rw [e]; exact S.all j, fun j hj => ?_, fun j hj => ?_⟩
  · rcases List.mem_append.mp hj with hj1 | hj1
    · have hji : j ≠ i := fun z => bef_irrefl (cs := cs) (i := i) (hp.2.2 i (z ▸ hj1) i List.mem_cons_self)
      obtain ⟨q1, y, q2⟩ := S.is j hj1
      refine ⟨?_, y, ?_⟩
      · rw [rOf_set hiR, if_neg hji]
        refine q1.congr fun j' _ hb => ?_
        rw [rOf_set hiR, if_neg (nb j hj1 j' hb)]
      · simp only [List.getD_eq_getElem?_getD] at q2 ⊢
        rw [List.getElem?_set_ne (fun z => hji z.symm)]
        exact q2
    · have hj : j = i := by simpa using hj1
      subst hj
      refine ⟨?_, x, ?_⟩
      · rw [rOf_set hiR, if_pos rfl]
        refine hx.congr fun j' _ hb => ?_
        rw [rOf_set hiR, if_neg]
        rintro rfl
        exact absurd hb bef_irrefl
      · simp only [List.getD_eq_getElem?_getD]
        rw [List.getElem?_set_self hiR]
        rfl
  · have hji : j ≠ i := fun z => by
      subst z
      exact absurd ((List.pairwise_cons.mp hp.2.1).1 j hj) bef_irrefl
    have := S.no j (List.mem_cons_of_mem _ hj)
    simp only [List.getD_eq_getElem?_getD] at this ⊢
    rw [List.getElem?_set_ne (fun z => hji z.symm)]
    exact this
theorem Sofar.good {k : Nat} {cs : List Cl} {l1 : List Nat} {R : List (Option Rs)} (S : Sofar k cs l1 [] R) : Good k cs (rOf R) := fun i hi => (S.is i (by simpa using (S.all i).mp hi)).1
end HR

namespace HR
/-- the rows that led keeps -/
structure Held (cs : List Cl) (l1 l2 : List Nat) (R : List (Option Rs)) (held : List Row) : Prop where
  h1 : ∀ x, x ∈ held → ∃ j, j ∈ l1 ∧ rOf R j = .cord x.1 ∧ x.2 = ((cs.getD j default).a, (cs.getD j default).b, over cs j)
  h2 : ∀ j m i, j ∈ l1 → i ∈ l2 → rOf R j = .cord m → (cs.getD i default).t < over cs j → (m, (cs.getD j default).a, (cs.getD j default).b, over cs j) ∈ held
def cut (held : List Row) (t : Nat) : List Row := held.filter fun x => decide (t < x.2.2.2)
def rows3 (held : List Row) : List (Nat × Nat × Nat) := held.map fun x => (x.1, x.2.1, x.2.2.1)
def held' (x : Rs) (c : Cl) (held : List Row) : List Row := match x with
  | .cord m => held ++ [(m, c.a, c.b, c.t + c.z)]
  | _ => held
theorem bef_le {cs : List Cl} {i j : Nat} (h : bef cs i j) : (cs.getD i default).t ≤ (cs.getD j default).t := by
  unfold bef at h
  omega
theorem Held.is {k : Nat} {cs : List Cl} {l1 l2 : List Nat} {R : List (Option Rs)} {held : List Row} {i : Nat} (S : Sofar k cs l1 (i :: l2) R) (D : Held cs l1 (i :: l2) R held) : Is k cs (rOf R) i (decR k (rows3 (cut held (cs.getD i default).t)) (cs.getD i default)) := by
  refine decR_is (fun x hx => ?_) fun j m hj => ?_
  · obtain ⟨y, hy, rfl⟩ := List.mem_map.mp hx
    obtain ⟨hy, ht⟩ := List.mem_filter.mp hy
    obtain ⟨j, hj, e1, e2⟩ := D.h1 y hy
    have hjl : j < cs.length := (S.all j).mpr (List.mem_append_left _ hj)
    rw [decide_eq_true_eq, e2] at ht
    exact ⟨j, ⟨hjl, (S.bef hjl).mpr hj, e1, ht⟩, by rw [e2], by rw [e2]⟩
  · obtain ⟨h1, h2, h3, h4⟩ := hj
    have hm := D.h2 j m i ((S.bef h1).mp h2) List.mem_cons_self h3 h4
    exact List.mem_map.mpr ⟨_, List.mem_filter.mpr ⟨hm, by rw [decide_eq_true_eq]; exact h4⟩, rfl⟩
theorem Held.step {k : Nat} {cs : List Cl} {l1 l2 : List Nat} {R : List (Option Rs)} {held : List Row} {i : Nat} {x : Rs} (S : Sofar k cs l1 (i :: l2) R) (D : Held cs l1 (i :: l2) R held) :
    Held cs (l1 ++ [i]) l2 (R.set i (some x)) (held' x (cs.getD i default) (cut held (cs.getD i default).t)) := by
  have hi : i < cs.length := (S.all i).mpr (List.mem_append_right _ List.mem_cons_self)
  have hiR : i < R.length := by rw [S.len]; exact hi
  have hp := List.pairwise_append.mp S.ord
  have ne : ∀ j, j ∈ l1 → j ≠ i := fun j hj z => bef_irrefl (cs := cs) (i := i) (hp.2.2 i (z ▸ hj) i List.mem_cons_self)
  have sub : ∀ y, y ∈ cut held (cs.getD i default).t → y ∈ held' x (cs.getD i default) (cut held (cs.getD i default).t) := fun y hy => by
    unfold held'
    cases x with
    | cord m => exact List.mem_append_left _ hy
    | busy => exact hy
    | lost => exact hy
  refine ⟨fun y hy => ?_, fun j m i' hj hi' e ht => ?_⟩
  · have old : y ∈ cut held (cs.getD i default).t → ∃ j, j ∈ l1 ++ [i] ∧ rOf (R.set i (some x)) j = .cord y.1 ∧ y.2 = ((cs.getD j default).a, (cs.getD j default).b, over cs j) := fun hy => by
      obtain ⟨hy, _⟩ := List.mem_filter.mp hy
      obtain ⟨j, hj, e1, e2⟩ := D.h1 y hy
      exact ⟨j, List.mem_append_left _ hj, by rw [rOf_set hiR, if_neg (ne j hj)]; exact e1, e2⟩
    unfold held' at hy
    cases x with
    | busy => exact old hy
    | lost => exact old hy
    | cord m =>
      rcases List.mem_append.mp hy with hy | hy
      · exact old hy
      · have hy : y = (m, (cs.getD i default).a, (cs.getD i default).b, (cs.getD i default).t + (cs.getD i default).z) := by simpa using hy
        subst hy
        exact ⟨i, by simp, by rw [rOf_set hiR, if_pos rfl], rfl⟩
  · rw [rOf_set hiR] at e
    have ti : (cs.getD i default).t ≤ (cs.getD i' default).t := bef_le ((List.pairwise_cons.mp hp.2.1).1 i' hi')
    rcases List.mem_append.mp hj with hj | hj
    · rw [if_neg (ne j hj)] at e
      have hm := D.h2 j m i' hj (List.mem_cons_of_mem _ hi') e ht
      exact sub _ (List.mem_filter.mpr ⟨hm, by rw [decide_eq_true_eq]; show _ < over cs j; omega⟩)
    · have hj : j = i := by simpa using hj
      subst hj
      rw [if_pos rfl] at e
      subst e
      show _ ∈ _ ++ _
      exact List.mem_append_right _ (by simp [over])
/-- the rows that the law looks at -/
def nowR (cs : List Cl) (R : List (Option Rs)) (t : Nat) : List (Nat × Nat × Nat) := (List.range cs.length).filterMap fun j => match R.getD j none with
  | some (.cord m) => if (cs.getD j default).t ≤ t ∧ t < over cs j then some (m, (cs.getD j default).a, (cs.getD j default).b) else none
  | _ => none
theorem now_is {k : Nat} {cs : List Cl} {l1 l2 : List Nat} {R : List (Option Rs)} {i : Nat} (S : Sofar k cs l1 (i :: l2) R) : Is k cs (rOf R) i (decR k (nowR cs R (cs.getD i default).t) (cs.getD i default)) := by
  have cd : ∀ j m, R.getD j none = some (.cord m) → rOf R j = .cord m := fun j m e => by unfold rOf; rw [e]; rfl
  refine decR_is (fun x hx => ?_) fun j m hj => ?_
  · unfold nowR at hx
    obtain ⟨j, hj, e⟩ := List.mem_filterMap.mp hx
    have hj := List.mem_range.mp hj
    split at e
    · rename_i m q
      split at e
      · rename_i q2
        cases e
        refine ⟨j, ⟨hj, ?_, cd j m q, q2.2⟩, rfl, rfl⟩
        refine (S.bef hj).mpr ?_
        rcases List.mem_append.mp ((S.all j).mp hj) with z | z
        · exact z
        · have := S.no j z
          rw [q] at this
          cases this
      · cases e
    · cases e
  · obtain ⟨h1, h2, h3, h4⟩ := hj
    obtain ⟨_, y, e⟩ := S.is j ((S.bef h1).mp h2)
    have ey : y = .cord m := by
      unfold rOf at h3
      rw [e] at h3
      exact h3
    subst ey
    unfold nowR
    refine List.mem_filterMap.mpr ⟨j, List.mem_range.mpr h1, ?_⟩
    rw [e]
    simp only
    rw [if_pos ⟨bef_le h2, h4⟩]
end HR

namespace HR
open DL
/-! ### the two orders -/
def leT (cs : List Cl) (a b : Nat) : Bool := decide ((cs.getD a default).t ≤ (cs.getD b default).t)
theorem insB_bef {cs : List Cl} {a : Nat} : ∀ {l : List Nat}, l.Pairwise (bef cs) → (∀ b ∈ l, a < b) → (insB (leT cs) a l).Pairwise (bef cs)
  | [], _, _ => by simp [insB]
  | b :: l, h, q => by
    have hp := List.pairwise_cons.mp h
    unfold insB
    split
    · rename_i c
      unfold leT at c
      rw [decide_eq_true_eq] at c
      refine List.pairwise_cons.mpr ⟨fun x hx => ?_, h⟩
      have hab : bef cs a b := by
        have := q b List.mem_cons_self
        unfold bef
        omega
      rcases List.mem_cons.mp hx with rfl | hx
      · exact hab
      · exact bef_trans hab (hp.1 x hx)
    · rename_i c
      unfold leT at c
      rw [decide_eq_true_eq] at c
      refine List.pairwise_cons.mpr ⟨fun x hx => ?_, insB_bef hp.2 fun y hy => q y (List.mem_cons_of_mem _ hy)⟩
      have hx := (insB_perm a l).mem_iff.mp hx
      rcases List.mem_cons.mp hx with rfl | hx
      · unfold bef
        omega
      · exact hp.1 x hx
theorem isrt_bef {cs : List Cl} : ∀ {l : List Nat}, l.Pairwise (· < ·) → (isrt (leT cs) l).Pairwise (bef cs)
  | [], _ => by simp [isrt]
  | a :: l, h => by
    have hp := List.pairwise_cons.mp h
    unfold isrt
    exact insB_bef (isrt_bef hp.2) fun b hb => hp.1 b ((isrt_perm l).mem_iff.mp hb)
def ordL (cs : List Cl) : List Nat := isrt (leT cs) (List.range cs.length)
theorem start {k : Nat} {cs : List Cl} {l : List Nat} (h1 : l.Pairwise (bef cs)) (h2 : ∀ i, i < cs.length ↔ i ∈ l) : Sofar k cs [] l (List.replicate cs.length none) :=
  ⟨List.length_replicate, h1, h2, (by intro i h; cases h), (by intro i h; rw [List.getD_eq_getElem?_getD, List.getElem?_replicate]; split <;> rfl)⟩
theorem startL {k : Nat} {cs : List Cl} : Sofar k cs [] (ordL cs) (List.replicate cs.length none) :=
  start (isrt_bef List.pairwise_lt_range) fun i => ((isrt_perm _).mem_iff.trans List.mem_range).symm
theorem startH {cs : List Cl} {l : List Nat} : Held cs [] l (List.replicate cs.length none) [] := ⟨(by intro x h; cases h), (by intro j m i h; cases h)⟩
/-- those that begin at t -/
def atT (cs : List Cl) (t : Nat) (l : List Nat) : List Nat := l.filter fun i => decide ((cs.getD i default).t = t)
def ordW (cs : List Cl) (ts : List Nat) : List Nat := ts.flatMap fun t => atT cs t (List.range cs.length)
theorem ordW_bef {cs : List Cl} : ∀ {ts : List Nat}, ts.Pairwise (· < ·) → (ordW cs ts).Pairwise (bef cs)
  | [], _ => by simp [ordW]
  | t :: ts, h => by
    have hp := List.pairwise_cons.mp h
    show (atT cs t (List.range cs.length) ++ ordW cs ts).Pairwise (bef cs)
    refine List.pairwise_append.mpr ⟨?_, ordW_bef hp.2, fun a ha b hb => ?_⟩
    · have := (List.pairwise_lt_range (n := cs.length)).filter fun i => decide ((cs.getD i default).t = t)
      refine this.imp_of_mem fun {a b} ha hb hab => ?_
      have ha := (List.mem_filter.mp ha).2
      have hb := (List.mem_filter.mp hb).2
      rw [decide_eq_true_eq] at ha hb
      unfold bef
      omega
    · have ha := (List.mem_filter.mp ha).2
      rw [decide_eq_true_eq] at ha
      obtain ⟨t', ht', hb⟩ := List.mem_flatMap.mp hb
      have hb := (List.mem_filter.mp hb).2
      rw [decide_eq_true_eq] at hb
      have := hp.1 t' ht'
      unfold bef
      omega
theorem startW {k : Nat} {cs : List Cl} {ts : List Nat} (h : ts.Pairwise (· < ·)) (hm : ∀ i, i < cs.length → (cs.getD i default).t ∈ ts) : Sofar k cs [] (ordW cs ts) (List.replicate cs.length none) := by
  refine start (ordW_bef h) fun i => ⟨fun hi => ?_, fun hi => ?_⟩
  · exact List.mem_flatMap.mpr ⟨_, hm i hi, List.mem_filter.mpr ⟨List.mem_range.mpr hi, by simp⟩⟩
  · obtain ⟨t, _, hi⟩ := List.mem_flatMap.mp hi
    exact List.mem_range.mp (List.mem_filter.mp hi).1
end HR

namespace HR
/-! ### the printed led -/
def clD (c : Cl) : D := .tup [NI c.a, NI c.b, NI c.t, NI c.z]
def rowD (x : Row) : D := .tup [NI x.1, NI x.2.1, NI x.2.2.1, NI x.2.2.2]
def rsD (b : D) : Option Rs → D
  | none => b
  | some (.cord m) => NI m
  | some .busy => .wd 24
  | some .lost => .wd 25
theorem eqW_nat (x y : Nat) : eqW (NI x) (NI y) = decide (x = y) := by
  show (((x : Nat) : Int) == ((y : Nat) : Int)) = _
  by_cases h : x = y
  · simp [h]
  · simp [h]
    omega
theorem any_nat (x : Nat) : ∀ l : List Nat, ((l.map NI).any fun z => eqW z (NI x)) = l.contains x
  | [] => rfl
  | y :: l => by
    rw [List.map_cons, List.any_cons, any_nat x l, eqW_nat, List.contains_cons]
    congr 1
    by_cases h : y = x
    · simp [h]
    · simp [h, Ne.symm h]
theorem all_nat : ∀ l : List Nat, (l.map NI).all flatD = true
  | [] => rfl
  | y :: l => by rw [List.map_cons, List.all_cons, all_nat l]; rfl
theorem in_nat (neg : Bool) (x : Nat) (l : List Nat) (h : IH) : inD neg (NI x) (.vl (l.map NI)) h = .ok (.bl (if neg then !(l.contains x) else l.contains x)) h := by
  have e : getS h (.vl (l.map NI)) = some (l.map NI) := rfl
  unfold inD
  rw [e]
  dsimp only
  rw [all_nat, any_nat]
  rfl
theorem gt_nat (x y : Nat) (h : IH) : gtD (NI x) (NI y) h = .ok (.bl (decide (y < x))) h := by
  show (Out.ok (D.bl (decide (((y : Nat) : Int) < ((x : Nat) : Int)))) h : Out D) = _
  congr 2
  by_cases q : y < x
  · simp [q]
  · simp [q]
theorem ixRow (x : Row) (h : IH) : ixD (rowD x) (.int 0) h = .ok (NI x.1) h ∧ ixD (rowD x) (.int 1) h = .ok (NI x.2.1) h ∧ ixD (rowD x) (.int 2) h = .ok (NI x.2.2.1) h ∧ ixD (rowD x) (.int 3) h = .ok (NI x.2.2.2) h := ⟨rfl, rfl, rfl, rfl⟩
theorem rng_nat {t : MA} {en : En} {h : IH} {n : Nat} (e : t en h = .ok [NI n] h) (hn : n ≤ 5000) : rng1V t en h = .ok (fun _ => some (rangeL 0 n)) h := by
  unfold rng1V
  rw [e, Out.bind_ok]
  dsimp only
  have : grd (inB ((n : Nat) : Int)) (Out.ok (fun _ => some (rangeL 0 ((n : Nat) : Int).toNat)) h : Out View) = .ok (fun _ => some (rangeL 0 n)) h := by
    have hb : inB ((n : Nat) : Int) = true := by
      simp only [inB, Bool.and_eq_true, decide_eq_true_eq]
      omega
    rw [hb]
    rfl
  exact this
theorem rangeL_NI (n : Nat) : rangeL 0 n = (List.range n).map NI := by
  unfold rangeL
  refine List.map_congr_left fun i _ => ?_
  simp
end HR

namespace HR
theorem seq_asg {f : ME} {g : MG} {T : MS} {d : D} {en en' : En} {h h1 h2 : IH} (e : f en h = .ok d h1) (e2 : g d en h1 = .ok en' h2) : seqS (asgS f g) T en h = T en' h2 := by
  unfold seqS asgS
  rw [e, toS_ok, e2]
  rfl
theorem op2_run {F : D → D → IH → Out D} {a b : ME} {x y : D} {en : En} {h h1 h2 : IH} (e1 : a en h = .ok x h1) (e2 : b en h1 = .ok y h2) : op2 F a b en h = F x y h2 := by
  rw [op2_e, e1, Out.bind_ok, e2, Out.bind_ok]
/-- a comprehension over the rows held -/
theorem lc_rows {r : Bool} {en : En} {h : IH} {q j : Nat} {held : List Row} {t : MT} {e : ME} (P : Row → Bool) (fe : Row → D) (hv : en[j]? = some (some (.ref q))) (hq : lstAt h q = some (held.map rowD)) (h12 : 12 < en.length) (hj : j ≠ 12) (hz : held.length ≤ 1000)
    (ht : ∀ x, t ((wipeE en [12]).set 12 (some (rowD x))) h = .ok (P x) h) (he : ∀ x, e ((wipeE en [12]).set 12 (some (rowD x))) h = .ok (fe x) h) : lcE r (seqV (varE j)) (.one 12) t e [12] en h = outL r ((held.filter P).map fe) h := by
  refine lcE_map (h1 := h) (w := fun h => getL h (.ref q)) held rowD (fun x => (wipeE en [12]).set 12 (some (rowD x))) P fe ?_ hq (fun x _ => ?_) (fun x _ => ht x) (fun x _ _ => he x) (sizeL hz)
  · exact seqV_L (d := .ref q) (xs := held.map rowD) (by unfold varE; rw [hv]) hq
  · rfl
section
variable {cs : List Cl} {k p q i : Nat} {R : List (Option Rs)} {held : List Row} {c : Cl} {o3 o5 o6 o7 o8 o9 o10 o11 o12 o13 : Option D} {hh : IH}
theorem led_run {lines free : List Nat} {h1' : IH} {u1 u2 : D}
    (h1 : ixD (.vl (cs.map clD)) (NI i) hh = .ok (clD c) hh)
    (lc1 : lcE true (seqV (varE 4)) (.one 12) (tst (op2 gtD (op2 ixD (varE 12) (cE (.int 3))) (varE 8))) (varE 12) [12] [some (.vl (cs.map clD)), some (NI k), some (.ref p), o3, some (.ref q), some (NI i), some (NI c.a), some (NI c.b), some (NI c.t), some (NI c.z), o10, o11, o12, o13] hh = .ok (.ref hh.length) h1')
    (e1 : lcE false (seqV (varE 4)) (.one 12) yesT (op2 ixD (varE 12) (cE (.int 1))) [12] [some (.vl (cs.map clD)), some (NI k), some (.ref p), o3, some (.ref hh.length), some (NI i), some (NI c.a), some (NI c.b), some (NI c.t), some (NI c.z), o10, o11, o12, o13] h1' = .ok u1 h1')
    (e2 : lcE false (seqV (varE 4)) (.one 12) yesT (op2 ixD (varE 12) (cE (.int 2))) [12] [some (.vl (cs.map clD)), some (NI k), some (.ref p), o3, some (.ref hh.length), some (NI i), some (NI c.a), some (NI c.b), some (NI c.t), some (NI c.z), o10, o11, o12, o13] h1' = .ok u2 h1')
    (e3 : addD false u1 u2 h1' = .ok (.vl (lines.map NI)) h1')
    (e4 : lcE false (rng1V (consA (varE 1) nilA)) (.one 13) (tst (op2 (inD true) (varE 13) (lcE false (seqV (varE 4)) (.one 12) yesT (op2 ixD (varE 12) (cE (.int 0))) [12]))) (varE 13) [13] [some (.vl (cs.map clD)), some (NI k), some (.ref p), o3, some (.ref hh.length), some (NI i), some (NI c.a), some (NI c.b), some (NI c.t), some (NI c.z), some (.vl (lines.map NI)), o11, o12, o13] h1' = .ok (.vl (free.map NI)) h1')
    (T : MS) (hT : T = (ifS (orT (tst (op2 (inD false) (varE 6) (varE 10))) (tst (op2 (inD false) (varE 7) (varE 10)))) (setS (cE (.wd 24)) (varE 2) (varE 5)) (ifS (tst (op2 eqD (varE 11) (lstE false (nilA)))) (setS (cE (.wd 25)) (varE 2) (varE 5)) (seqS (setS (op2 ixD (varE 11) (cE (.int 0))) (varE 2) (varE 5)) (exprS (bmE appD (varE 4) (consA (tupE (consA (op2 ixD (varE 11) (cE (.int 0))) (consA (varE 6) (consA (varE 7) (consA (op2 (addD false) (varE 8) (varE 9)) (nilA)))))) (nilA)))))))) :
    b_led_0 [some (.vl (cs.map clD)), some (NI k), some (.ref p), o3, some (.ref q), some (NI i), o6, o7, o8, o9, o10, o11, o12, o13] hh = T [some (.vl (cs.map clD)), some (NI k), some (.ref p), o3, some (.ref hh.length), some (NI i), some (NI c.a), some (NI c.b), some (NI c.t), some (NI c.z), some (.vl (lines.map NI)), some (.vl (free.map NI)), o12, o13] h1' := by
  subst hT
  unfold b_led_0
  refine (seq_asg (d := clD c) (h1 := hh) ?_ rfl).trans ((seq_asg lc1 rfl).trans ((seq_asg (d := .vl (lines.map NI)) (h1 := h1') ?_ rfl).trans (seq_asg e4 rfl)))
  · exact h1
  · exact (op2_run e1 e2).trans e3
theorem led_step (hc : cs[i]? = some c) (hp : lstAt hh p = some (R.map (rsD .non))) (hq : lstAt hh q = some (held.map rowD)) (hi : i < R.length) (hz : held.length ≤ 100) (hk : k ≤ 20) :
    ∃ (y10 y11 : D) (hh' : IH), stepB (nameG 5) b_led_0 (NI i) [some (.vl (cs.map clD)), some (NI k), some (.ref p), o3, some (.ref q), o5, o6, o7, o8, o9, o10, o11, o12, o13] hh =
      .nx [some (.vl (cs.map clD)), some (NI k), some (.ref p), o3, some (.ref hh.length), some (NI i), some (NI c.a), some (NI c.b), some (NI c.t), some (NI c.z), some y10, some y11, o12, o13] hh' ∧
      lstAt hh' p = some ((R.set i (some (decR k (rows3 (cut held c.t)) c))).map (rsD .non)) ∧ lstAt hh' hh.length = some ((held' (decR k (rows3 (cut held c.t)) c) c (cut held c.t)).map rowD) ∧ ∀ n, n ≤ p → hh'.take n = hh.take n := by
  have h1 : ixD (.vl (cs.map clD)) (NI i) hh = .ok (clD c) hh := ixD_e rfl (by rw [List.getElem?_map, hc]; rfl)
  have lc1 := lc_rows (r := true) (en := [some (.vl (cs.map clD)), some (NI k), some (.ref p), o3, some (.ref q), some (NI i), some (NI c.a), some (NI c.b), some (NI c.t), some (NI c.z), o10, o11, o12, o13]) (h := hh) (q := q) (j := 4) (held := held) (t := tst (op2 gtD (op2 ixD (varE 12) (cE (.int 3))) (varE 8))) (e := varE 12)
    (fun x => decide (c.t < x.2.2.2)) rowD rfl hq (by simp) (by decide) (by omega) (fun x => by simp [wipeE, varE, (ixRow x hh).2.2.2, gt_nat]) (fun x => by simp [wipeE, varE])
  rw [outL_t] at lc1
  have hq1 : lstAt (hh ++ [.lst ((cut held c.t).map rowD)]) hh.length = some ((cut held c.t).map rowD) := lstAt_mid
  have hz1 : (cut held c.t).length ≤ 1000 := Nat.le_trans (List.length_filter_le _ _) (by omega)
  generalize eH : hh ++ [.lst ((cut held c.t).map rowD)] = h1' at hq1
  have rows (en : En) (i : Int) (f : Row → Nat) (hv : en[4]? = some (some (.ref hh.length))) (h12 : 12 < en.length) (hf : ∀ x, ixD (rowD x) (.int i) h1' = .ok (NI (f x)) h1') : lcE false (seqV (varE 4)) (.one 12) yesT (op2 ixD (varE 12) (cE (.int i))) [12] en h1' = .ok (.vl (((cut held c.t).map f).map NI)) h1' := by
    rw [lc_rows (r := false) (q := hh.length) (j := 4) (held := cut held c.t) (fun _ => true) (fun x => NI (f x)) hv hq1 h12 (by decide) hz1 (fun x => rfl) (fun x => ?_), outL_f, List.filter_eq_self.mpr fun _ _ => rfl, List.map_map]
    · rfl
    · have e : ((wipeE en [12]).set 12 (some (rowD x)))[12]? = some (some (rowD x)) := List.getElem?_set_self (by rw [wipeE_length]; exact h12)
      simp only [op2_e, varE, e, cE_e, Out.bind_ok]
      exact hf x
  have e1 := rows [some (.vl (cs.map clD)), some (NI k), some (.ref p), o3, some (.ref hh.length), some (NI i), some (NI c.a), some (NI c.b), some (NI c.t), some (NI c.z), o10, o11, o12, o13] 1 (fun x => x.2.1) rfl (by simp) (fun x => (ixRow x h1').2.1)
  have e2 := rows [some (.vl (cs.map clD)), some (NI k), some (.ref p), o3, some (.ref hh.length), some (NI i), some (NI c.a), some (NI c.b), some (NI c.t), some (NI c.z), o10, o11, o12, o13] 2 (fun x => x.2.2.1) rfl (by simp) (fun x => (ixRow x h1').2.2.1)
  have e3 : addD false (.vl (((cut held c.t).map fun x => x.2.1).map NI)) (.vl (((cut held c.t).map fun x => x.2.2.1).map NI)) h1' = .ok (.vl (((cut held c.t).map (fun x => x.2.1) ++ (cut held c.t).map fun x => x.2.2.1).map NI)) h1' := by
    rw [addL_e (a := ((cut held c.t).map fun x => x.2.1).map NI) (b := ((cut held c.t).map fun x => x.2.2.1).map NI) rfl rfl (by simp only [List.length_map]; rw [sizeLine_eq]; omega), outL_f, List.map_append]
  generalize eL : (cut held c.t).map (fun x => x.2.1) ++ (cut held c.t).map (fun x => x.2.2.1) = lines at e3
  have e4 : lcE false (rng1V (consA (varE 1) nilA)) (.one 13) (tst (op2 (inD true) (varE 13) (lcE false (seqV (varE 4)) (.one 12) yesT (op2 ixD (varE 12) (cE (.int 0))) [12]))) (varE 13) [13] [some (.vl (cs.map clD)), some (NI k), some (.ref p), o3, some (.ref hh.length), some (NI i), some (NI c.a), some (NI c.b), some (NI c.t), some (NI c.z), some (.vl (lines.map NI)), o11, o12, o13] h1' =
      .ok (.vl (((List.range k).filter fun m => !((rows3 (cut held c.t)).map (·.1)).contains m).map NI)) h1' := by
    have er : ((rows3 (cut held c.t)).map (·.1)) = (cut held c.t).map fun x => x.1 := by unfold rows3; rw [List.map_map]; rfl
    rw [er]
    rw [lcE_map (r := false) (h1 := h1') (w := fun _ => some (rangeL 0 k)) (List.range k) NI (fun m => [some (.vl (cs.map clD)), some (NI k), some (.ref p), o3, some (.ref hh.length), some (NI i), some (NI c.a), some (NI c.b), some (NI c.t), some (NI c.z), some (.vl (lines.map NI)), o11, o12, some (NI m)]) (fun m => !((cut held c.t).map fun x => x.1).contains m) NI
      (rng_nat rfl (by omega)) (by rw [rangeL_NI]) (fun m _ => rfl) (fun m _ => ?_) (fun m _ _ => rfl) (by rw [List.length_range]; exact sizeL (by omega)), outL_f]
    have z := rows [some (.vl (cs.map clD)), some (NI k), some (.ref p), o3, some (.ref hh.length), some (NI i), some (NI c.a), some (NI c.b), some (NI c.t), some (NI c.z), some (.vl (lines.map NI)), o11, o12, some (NI m)] 0 (fun x => x.1) rfl (by simp) (fun x => (ixRow x h1').1)
    simp only [tst, op2_e, varE, List.getElem?_cons_zero, List.getElem?_cons_succ, Out.bind_ok, z, in_nat]
    rfl
  have hcl : (lines.contains c.a || lines.contains c.b) = ((rows3 (cut held c.t)).any fun r => decide (r.2.1 = c.a) || decide (r.2.2 = c.a) || decide (r.2.1 = c.b) || decide (r.2.2 = c.b)) := by
    rw [Bool.eq_iff_iff, ← eL]
    unfold rows3
    simp only [Bool.or_eq_true, List.contains_iff_mem, List.mem_append, List.mem_map, List.any_eq_true, List.any_map, Function.comp, decide_eq_true_eq]
    constructor
    · rintro ((⟨x, hx, e⟩ | ⟨x, hx, e⟩) | (⟨x, hx, e⟩ | ⟨x, hx, e⟩))
      · exact ⟨x, hx, by simp [e]⟩
      · exact ⟨x, hx, by simp [e]⟩
      · exact ⟨x, hx, by simp [e]⟩
      · exact ⟨x, hx, by simp [e]⟩
    · rintro ⟨x, hx, ((e | e) | e) | e⟩
      · exact .inl (.inl ⟨x, hx, e⟩)
      · exact .inl (.inr ⟨x, hx, e⟩)
      · exact .inr (.inl ⟨x, hx, e⟩)
      · exact .inr (.inr ⟨x, hx, e⟩)
  have hfr : ((List.range k).filter fun m => !((rows3 (cut held c.t)).map (·.1)).contains m) = ((List.range k).filter fun m => !((rows3 (cut held c.t)).map (·.1)).contains m) := rfl
  have hdec : decR k (rows3 (cut held c.t)) c = if (lines.contains c.a || lines.contains c.b) = true then .busy else match ((List.range k).filter fun m => !((rows3 (cut held c.t)).map (·.1)).contains m) with
    | [] => .lost
    | m :: _ => .cord m := by rw [hcl]; rfl
  generalize ((List.range k).filter fun m => !((rows3 (cut held c.t)).map (·.1)).contains m) = free at e4 hdec
  have hpl : p < hh.length := getL_lt hp
  have hp1 : lstAt h1' p = some (R.map (rsD .non)) := by rw [← eH]; exact lstAt_app hp
  have ea := in_nat false c.a lines h1'
  have eb := in_nat false c.b lines h1'
  show ∃ (y10 y11 : D) (hh' : IH), b_led_0 [some (.vl (cs.map clD)), some (NI k), some (.ref p), o3, some (.ref q), some (NI i), o6, o7, o8, o9, o10, o11, o12, o13] hh = _ ∧ _
  obtain ⟨hl1, hl2⟩ : hh.length < h1'.length ∧ p < h1'.length := by rw [← eH]; simp; omega
  have run := led_run (o6 := o6) (o7 := o7) (o8 := o8) (o9 := o9) h1 (by rw [← eH]; exact lc1) e1 e2 e3 e4 _ rfl
  refine ⟨.vl (lines.map NI), .vl (free.map NI), ?_⟩
  show ∃ hh', b_led_0 [some (.vl (cs.map clD)), some (NI k), some (.ref p), o3, some (.ref q), some (NI i), o6, o7, o8, o9, o10, o11, o12, o13] hh = _ ∧ _
  rw [run]
  clear run lc1 e1 e2 e3 e4
  have hne : hh.length ≠ p := by omega
  have tk : ∀ n, n ≤ p → h1'.take n = hh.take n := fun n hn => by
    rw [← eH, List.take_append_of_le_length (by omega)]
  have st := fun (v : D) => setD_nat (h := h1') (i := i) (v := v) hp1 (by rw [List.length_map]; exact hi)
  simp only [Bool.false_eq_true, if_false] at ea eb
  clear hcl rows
  generalize lines.contains c.a = xa at ea hdec
  generalize lines.contains c.b = xb at eb hdec
  have busy : (xa || xb) = true → ∃ hh', (ifS (orT (tst (op2 (inD false) (varE 6) (varE 10))) (tst (op2 (inD false) (varE 7) (varE 10)))) (setS (cE (.wd 24)) (varE 2) (varE 5)) (ifS (tst (op2 eqD (varE 11) (lstE false (nilA)))) (setS (cE (.wd 25)) (varE 2) (varE 5)) (seqS (setS (op2 ixD (varE 11) (cE (.int 0))) (varE 2) (varE 5)) (exprS (bmE appD (varE 4) (consA (tupE (consA (op2 ixD (varE 11) (cE (.int 0))) (consA (varE 6) (consA (varE 7) (consA (op2 (addD false) (varE 8) (varE 9)) (nilA)))))) (nilA)))))))
      [some (.vl (cs.map clD)), some (NI k), some (.ref p), o3, some (.ref hh.length), some (NI i), some (NI c.a), some (NI c.b), some (NI c.t), some (NI c.z), some (.vl (lines.map NI)), some (.vl (free.map NI)), o12, o13] h1' = .nx [some (.vl (cs.map clD)), some (NI k), some (.ref p), o3, some (.ref hh.length), some (NI i), some (NI c.a), some (NI c.b), some (NI c.t), some (NI c.z), some (.vl (lines.map NI)), some (.vl (free.map NI)), o12, o13] hh' ∧ hh' = h1'.set p (.lst ((R.set i (some .busy)).map (rsD .non))) := by
    intro hB
    have z := st (.wd 24)
    rw [show (R.map (rsD .non)).set i (.wd 24) = (R.set i (some .busy)).map (rsD .non) from by rw [List.map_set]; rfl] at z
    refine ⟨_, ?_, rfl⟩
    cases xa with
    | true => simp [varE, ea, setS, z, asB]
    | false =>
      cases xb with
      | true => simp [varE, ea, eb, setS, z, asB]
      | false => cases hB
  by_cases hB : (xa || xb) = true
  · rw [if_pos hB] at hdec
    rw [hdec]
    obtain ⟨hh', q1, q2⟩ := busy hB
    refine ⟨hh', q1, by rw [q2]; exact lstAt_set hl2, ?_, fun n hn => ?_⟩
    · rw [q2, lstAt_set_ne hne]; exact hq1
    · rw [q2, List.take_set_of_le (by omega), tk n hn]
  · rw [if_neg hB] at hdec
    obtain ⟨rfl, rfl⟩ : xa = false ∧ xb = false := by simpa using hB
    clear busy
    have eqf : eqD (.vl (free.map NI)) (.vl []) h1' = .ok (.bl (eqWs (free.map NI) [])) h1' := by
      refine eqD_L rfl rfl ?_ rfl ?_ (by decide)
      · rw [show free.map NI = (free.map fun n => ((n : Nat) : Int)).map D.int from by rw [List.map_map]; rfl]
        exact pls_ints _
      · rw [show free.map NI = (free.map fun n => ((n : Nat) : Int)).map D.int from by rw [List.map_map]; rfl, deps_ints]
        omega
    have ln : ∀ (en : En), lstE false nilA en h1' = .ok (.vl []) h1' := fun _ => rfl
    cases free with
    | nil =>
      have hdec : decR k (rows3 (cut held c.t)) c = .lost := hdec
      have eqf : eqD (.vl ([].map NI)) (.vl []) h1' = .ok (.bl true) h1' := eqf
      rw [hdec]
      have z := st (.wd 25)
      rw [show (R.map (rsD .non)).set i (.wd 25) = (R.set i (some .lost)).map (rsD .non) from by rw [List.map_set]; rfl] at z
      refine ⟨h1'.set p (.lst ((R.set i (some .lost)).map (rsD .non))), ?_, lstAt_set hl2, ?_, fun n hn => ?_⟩
      · have eqf2 : eqD (.vl []) (.vl []) h1' = .ok (.bl true) h1' := eqf
        simp [varE, ea, eb, eqf2, setS, z, asB, ln]
      · rw [lstAt_set_ne hne]; exact hq1
      · rw [List.take_set_of_le (by omega), tk n hn]
    | cons m free =>
      have hdec : decR k (rows3 (cut held c.t)) c = .cord m := hdec
      have eqf : eqD (.vl ((m :: free).map NI)) (.vl []) h1' = .ok (.bl false) h1' := eqf
      rw [hdec]
      have z := st (NI m)
      rw [show (R.map (rsD .non)).set i (NI m) = (R.set i (some (.cord m))).map (rsD .non) from by rw [List.map_set]; rfl] at z
      have hq2 : lstAt (h1'.set p (.lst ((R.set i (some (.cord m))).map (rsD .non)))) hh.length = some ((cut held c.t).map rowD) := by rw [lstAt_set_ne hne]; exact hq1
      have z2 := appD_nat (v := .tup [NI m, NI c.a, NI c.b, NI (c.t + c.z)]) hq2 (by rw [List.length_map]; exact hz1)
      have x1 : ∀ H, ixD (.vl ((m :: free).map NI)) (.int 0) H = .ok (NI m) H := fun H => ixD_e (i := 0) (xs := (m :: free).map NI) rfl rfl
      have x2 : ∀ H, addD false (NI c.t) (NI c.z) H = .ok (NI (c.t + c.z)) H := fun H => by
        show Out.ok (D.int (((c.t : Nat) : Int) + ((c.z : Nat) : Int))) H = _
        congr 2
      have hp2 : lstAt (h1'.set p (.lst ((R.set i (some (.cord m))).map (rsD .non)))) p = some ((R.set i (some (.cord m))).map (rsD .non)) := lstAt_set hl2
      have tk2 : ∀ n, n ≤ p → (h1'.set p (.lst ((R.set i (some (.cord m))).map (rsD .non)))).take n = hh.take n := fun n hn => by rw [List.take_set_of_le (by omega), tk n hn]
      have hl3 : hh.length < (h1'.set p (.lst ((R.set i (some (.cord m))).map (rsD .non)))).length := by rw [List.length_set]; exact hl1
      generalize h1'.set p (.lst ((R.set i (some (.cord m))).map (rsD .non))) = h2 at z hq2 z2 hp2 tk2 hl3
      refine ⟨h2.set hh.length (.lst ((cut held c.t).map rowD ++ [.tup [NI m, NI c.a, NI c.b, NI (c.t + c.z)]])), ?_, ?_, ?_, fun n hn => ?_⟩
      · simp only [List.map_cons] at eqf x1
        simp [varE, ea, eb, eqf, setS, z, asB, ln, x1, x2, z2, bmE, hq2, tupE, show 4 ≤ sizeLine from by decide]
      · rw [lstAt_set_ne (Ne.symm hne)]; exact hp2
      · rw [lstAt_set hl3]
        show _ = some ((cut held c.t ++ [(m, c.a, c.b, c.t + c.z)]).map rowD)
        rw [List.map_append]
        rfl
      · rw [List.take_set_of_le (by omega), tk2 n hn]
end
end HR

namespace HR
/-! ### led as a fold -/
def stepP (k : Nat) (cs : List Cl) (s : List (Option Rs) × List Row) (i : Nat) : List (Option Rs) × List Row :=
  (s.1.set i (some (decR k (rows3 (cut s.2 (cs.getD i default).t)) (cs.getD i default))), held' (decR k (rows3 (cut s.2 (cs.getD i default).t)) (cs.getD i default)) (cs.getD i default) (cut s.2 (cs.getD i default).t))
def ledP (k : Nat) (cs : List Cl) (l : List Nat) : List (Option Rs) × List Row := l.foldl (stepP k cs) (List.replicate cs.length none, [])
def ledR (k : Nat) (cs : List Cl) : List Rs := (ledP k cs (ordL cs)).1.map (·.getD .busy)
def rFn (l : List Rs) (i : Nat) : Rs := l.getD i .busy
theorem ledP_sofar {k : Nat} {cs : List Cl} : ∀ (l2 l1 : List Nat), Sofar k cs [] (l1 ++ l2) (List.replicate cs.length none) → Sofar k cs l1 l2 (ledP k cs l1).1 ∧ Held cs l1 l2 (ledP k cs l1).1 (ledP k cs l1).2 → Sofar k cs (l1 ++ l2) [] (ledP k cs (l1 ++ l2)).1
  | [], l1, _, h => by rw [List.append_nil]; exact h.1
  | i :: l2, l1, h0, ⟨S, D⟩ => by
    have e : ledP k cs (l1 ++ [i]) = stepP k cs (ledP k cs l1) i := by unfold ledP; rw [List.foldl_append]; rfl
    have S2 := S.step (Held.is S D)
    have D2 := Held.step (x := decR k (rows3 (cut (ledP k cs l1).2 (cs.getD i default).t)) (cs.getD i default)) S D
    have z := ledP_sofar l2 (l1 ++ [i]) (by simpa using h0) (by rw [e]; exact ⟨S2, D2⟩)
    simpa using z
theorem ledP_good (k : Nat) (cs : List Cl) : Sofar k cs (ordL cs) [] (ledP k cs (ordL cs)).1 := by
  have := ledP_sofar (k := k) (cs := cs) (ordL cs) [] startL ⟨startL, startH⟩
  simpa using this
theorem rFn_of {R : List (Option Rs)} (i : Nat) : rFn (R.map (·.getD .busy)) i = rOf R i := by
  unfold rFn rOf
  simp only [List.getD_eq_getElem?_getD, List.getElem?_map]
  cases R[i]? <;> rfl
theorem ledR_len (k : Nat) (cs : List Cl) : (ledR k cs).length = cs.length := by
  unfold ledR
  rw [List.length_map]
  exact (ledP_good k cs).len
theorem ledR_good (k : Nat) (cs : List Cl) : Good k cs (rFn (ledR k cs)) := by
  have g := (ledP_good k cs).good
  have e : rFn (ledR k cs) = rOf (ledP k cs (ordL cs)).1 := funext fun i => rFn_of i
  rw [e]
  exact g
theorem sofar_full {k : Nat} {cs : List Cl} {l : List Nat} {R : List (Option Rs)} (S : Sofar k cs l [] R) : R = (R.map (·.getD .busy)).map some := by
  rw [List.map_map]
  refine List.ext_getElem? fun i => ?_
  rw [List.getElem?_map]
  cases e : R[i]? with
  | none => rfl
  | some x =>
    have hi : i < R.length := (List.getElem?_eq_some_iff.mp e).1
    obtain ⟨y, hy⟩ := (S.is i (by simpa using (S.all i).mp (by rw [← S.len]; exact hi))).2
    rw [List.getD_eq_getElem?_getD, e] at hy
    have hy : x = some y := hy
    subst hy
    rfl
/-- what is told is told by the law alone -/
theorem ledR_eq {k : Nat} {cs : List Cl} {l : List Nat} {R : List (Option Rs)} (S : Sofar k cs l [] R) : R.map (·.getD .busy) = ledR k cs := by
  refine List.ext_getElem? fun i => ?_
  by_cases hi : i < cs.length
  · have z := (ledR_good k cs).unique S.good i hi
    rw [← rFn_of] at z
    unfold rFn at z
    simp only [List.getD_eq_getElem?_getD] at z
    have h1 : i < (R.map (·.getD .busy)).length := by rw [List.length_map, S.len]; exact hi
    have h2 : i < (ledR k cs).length := by rw [ledR_len]; exact hi
    rw [List.getElem?_eq_getElem h1, List.getElem?_eq_getElem h2] at z ⊢
    exact congrArg some z
  · rw [List.getElem?_eq_none (by rw [List.length_map, S.len]; omega), List.getElem?_eq_none (by rw [ledR_len]; omega)]
theorem fold_len (k : Nat) (cs : List Cl) : ∀ (l : List Nat) (s : List (Option Rs) × List Row), (l.foldl (stepP k cs) s).1.length = s.1.length ∧ (l.foldl (stepP k cs) s).2.length ≤ s.2.length + l.length
  | [], s => ⟨rfl, Nat.le_refl _⟩
  | i :: l, s => by
    have ih := fold_len k cs l (stepP k cs s i)
    rw [List.foldl_cons]
    have h1 : (stepP k cs s i).1.length = s.1.length := by show (List.set _ _ _).length = _; rw [List.length_set]
    have h2 : (stepP k cs s i).2.length ≤ s.2.length + 1 := by
      have h1 : (cut s.2 (cs.getD i default).t).length ≤ s.2.length := List.length_filter_le _ _
      show (held' _ _ _).length ≤ _
      unfold held'
      split
      · rw [List.length_append, List.length_singleton]; omega
      · omega
    refine ⟨by rw [ih.1, h1], ?_⟩
    rw [List.length_cons]
    omega
theorem ledP_len (k : Nat) (cs : List Cl) (l : List Nat) : (ledP k cs l).1.length = cs.length ∧ (ledP k cs l).2.length ≤ l.length := by
  have := fold_len k cs l (List.replicate cs.length none, [])
  unfold ledP
  refine ⟨by rw [this.1]; exact List.length_replicate, ?_⟩
  have h2 := this.2
  simpa using h2
end HR

namespace HR
/-! ### led, whole -/
def rsW : Rs → D
  | .cord m => NI m
  | .busy => .wd 24
  | .lost => .wd 25
theorem rsD_some (b : D) (x : Rs) : rsD b (some x) = rsW x := by cases x <;> rfl
theorem isrt_map {α β : Type} {f : α → β} {le : β → β → Bool} {le' : α → α → Bool} (e : ∀ a b, le (f a) (f b) = le' a b) : ∀ l : List α, isrt le (l.map f) = (isrt le' l).map f := by
  have ins : ∀ (a : α) (l : List α), insB le (f a) (l.map f) = (insB le' a l).map f := by
    intro a l
    induction l with
    | nil => rfl
    | cons b l ih =>
      rw [List.map_cons]
      unfold insB
      rw [e, ih]
      split <;> rfl
  intro l
  induction l with
  | nil => rfl
  | cons a l ih =>
    rw [List.map_cons]
    unfold isrt
    rw [ih, ins]
theorem keyAt_cl (cs : List Cl) (n : Nat) : keyAt (cs.map clD) 2 ((n : Nat) : Int) = (cs[n]?).map fun c => ((c.t : Nat) : Int) := by
  unfold keyAt
  simp only [Int.toNat_natCast, List.getElem?_map]
  cases cs[n]? with
  | none => simp
  | some c => simp [clD]
theorem keyI_cl (cs : List Cl) (n : Nat) : keyI (cs.map clD) 2 ((n : Nat) : Int) = (((cs.getD n default).t : Nat) : Int) := by
  unfold keyI
  rw [keyAt_cl, List.getD_eq_getElem?_getD]
  cases cs[n]? <;> rfl
theorem asIs_NI (l : List Nat) : asIs (l.map NI) = some (l.map fun n => ((n : Nat) : Int)) := by
  have := asIs_map (l.map fun n => ((n : Nat) : Int))
  rw [List.map_map] at this
  exact this
theorem len_vl {xs : List D} {h : IH} : lenD [.vl xs] h = .ok (.int xs.length) h := lenD_e rfl
theorem lrg1_nat {f : ME} {en : En} {h h1 : IH} {n : Nat} (e : f en h = .ok (NI n) h1) (hn : n ≤ 5000) : lrg1E false f en h = .ok (.vl ((List.range n).map NI)) h1 := by
  unfold lrg1E
  rw [e, Out.bind_ok]
  dsimp only
  have : grd (inB ((n : Nat) : Int) && decide (((n : Nat) : Int) ≤ 16777216)) (outL false (rangeL 0 ((n : Nat) : Int).toNat) h1) = .ok (.vl ((List.range n).map NI)) h1 := by
    have hb : (inB ((n : Nat) : Int) && decide (((n : Nat) : Int) ≤ 16777216)) = true := by
      simp only [inB, Bool.and_eq_true, decide_eq_true_eq]
      omega
    rw [hb, grd_true, outL_f, Int.toNat_natCast, rangeL_NI]
  exact this
theorem or_bad {α : Type} (b : Out α) : Out.or .bad b = b := rfl
theorem mulD_rep {r : Bool} {xs : List D} {n : Nat} {h : IH} (hz : xs.length * n ≤ 16777216) (hn : n ≤ 5000) : mulD r (.vl xs) (NI n) h = outL r (List.replicate n xs).flatten h := by
  unfold mulD
  rw [show mulI (.vl xs) (NI n) h = .bad from rfl, or_bad]
  unfold repD
  have : grd (decide (-(2 ^ 63) ≤ ((n : Nat) : Int)) && decide (((n : Nat) : Int) < 2 ^ 63) && decide (xs.length * ((n : Nat) : Int).toNat ≤ sizeLine)) (outL r (List.replicate ((n : Nat) : Int).toNat xs).flatten h) = outL r (List.replicate n xs).flatten h := by
    have hb : (decide (-(2 ^ 63) ≤ ((n : Nat) : Int)) && decide (((n : Nat) : Int) < 2 ^ 63) && decide (xs.length * ((n : Nat) : Int).toNat ≤ sizeLine)) = true := by
      simp only [Bool.and_eq_true, decide_eq_true_eq, sizeLine_eq, Int.toNat_natCast]
      omega
    rw [hb, grd_true, Int.toNat_natCast]
  exact this
theorem lst_f {t : MA} {en : En} {h h1 : IH} {xs : List D} (e : t en h = .ok xs h1) (hz : xs.length ≤ 1000) : lstE false t en h = .ok (.vl xs) h1 := by
  unfold lstE
  rw [e, Out.bind_ok, decide_eq_true (Nat.le_of_lt (sizeL hz)), grd_true, outL_f]
theorem lst_t {t : MA} {en : En} {h h1 : IH} {xs : List D} (e : t en h = .ok xs h1) (hz : xs.length ≤ 1000) : lstE true t en h = .ok (.ref h1.length) (h1 ++ [.lst xs]) := by
  unfold lstE
  rw [e, Out.bind_ok, decide_eq_true (Nat.le_of_lt (sizeL hz)), grd_true, outL_t]
theorem sort_led {cs : List Cl} {en : En} {h : IH} (e0 : en[0]? = some (some (.vl (cs.map clD)))) (hn : cs.length ≤ 61) : sortKE false 0 2 (lrg1E false (callB lenD (consA (varE 0) nilA))) en h = .ok (.vl ((ordL cs).map NI)) h := by
  have e1 : lrg1E false (callB lenD (consA (varE 0) nilA)) en h = .ok (.vl ((List.range cs.length).map NI)) h := lrg1_nat (by
    simp only [callB_e, consA_e, varE, e0, nilA_e, Out.bind_ok, len_vl, List.length_map]) (by omega)
  unfold sortKE
  rw [e1, Out.bind_ok]
  unfold sortKD
  rw [e0]
  dsimp only [getL_vl]
  rw [asIs_NI]
  dsimp only
  have hg : (((List.range cs.length).map fun n => ((n : Nat) : Int)).all fun n => (keyAt (cs.map clD) 2 n).isSome) = true := by
    rw [List.all_eq_true]
    intro x hx
    obtain ⟨n, hn, rfl⟩ := List.mem_map.mp hx
    rw [keyAt_cl, List.getElem?_eq_getElem (List.mem_range.mp hn)]
    rfl
  rw [hg, grd_true, outL_f, isrt_map (le' := leT cs), List.map_map]
  · rfl
  · intro a b
    rw [keyI_cl, keyI_cl]
    unfold leT
    by_cases q : (cs.getD a default).t ≤ (cs.getD b default).t
    · simp [q]
    · simp [q]
theorem ordL_len (cs : List Cl) : (ordL cs).length = cs.length := by
  unfold ordL
  rw [(isrt_perm _).length_eq, List.length_range]
theorem led_loop {cs : List Cl} {k p q : Nat} {h0 : IH} (hk : k ≤ 20) (hn : cs.length ≤ 61) (hp : lstAt h0 p = some ((List.replicate cs.length none).map (rsD .non))) (hq : lstAt h0 q = some []) :
    ∃ en' h', forS (seqV (varE 3)) (nameG 5) b_led_0 [some (.vl (cs.map clD)), some (NI k), some (.ref p), some (.vl ((ordL cs).map NI)), some (.ref q), none, none, none, none, none, none, none, none, none] h0 = .nx en' h' ∧ en'[2]? = some (some (.ref p)) ∧ lstAt h' p = some ((ledR k cs).map rsW) ∧ h'.take p = h0.take p := by
  obtain ⟨en', h', e, q', o5, o6, o7, o8, o9, o10, o11, o12, o13, rfl, f1, f2, f3⟩ := forS_run (fi := seqV (varE 3)) (gf := nameG 5) (b := b_led_0) (en := [some (.vl (cs.map clD)), some (NI k), some (.ref p), some (.vl ((ordL cs).map NI)), some (.ref q), none, none, none, none, none, none, none, none, none]) (h := h0) (h1 := h0)
    (w := fun h => getL h (.vl ((ordL cs).map NI))) (xs := (ordL cs).map NI)
    (fun n en hh => ∃ q o5 o6 o7 o8 o9 o10 o11 o12 o13, en = [some (.vl (cs.map clD)), some (NI k), some (.ref p), some (.vl ((ordL cs).map NI)), some (.ref q), o5, o6, o7, o8, o9, o10, o11, o12, o13] ∧
      lstAt hh p = some ((ledP k cs ((ordL cs).take n)).1.map (rsD .non)) ∧ lstAt hh q = some ((ledP k cs ((ordL cs).take n)).2.map rowD) ∧ hh.take p = h0.take p)
    rfl rfl ⟨q, none, none, none, none, none, none, none, none, none, rfl, hp, hq, rfl⟩ (fun _ _ _ _ => rfl) (fun n d en hh hd ⟨q, o5, o6, o7, o8, o9, o10, o11, o12, o13, e, g1, g2, g3⟩ => by
      subst e
      rw [List.getElem?_map] at hd
      cases ho : (ordL cs)[n]? with
      | none => rw [ho] at hd; cases hd
      | some i =>
        rw [ho] at hd
        cases hd
        have hi : i < cs.length := List.mem_range.mp ((isrt_perm _).mem_iff.mp (List.mem_of_getElem? ho))
        have hl := ledP_len k cs ((ordL cs).take n)
        have hl2 : ((ordL cs).take n).length ≤ 61 := by rw [List.length_take, ordL_len]; omega
        obtain ⟨y10, y11, hh', e, s1, s2, s3⟩ := led_step (k := k) (o3 := some (.vl ((ordL cs).map NI))) (o5 := o5) (o6 := o6) (o7 := o7) (o8 := o8) (o9 := o9) (o10 := o10) (o11 := o11) (o12 := o12) (o13 := o13) (List.getElem?_eq_getElem hi) g1 g2 (by rw [hl.1]; exact hi) (by omega) hk
        have ed : cs[i] = cs.getD i default := by rw [List.getD_eq_getElem?_getD, List.getElem?_eq_getElem hi]; rfl
        have et : ledP k cs ((ordL cs).take (n + 1)) = stepP k cs (ledP k cs ((ordL cs).take n)) i := by
          rw [List.take_add_one, ho]
          unfold ledP
          rw [List.foldl_append]
          rfl
        rw [ed] at s1 s2
        refine ⟨_, hh', .inl e, _, _, _, _, _, _, _, _, _, _, rfl, ?_, ?_, (s3 p (Nat.le_refl _)).trans g3⟩
        · rw [et]; exact s1
        · rw [et]; exact s2)
  refine ⟨_, h', e, rfl, ?_, f3⟩
  rw [f1, List.length_map, List.take_of_length_le (Nat.le_refl _), sofar_full (ledP_good k cs), List.map_map]
  congr 1
  refine List.map_congr_left fun x _ => ?_
  exact rsD_some _ _
theorem clBs_all {n : Nat} : ∀ {xs : List D}, (∀ x ∈ xs, clB n x = true) → clBs n xs = true
  | [], _ => rfl
  | x :: xs, h => by
    show (clB n x && clBs n xs) = true
    rw [h x List.mem_cons_self, clBs_all fun y hy => h y (List.mem_cons_of_mem _ hy)]
    rfl
theorem rsW_cl (n : Nat) (x : Rs) : clB n (rsW x) = true := by cases x <;> rfl
theorem led_e1 {cs : List Cl} {k : Nat} (hn : cs.length ≤ 61) (h : IH) : op2 (mulD true) (lstE false (consA (cE .non) nilA)) (callB lenD (consA (varE 0) nilA)) [some (.vl (cs.map clD)), some (NI k), none, none, none, none, none, none, none, none, none, none, none, none] h = .ok (.ref h.length) (h ++ [.lst ((List.replicate cs.length none).map (rsD .non))]) := by
  have a : lstE false (consA (cE .non) nilA) [some (.vl (cs.map clD)), some (NI k), none, none, none, none, none, none, none, none, none, none, none, none] h = .ok (.vl [.non]) h := lst_f rfl (by decide)
  have b : callB lenD (consA (varE 0) nilA) [some (.vl (cs.map clD)), some (NI k), none, none, none, none, none, none, none, none, none, none, none, none] h = .ok (NI cs.length) h := by
    simp only [callB_e, consA_e, varE, List.getElem?_cons_zero, nilA_e, len_vl, List.length_map, Out.bind_ok]
  rw [op2_run a b, mulD_rep (by simp only [List.length_singleton]; omega) (by omega), outL_t, List.flatten_replicate_singleton, List.map_replicate]
  rfl
theorem led_run2 {cs : List Cl} {k : Nat} (hk : k ≤ 20) (hn : cs.length ≤ 61) (h : IH) : ∃ h', b_led [some (.vl (cs.map clD)), some (NI k), none, none, none, none, none, none, none, none, none, none, none, none] h = .rt (.ref h.length) h' ∧ lstAt h' h.length = some ((ledR k cs).map rsW) ∧ h'.take h.length = h := by
  have hp : lstAt (h ++ [O.lst ((List.replicate cs.length none).map (rsD .non))] ++ [.lst []]) h.length = some ((List.replicate cs.length none).map (rsD .non)) := lstAt_app lstAt_last
  have hq : lstAt (h ++ [O.lst ((List.replicate cs.length none).map (rsD .non))] ++ [.lst []]) (h ++ [O.lst ((List.replicate cs.length none).map (rsD .non))]).length = some [] := lstAt_last
  obtain ⟨en', h', r1, r2, r3, r4⟩ := led_loop hk hn hp hq
  refine ⟨h', ?_, r3, by rw [r4]; simp⟩
  unfold b_led
  rw [seq_asg (led_e1 hn h) rfl, seq_asg (sort_led rfl hn) rfl, seq_asg (lst_t (show nilA _ _ = .ok [] _ from rfl) (by decide)) rfl]
  show (forS _ _ _ _ _).seq _ = _
  refine Eq.trans (congrArg (fun o => SO.seq o _) r1) ?_
  show retS (varE 2) en' h' = _
  simp [varE, r2]
theorem led_ok {cs : List Cl} {k : Nat} (hk : k ≤ 20) (hn : cs.length ≤ 61) (h : IH) : F_led [.vl (cs.map clD), NI k] h = .ok (.vl ((ledR k cs).map rsW)) h := by
  obtain ⟨h', r1, r3, r4⟩ := led_run2 hk hn h
  refine fnC_rt (d := .ref h.length) (h' := h') r1 r4 ?_
  refine fz_new r3 (Nat.le_refl _) fun x hx => ?_
  obtain ⟨y, _, rfl⟩ := List.mem_map.mp hx
  exact rsW_cl _ y
end HR

namespace HR
/-! ### what is asked of calls -/
structure Ok1 (c : Cl) : Prop where
  a : c.a < 20
  b : c.b < 20
  ne : c.a ≠ c.b
  t : c.t ≤ 10000
  z1 : 1 ≤ c.z
  z2 : c.z ≤ 1000
structure Valid (cs : List Cl) : Prop where
  len : cs.length ≤ 60
  all : ∀ c ∈ cs, Ok1 c
theorem count_ok (z lo hi : Int) (h : IH) : F_is_count [.int z, .int lo, .int hi] h = .ok (.bl (decide (lo ≤ z) && decide (z ≤ hi))) h := by
  refine fnC_r0 ?_ rfl
  show b_is_count [some (.int z), some (.int lo), some (.int hi)] h = _
  have e1 : isiD .int (.int z) h = .ok (.bl true) h := rfl
  have e2 : isiD .bool (.int z) h = .ok (.bl false) h := rfl
  unfold b_is_count
  by_cases q : lo ≤ z <;> simp [varE, e1, e2, chE, q]
theorem count_t {z lo hi : Int} (h1 : lo ≤ z) (h2 : z ≤ hi) (h : IH) : F_is_count [.int z, .int lo, .int hi] h = .ok (.bl true) h := by
  rw [count_ok, decide_eq_true h1, decide_eq_true h2]
  rfl
@[simp] theorem callF_s {n : Nat} {F : List D → IH → Out D} {a : MA} {en : En} {h : IH} : callF n F a en h = (a en h).bind fun ds h1 => grd (decide (ds.length = n)) (F ds h1) := rfl
theorem ixCl (c : Cl) (h : IH) : ixD (clD c) (.int 0) h = .ok (NI c.a) h ∧ ixD (clD c) (.int 1) h = .ok (NI c.b) h ∧ ixD (clD c) (.int 2) h = .ok (NI c.t) h ∧ ixD (clD c) (.int 3) h = .ok (NI c.z) h := ⟨rfl, rfl, rfl, rfl⟩
theorem eq_int (x y : Int) (h : IH) : eqD (.int x) (.int y) h = .ok (.bl (x == y)) h := rfl
theorem ne_int (x y : Int) (h : IH) : neD (.int x) (.int y) h = .ok (.bl (!(x == y))) h := rfl
theorem is_call_ok {c : Cl} (v : Ok1 c) (h : IH) : F_is_call [clD c] h = .ok (.bl true) h := by
  have c1 := count_t (z := ((c.a : Nat) : Int)) (lo := 0) (hi := 19) (by omega) (by have := v.a; omega) h
  have c2 := count_t (z := ((c.b : Nat) : Int)) (lo := 0) (hi := 19) (by omega) (by have := v.b; omega) h
  have c3 := count_t (z := ((c.t : Nat) : Int)) (lo := 0) (hi := 10000) (by omega) (by have := v.t; omega) h
  have c4 := count_t (z := ((c.z : Nat) : Int)) (lo := 1) (hi := 1000) (by have := v.z1; omega) (by have := v.z2; omega) h
  have e1 : isiD .tuple (clD c) h = .ok (.bl true) h := rfl
  have e2 : lenD [clD c] h = .ok (.int 4) h := rfl
  have e3 : (((c.a : Nat) : Int) == ((c.b : Nat) : Int)) = false := by
    have := v.ne
    rw [beq_eq_false_iff_ne]
    omega
  obtain ⟨i0, i1, i2, i3⟩ := ixCl c h
  refine fnC_r0 ?_ rfl
  show b_is_call [some (clD c)] h = _
  unfold b_is_call
  generalize clD c = d at *
  simp [varE, e1, e2, i0, i1, i2, i3, c1, c2, c3, c4, ne_int, eq_int, e3]
theorem allD_true {n : Nat} {α : Type} {l : List α} {h : IH} : allD (.vl (l.map fun _ => .bl true)) h = .ok (.bl true) h := by
  have e : (l.map fun _ => D.bl true) = (l.map fun _ => true).map D.bl := by rw [List.map_map]; rfl
  rw [allD_e (bs := l.map fun _ => true) (by rw [getL_vl, e])]
  congr 2
  simp
theorem need_lc {cs : List Cl} (v : Valid cs) (h : IH) : lcE false (seqV (varE 0)) (.one 1) yesT (callF 1 F_is_call (consA (varE 1) nilA)) [1] [some (.vl (cs.map clD)), none] h = .ok (.vl (cs.map fun _ => .bl true)) h := by
  rw [lc_ev1 cs clD (fun _ => .bl true) (w := fun h => getL h (.vl (cs.map clD))) (h1 := h) rfl rfl (sizeL (by have := v.len; omega)) fun c hc => ⟨_, rfl, ?_⟩, outL_f]
  simp [varE, wipeE, is_call_ok (v.all c hc)]
theorem need_b {cs : List Cl} (v : Valid cs) (h : IH) : b_need_calls [some (.vl (cs.map clD)), none] h = .nx [some (.vl (cs.map clD)), none] h := by
  have e1 : isiD .list (.vl (cs.map clD)) h = .ok (.bl true) h := rfl
  have e2 : ¬ ((60 : Int) < ((cs.length : Nat) : Int)) := by have := v.len; omega
  have e3 := need_lc v h
  have e4 : lenD [.vl (cs.map clD)] h = .ok (.int ((cs.length : Nat) : Int)) h := by rw [len_vl, List.length_map]
  unfold b_need_calls
  generalize D.vl (cs.map clD) = d at *
  simp [varE, e1, e4, e2, e3, allD_true (n := 0)]
theorem need_ok {cs : List Cl} (v : Valid cs) (h : IH) : F_need_calls [.vl (cs.map clD)] h = .ok .non h := DL.fnC_nx (need_b v h) List.take_length
theorem clB_vl {n : Nat} {xs : List D} : clB n (.vl xs) = clBs n xs := by unfold clB; rfl
theorem clB_rs (n : Nat) (l : List Rs) : clB n (.vl (l.map rsW)) = true := by
  rw [clB_vl]
  refine clBs_all fun x hx => ?_
  obtain ⟨y, _, rfl⟩ := List.mem_map.mp hx
  exact rsW_cl _ y
theorem carried_g {d d2 d3 : D} {h : IH} (e1 : F_need_calls [d] h = .ok .non h) (e2 : F_is_count [d2, .int 0, .int 8] h = .ok (.bl true) h) (e3 : F_led [d, d2] h = .ok d3 h) : b_carried [some d, some d2] h = .rt d3 h := by
  unfold b_carried
  simp [varE, e1, e2, e3]
theorem count_k {k : Nat} (hk : k ≤ 8) (h : IH) : F_is_count [NI k, .int 0, .int 8] h = .ok (.bl true) h := count_t (z := ((k : Nat) : Int)) (lo := 0) (hi := 8) (by omega) (by omega) h
theorem carried_b {cs : List Cl} (v : Valid cs) {k : Nat} (hk : k ≤ 8) (h : IH) : b_carried [some (.vl (cs.map clD)), some (NI k)] h = .rt (.vl ((ledR k cs).map rsW)) h :=
  carried_g (need_ok v h) (count_k hk h) (led_ok (by omega) (by have := v.len; omega) h)
theorem carried_ok {cs : List Cl} (v : Valid cs) {k : Nat} (hk : k ≤ 8) (h : IH) : F_carried [.vl (cs.map clD), NI k] h = .ok (.vl ((ledR k cs).map rsW)) h :=
  fnC_r0 (carried_b v hk h) (clB_rs _ _)
def cords (l : List Rs) : List Nat := l.filterMap fun x => match x with
  | .cord m => some m
  | _ => none
def need (cs : List Cl) : Nat := (maxI 0 ((cords (ledR 20 cs)).map fun m => ((m + 1 : Nat) : Int))).toNat
end HR

namespace HR
/-! ### pure: how many cords, how many at once -/
theorem rFn_mem {l : List Rs} {x : Rs} (h : x ∈ l) : ∃ i, i < l.length ∧ rFn l i = x := by
  obtain ⟨i, hi, e⟩ := List.getElem_of_mem h
  exact ⟨i, hi, by unfold rFn; rw [List.getD_eq_getElem?_getD, List.getElem?_eq_getElem hi]; exact e⟩
theorem mem_rFn {l : List Rs} {i : Nat} (h : i < l.length) : rFn l i ∈ l := by
  unfold rFn
  rw [List.getD_eq_getElem?_getD, List.getElem?_eq_getElem h]
  exact List.getElem_mem h
theorem rFn_ext {l l' : List Rs} (e : l.length = l'.length) (h : ∀ i, i < l.length → rFn l i = rFn l' i) : l = l' := by
  refine List.ext_getElem e fun i h1 h2 => ?_
  have := h i h1
  unfold rFn at this
  simp only [List.getD_eq_getElem?_getD, List.getElem?_eq_getElem h1, List.getElem?_eq_getElem h2, Option.getD_some] at this
  exact this
theorem ledR_of_good {k : Nat} {cs : List Cl} {l : List Rs} (e : l.length = cs.length) (g : Good k cs (rFn l)) : l = ledR k cs := by
  refine rFn_ext (by rw [e, ledR_len]) fun i hi => ?_
  exact (ledR_good k cs).unique g i (by omega)
theorem no_lost {cs : List Cl} (v : Valid cs) : ∀ x ∈ ledR 20 cs, x ≠ .lost := by
  intro x hx
  obtain ⟨i, hi, rfl⟩ := rFn_mem hx
  refine (ledR_good 20 cs).never (fun j hj => ?_) i (by rw [← ledR_len 20 cs]; exact hi)
  have : cs.getD j default = cs[j] := by rw [List.getD_eq_getElem?_getD, List.getElem?_eq_getElem hj]; rfl
  rw [this]
  exact (v.all _ (List.getElem_mem hj)).a
theorem mem_cords {l : List Rs} {m : Nat} : m ∈ cords l ↔ Rs.cord m ∈ l := by
  unfold cords
  rw [List.mem_filterMap]
  constructor
  · rintro ⟨x, hx, e⟩
    cases x with
    | cord n => cases e; exact hx
    | busy => cases e
    | lost => cases e
  · exact fun h => ⟨_, h, rfl⟩
theorem need_ge {cs : List Cl} {m : Nat} (h : Rs.cord m ∈ ledR 20 cs) : m < need cs := by
  have := (maxI_ge ((cords (ledR 20 cs)).map fun m => ((m + 1 : Nat) : Int)) 0).2 ((m + 1 : Nat) : Int) (List.mem_map.mpr ⟨m, mem_cords.mpr h, rfl⟩)
  unfold need
  omega
theorem need_mem (cs : List Cl) : need cs = 0 ∨ ∃ m, need cs = m + 1 ∧ Rs.cord m ∈ ledR 20 cs := by
  have := maxI_mem ((cords (ledR 20 cs)).map fun m => ((m + 1 : Nat) : Int)) 0
  rcases List.mem_cons.mp this with e | e
  · left
    unfold need
    rw [e]
    rfl
  · right
    obtain ⟨m, hm, e⟩ := List.mem_map.mp e
    refine ⟨m, ?_, mem_cords.mp hm⟩
    unfold need
    rw [← e]
    omega
theorem need_val (cs : List Cl) : maxI 0 ((cords (ledR 20 cs)).map fun m => ((m + 1 : Nat) : Int)) = ((need cs : Nat) : Int) := by
  have := (maxI_ge ((cords (ledR 20 cs)).map fun m => ((m + 1 : Nat) : Int)) 0).1
  unfold need
  omega
theorem need_le {cs : List Cl} : need cs ≤ 20 := by
  rcases need_mem cs with e | ⟨m, e, hm⟩
  · omega
  · obtain ⟨i, hi, q⟩ := rFn_mem hm
    rcases ledR_good 20 cs i (by rw [← ledR_len 20 cs]; exact hi) with ⟨_, h⟩ | ⟨_, m', h1, h2, _⟩ | ⟨_, h, _⟩
    · rw [q] at h; cases h
    · rw [q] at h2; cases h2; omega
    · rw [q] at h; cases h
theorem ledR_same {cs : List Cl} (v : Valid cs) {k : Nat} (hk : need cs ≤ k) : ledR k cs = ledR 20 cs := by
  refine (ledR_of_good (ledR_len 20 cs) ?_).symm
  refine (ledR_good 20 cs).less (fun i hi => no_lost v _ (mem_rFn (by rw [ledR_len]; exact hi))) fun i m hi e => ?_
  have := need_ge (cs := cs) (m := m) (by rw [← e]; exact mem_rFn (by rw [ledR_len]; exact hi))
  omega
theorem lost_mem {cs : List Cl} {k : Nat} (hk : k < need cs) : Rs.lost ∈ ledR k cs := by
  by_cases h : Rs.lost ∈ ledR k cs
  · exact h
  · exfalso
    have g : Good 20 cs (rFn (ledR k cs)) := (ledR_good k cs).more (by have := need_le (cs := cs); omega) fun i hi e => h (by rw [← e]; exact mem_rFn (by rw [ledR_len]; exact hi))
    have e := ledR_of_good (ledR_len k cs) g
    rcases need_mem cs with q | ⟨m, q, hm⟩
    · omega
    · rw [← e] at hm
      obtain ⟨i, hi, q2⟩ := rFn_mem hm
      rcases ledR_good k cs i (by rw [← ledR_len k cs]; exact hi) with ⟨_, h⟩ | ⟨_, m', h1, h2, _⟩ | ⟨_, h, _⟩
      · rw [q2] at h; cases h
      · rw [q2] at h2; cases h2; omega
      · rw [q2] at h; cases h
theorem all_given {cs : List Cl} {m : Nat} (h : m < need cs) : Rs.cord m ∈ ledR 20 cs := by
  rcases need_mem cs with q | ⟨m', q, hm⟩
  · omega
  · by_cases e : m = m'
    · rw [e]; exact hm
    · obtain ⟨i, hi, q2⟩ := rFn_mem hm
      obtain ⟨j, hj, q3, _⟩ := (ledR_good 20 cs).below (by rw [← ledR_len 20 cs]; exact hi) q2 m (by omega)
      rw [← q3]
      exact mem_rFn (by rw [ledR_len]; exact hj)
/-- those that are not busy -/
def rowsP (cs : List Cl) (l : List Rs) : List Cl := ((cs.zip l).filter fun p => decide (p.2 ≠ .busy)).map (·.1)
def inT (t : Nat) (c : Cl) : Bool := decide (c.t ≤ t) && decide (t < c.t + c.z)
def cnt (rows : List Cl) (t : Nat) : Nat := (rows.filter (inT t)).length
theorem zip_range {cs : List Cl} {l : List Rs} (e : l.length = cs.length) : cs.zip l = (List.range cs.length).map fun j => (cs.getD j default, rFn l j) := by
  refine List.ext_getElem (by simp [e]) fun i h1 h2 => ?_
  have hi : i < cs.length := by simpa using h2
  have hi2 : i < l.length := by omega
  simp [rFn, List.getD_eq_getElem?_getD, hi, hi2]
theorem cnt_here {cs : List Cl} {l : List Rs} (e : l.length = cs.length) (t : Nat) : cnt (rowsP cs l) t = (here cs (rFn l) t).length := by
  unfold cnt rowsP here
  rw [zip_range e, List.filter_map, List.length_map, List.filter_filter, List.filter_map, List.length_map]
  congr 1
  refine List.filter_congr fun j _ => ?_
  unfold inT over
  simp only [Function.comp]
  generalize decide (rFn l j ≠ .busy) = x
  generalize decide ((cs.getD j default).t ≤ t) = y
  generalize decide (t < (cs.getD j default).t + (cs.getD j default).z) = z
  cases x <;> cases y <;> cases z <;> rfl
theorem mem_rowsP {cs : List Cl} {l : List Rs} (e : l.length = cs.length) {c : Cl} : c ∈ rowsP cs l ↔ ∃ i, i < cs.length ∧ cs.getD i default = c ∧ rFn l i ≠ .busy := by
  unfold rowsP
  rw [zip_range e]
  simp only [List.mem_map, List.mem_filter, List.mem_range, decide_eq_true_eq]
  constructor
  · rintro ⟨p, ⟨⟨i, hi, rfl⟩, h⟩, rfl⟩
    exact ⟨i, hi, rfl, h⟩
  · rintro ⟨i, hi, rfl, h⟩
    exact ⟨_, ⟨⟨i, hi, rfl⟩, h⟩, rfl⟩
theorem cnt_le {cs : List Cl} (v : Valid cs) (t : Nat) : cnt (rowsP cs (ledR 20 cs)) t ≤ need cs := by
  rw [cnt_here (ledR_len 20 cs)]
  refine (ledR_good 20 cs).most (fun i hi => no_lost v _ (mem_rFn (by rw [ledR_len]; exact hi))) (fun i m hi e => ?_) t
  exact need_ge (by rw [← e]; exact mem_rFn (by rw [ledR_len]; exact hi))
theorem cnt_top {cs : List Cl} (v : Valid cs) (h : 0 < need cs) : ∃ c ∈ rowsP cs (ledR 20 cs), cnt (rowsP cs (ledR 20 cs)) c.t = need cs := by
  rcases need_mem cs with q | ⟨m, q, hm⟩
  · omega
  · obtain ⟨i, hi, e⟩ := rFn_mem hm
    have hi : i < cs.length := by rw [← ledR_len 20 cs]; exact hi
    refine ⟨cs.getD i default, (mem_rowsP (ledR_len 20 cs)).mpr ⟨i, hi, rfl, by rw [e]; exact fun z => by cases z⟩, ?_⟩
    have h1 := cnt_le v (cs.getD i default).t
    have hz : 0 < (cs.getD i default).z := by
      have : cs.getD i default = cs[i] := by rw [List.getD_eq_getElem?_getD, List.getElem?_eq_getElem hi]; rfl
      rw [this]
      exact (v.all _ (List.getElem_mem hi)).z1
    have h2 := (ledR_good 20 cs).least hi e hz
    rw [← cnt_here (ledR_len 20 cs)] at h2
    omega
/-- a first call is not busy -/
theorem rowsP_ne {k : Nat} {cs : List Cl} (h : cs ≠ []) : rowsP cs (ledR k cs) ≠ [] := by
  have hl : 0 < (ordL cs).length := by rw [ordL_len]; exact List.length_pos_iff.mpr h
  obtain ⟨i, l2, e⟩ : ∃ i l2, ordL cs = i :: l2 := by
    cases q : ordL cs with
    | nil => rw [q] at hl; cases hl
    | cons i l2 => exact ⟨i, l2, rfl⟩
  have S : Sofar k cs [] (i :: l2) (List.replicate cs.length none) := by rw [← e]; exact startL
  have hi : i < cs.length := (S.all i).mpr (by simp)
  have nb : rFn (ledR k cs) i ≠ .busy := by
    rcases ledR_good k cs i hi with ⟨⟨j, m, ⟨h1, h2, _⟩, _⟩, _⟩ | ⟨_, m, _, q, _⟩ | ⟨_, q, _⟩
    · exact absurd ((S.bef h1).mp h2) (by simp)
    · rw [q]; exact fun z => by cases z
    · rw [q]; exact fun z => by cases z
  intro z
  have := (mem_rowsP (ledR_len k cs)).mpr ⟨i, hi, rfl, nb⟩
  rw [z] at this
  cases this
theorem need_pos {cs : List Cl} (v : Valid cs) (h : cs ≠ []) : 0 < need cs := by
  have := rowsP_ne (k := 20) h
  obtain ⟨c, hc⟩ : ∃ c, c ∈ rowsP cs (ledR 20 cs) := by
    cases q : rowsP cs (ledR 20 cs) with
    | nil => exact absurd q this
    | cons c l => exact ⟨c, List.mem_cons_self⟩
  obtain ⟨i, hi, _, nb⟩ := (mem_rowsP (ledR_len 20 cs)).mp hc
  have hm := mem_rFn (l := ledR 20 cs) (i := i) (by rw [ledR_len]; exact hi)
  have nl := no_lost v _ hm
  cases e : rFn (ledR 20 cs) i with
  | busy => exact absurd e nb
  | lost => exact absurd e nl
  | cord m =>
    rw [e] at hm
    have := need_ge hm
    omega
/-- the greatest: how many, since when -/
structure Top (rows : List Cl) (M T : Nat) : Prop where
  is : ∃ c ∈ rows, cnt rows c.t = M ∧ c.t = T
  ge : ∀ c ∈ rows, cnt rows c.t < M ∨ (cnt rows c.t = M ∧ T ≤ c.t)
theorem Top.unique {rows : List Cl} {M T M' T' : Nat} (a : Top rows M T) (b : Top rows M' T') : M = M' ∧ T = T' := by
  obtain ⟨c, h1, h2, h3⟩ := a.is
  obtain ⟨d, g1, g2, g3⟩ := b.is
  have e1 := a.ge d g1
  have e2 := b.ge c h1
  omega
/-! pairs, the greatest -/
def maxP : Int × Int → List (Int × Int) → Int × Int
  | m, [] => m
  | m, x :: xs => maxP (if x.1 < m.1 ∨ (x.1 = m.1 ∧ x.2 ≤ m.2) then m else x) xs
def leP (x m : Int × Int) : Prop := x.1 < m.1 ∨ (x.1 = m.1 ∧ x.2 ≤ m.2)
instance (x m : Int × Int) : Decidable (leP x m) := inferInstanceAs (Decidable (x.1 < m.1 ∨ (x.1 = m.1 ∧ x.2 ≤ m.2)))
theorem lexI_pair (x m : Int × Int) : lexI [x.1, x.2] [m.1, m.2] = decide (leP x m) := by
  unfold leP
  simp only [lexI]
  by_cases h1 : x.1 < m.1
  · simp [h1]
  · by_cases h2 : x.1 = m.1
    · by_cases h3 : x.2 < m.2
      · simp [h2, h3]
        omega
      · by_cases h4 : x.2 = m.2
        · simp [h2, h4]
        · simp [h2, h3, h4]
          omega
    · simp [h1, h2]
theorem maxL_pair : ∀ (xs : List (Int × Int)) (m : Int × Int), maxL [m.1, m.2] (xs.map fun x => [x.1, x.2]) = [(maxP m xs).1, (maxP m xs).2]
  | [], m => rfl
  | x :: xs, m => by
    rw [List.map_cons]
    unfold maxL maxP
    rw [lexI_pair]
    by_cases h : leP x m
    · rw [decide_eq_true h, if_pos rfl, maxL_pair xs m]
      unfold leP at h
      rw [if_pos h]
    · rw [decide_eq_false h, if_neg (by decide), maxL_pair xs x]
      unfold leP at h
      rw [if_neg h]
theorem leP_trans {a b c : Int × Int} (h1 : leP a b) (h2 : leP b c) : leP a c := by
  unfold leP at *
  omega
theorem leP_refl (a : Int × Int) : leP a a := by unfold leP; omega
theorem maxP_is : ∀ (xs : List (Int × Int)) (m : Int × Int), maxP m xs ∈ m :: xs ∧ ∀ x ∈ m :: xs, leP x (maxP m xs)
  | [], m => ⟨List.mem_cons_self, fun x hx => by
    have : x = m := by simpa using hx
    rw [this]
    exact leP_refl m⟩
  | y :: xs, m => by
    unfold maxP
    split
    · rename_i h
      obtain ⟨h1, h2⟩ := maxP_is xs m
      refine ⟨?_, fun x hx => ?_⟩
      · rcases List.mem_cons.mp h1 with e | e
        · rw [e]; exact List.mem_cons_self
        · exact List.mem_cons_of_mem _ (List.mem_cons_of_mem _ e)
      · rcases List.mem_cons.mp hx with rfl | hx
        · exact h2 _ List.mem_cons_self
        · rcases List.mem_cons.mp hx with rfl | hx
          · exact leP_trans h (h2 m List.mem_cons_self)
          · exact h2 x (List.mem_cons_of_mem _ hx)
    · rename_i h
      obtain ⟨h1, h2⟩ := maxP_is xs y
      refine ⟨List.mem_cons_of_mem _ h1, fun x hx => ?_⟩
      rcases List.mem_cons.mp hx with rfl | hx
      · refine leP_trans ?_ (h2 y List.mem_cons_self)
        unfold leP
        omega
      · exact h2 x hx
def pairC (rows : List Cl) (c : Cl) : Int × Int := (((cnt rows c.t : Nat) : Int), 0 - ((c.t : Nat) : Int))
theorem top_of {rows : List Cl} {c : Cl} {l : List Cl} (e : rows = c :: l) : ∃ M T, Top rows M T ∧ maxP (pairC rows c) (l.map (pairC rows)) = (((M : Nat) : Int), 0 - ((T : Nat) : Int)) := by
  obtain ⟨h1, h2⟩ := maxP_is (l.map (pairC rows)) (pairC rows c)
  rw [← List.map_cons, ← e] at h1 h2
  obtain ⟨d, hd, q⟩ := List.mem_map.mp h1
  refine ⟨cnt rows d.t, d.t, ⟨⟨d, hd, rfl, rfl⟩, fun x hx => ?_⟩, q.symm⟩
  have := h2 _ (List.mem_map.mpr ⟨x, hx, rfl⟩)
  rw [← q] at this
  unfold leP pairC at this
  simp only at this
  omega
end HR

namespace HR
/-! ### fewest, greatest -/
theorem ne_rs (x : Rs) (h : IH) : neD (rsW x) (.wd 24) h = .ok (.bl (decide (x ≠ .busy))) h := by cases x <;> rfl
theorem cords_map : ∀ {l : List Rs}, (∀ x ∈ l, x ≠ .lost) → (l.filter fun x => decide (x ≠ .busy)).map rsW = (cords l).map NI
  | [], _ => rfl
  | x :: l, h => by
    have ih := cords_map (l := l) fun y hy => h y (List.mem_cons_of_mem _ hy)
    cases x with
    | busy => exact ih
    | lost => exact absurd rfl (h _ List.mem_cons_self)
    | cord m =>
      show rsW (.cord m) :: ((l.filter fun x => decide (x ≠ .busy)).map rsW) = NI m :: (cords l).map NI
      rw [ih]
      rfl
theorem cords_len (l : List Rs) : (cords l).length ≤ l.length := List.length_filterMap_le _ _
theorem led20 {cs : List Cl} (v : Valid cs) (h : IH) : F_led [.vl (cs.map clD), .int 20] h = .ok (.vl ((ledR 20 cs).map rsW)) h := by
  have e : (D.int 20) = NI 20 := rfl
  rw [e]
  exact led_ok (by omega) (by have := v.len; omega) h
theorem maxD_NI {l : List Nat} {h : IH} : maxD (.vl (.int 0 :: l.map fun m => NI (m + 1))) h = .ok (.int (maxI 0 (l.map fun m => ((m + 1 : Nat) : Int)))) h := by
  have := asIs_map (0 :: l.map fun m => ((m + 1 : Nat) : Int))
  rw [List.map_cons, List.map_map] at this
  unfold maxD
  rw [getL_vl]
  dsimp only
  rw [show (D.int 0 :: l.map fun m => NI (m + 1)) = D.int 0 :: l.map (D.int ∘ fun m => ((m + 1 : Nat) : Int)) from rfl, this]
theorem p_cat {a b : List D} {h : IH} (hz : a.length + b.length ≤ 1000) : addD false (.vl a) (.vl b) h = .ok (.vl (a ++ b)) h := by
  rw [addL_e (a := a) (b := b) rfl rfl (Nat.le_of_lt (sizeL hz)), outL_f]
theorem fewest_g {d0 : D} {R : List Rs} {h : IH} (e1 : F_need_calls [d0] h = .ok .non h) (e2 : F_led [d0, .int 20] h = .ok (.vl (R.map rsW)) h) (nl : ∀ x ∈ R, x ≠ .lost) (hl : R.length ≤ 900) :
    b_fewest [some d0, none, none] h = .rt (.int (maxI 0 ((cords R).map fun m => ((m + 1 : Nat) : Int)))) h := by
  have hc := cords_len R
  have l1 : lcE false (seqV (callF 2 F_led (consA (varE 0) (consA (cE (.int 20)) (nilA))))) (.one 2) (tst (op2 neD (varE 2) (cE (.wd 24)))) (varE 2) [2] [some d0, none, none] h = .ok (.vl ((cords R).map NI)) h := by
    rw [← cords_map nl]
    refine r_lc R rsW _ rsW (r_seqV (xs := R.map rsW) (d := .vl (R.map rsW)) (h1 := h) (by walk_at "ev") rfl) rfl (by omega) fun x _ => ⟨_, rfl, ?_, fun _ => by walk_at "ev"⟩
    exact r_tst (r_op2 (r_var rfl) r_c (ne_rs x h))
  have l2 : lcE false (seqV (varE 1)) (.one 2) yesT (op2 (addD false) (varE 2) (cE (.int 1))) [2] [some d0, some (.vl ((cords R).map NI)), none] h = .ok (.vl ((cords R).map fun m => NI (m + 1))) h := by
    refine r_lc1 (cords R) NI (fun m => NI (m + 1)) (r_seqV (xs := (cords R).map NI) (r_var rfl) rfl) rfl (by omega) fun x _ => ⟨_, rfl, ?_⟩
    exact r_op2 (r_var rfl) r_c (p_add false x 1 h)
  have l3 : addD false (.vl [.int 0]) (.vl ((cords R).map fun m => NI (m + 1))) h = .ok (.vl (.int 0 :: (cords R).map fun m => NI (m + 1))) h := p_cat (by simp; omega)
  unfold b_fewest
  walk_at "ev"
  exact maxD_NI
theorem fewest_ok {cs : List Cl} (v : Valid cs) (h : IH) : F_fewest [.vl (cs.map clD)] h = .ok (NI (need cs)) h := by
  have := fewest_g (need_ok v h) (led20 v h) (no_lost v) (by rw [ledR_len]; have := v.len; omega)
  rw [need_val] at this
  exact fnC_r0 this rfl
/-! greatest -/
def spanD (c : Cl) : D := .tup [NI c.t, NI (c.t + c.z)]
theorem zipL_map {α β : Type} (f : α → D) (g : β → D) : ∀ (a : List α) (b : List β), zipL (a.map f) (b.map g) = (a.zip b).map fun p => .tup [f p.1, g p.2]
  | [], _ => rfl
  | _ :: _, [] => rfl
  | x :: a, y :: b => by
    show D.tup [f x, g y] :: zipL (a.map f) (b.map g) = _
    rw [zipL_map f g a b]
    rfl
theorem r_zip {a b : ME} {xs ys : List D} {en : En} {h : IH} (e1 : a en h = .ok (.vl xs) h) (e2 : b en h = .ok (.vl ys) h) : zipE (consA a (consA b nilA)) en h = .ok (fun _ => some (zipL xs ys)) h := by
  unfold zipE
  rw [consA_e, e1, Out.bind_ok, consA_e, e2]
  rfl
theorem zip_len (cs : List Cl) (k : Nat) : (cs.zip (ledR k cs)).length = cs.length := by rw [List.length_zip, ledR_len, Nat.min_self]
theorem le_nat (x y : Nat) (h : IH) : leD (NI x) (NI y) h = .ok (.bl (decide (x ≤ y))) h := by
  show (Out.ok (D.bl (decide (((x : Nat) : Int) ≤ ((y : Nat) : Int)))) h : Out D) = _
  congr 2
  by_cases q : x ≤ y
  · simp [q]
  · simp [q]
theorem lt_nat (x y : Nat) (h : IH) : ltD (NI x) (NI y) h = .ok (.bl (decide (x < y))) h := by
  show (Out.ok (D.bl (decide (((x : Nat) : Int) < ((y : Nat) : Int)))) h : Out D) = _
  congr 2
  by_cases q : x < y
  · simp [q]
  · simp [q]
def pairD (p : Int × Int) : D := .tup [.int p.1, .int p.2]
theorem maxT_pair {p : Int × Int} {l : List (Int × Int)} {h : IH} : maxTD (.vl ((p :: l).map pairD)) h = .ok (pairD (maxP p l)) h := by
  unfold maxTD
  rw [getL_vl, List.map_cons]
  dsimp only
  have e : ((pairD p :: l.map pairD).all fun d => (tupI d).isSome) = true := by
    rw [← List.map_cons, List.all_map, List.all_eq_true]
    intro x _
    rfl
  have e2 : (l.map pairD).map tI = l.map fun x => [x.1, x.2] := by rw [List.map_map]; rfl
  rw [e, grd_true, e2, show tI (pairD p) = [p.1, p.2] from rfl, maxL_pair]
  rfl
theorem great_rows {cs : List Cl} {R : List Rs} {en : En} {h : IH} (hl : R.length = cs.length) (hz : cs.length ≤ 900) (h0 : en = [some (.vl (cs.map clD)), some (.vl (R.map rsW)), none, none, none, none, none, none, none, none, none]) :
    lcE false (zipE (consA (varE 0) (consA (varE 1) (nilA)))) (.many [5, 6]) (tst (op2 neD (varE 6) (cE (.wd 24)))) (tupE (consA (op2 ixD (varE 5) (cE (.int 2))) (consA (op2 (addD false) (op2 ixD (varE 5) (cE (.int 2))) (op2 ixD (varE 5) (cE (.int 3)))) (nilA)))) [5, 6] en h = .ok (.vl ((rowsP cs R).map spanD)) h := by
  subst h0
  have e : (rowsP cs R).map spanD = ((cs.zip R).filter fun p => decide (p.2 ≠ .busy)).map fun p => spanD p.1 := by unfold rowsP; rw [List.map_map]; rfl
  rw [e]
  refine r_lc (cs.zip R) (fun p => .tup [clD p.1, rsW p.2]) _ _ (r_zip (r_var rfl) (r_var rfl)) (by rw [zipL_map]) (by rw [List.length_zip]; omega) fun p _ => ⟨_, rfl, ?_, fun _ => ?_⟩
  · exact r_tst (r_op2 (r_var rfl) r_c (ne_rs p.2 h))
  · have i2 := (ixCl p.1 h).2.2.1
    have i3 := (ixCl p.1 h).2.2.2
    refine r_tup (xs := [NI p.1.t, NI (p.1.t + p.1.z)]) (r_consA (r_op2 (r_var rfl) r_c i2) (r_consA (r_op2 (r_op2 (r_var rfl) r_c i2) (r_op2 (r_var rfl) r_c i3) (p_add _ _ _ _)) r_nilA)) (len_le rfl)
theorem len_ones {l : List Cl} {h : IH} : lenD [.vl (l.map fun _ => D.int 1)] h = .ok (NI l.length) h := by rw [p_len, List.length_map]
theorem great_counts {rows : List Cl} {d0 d1 : D} {en : En} {h : IH} (hz : rows.length ≤ 900) (h0 : en = [some d0, some d1, some (.vl (rows.map spanD)), none, none, none, none, none, none, none, none]) :
    lcE false (seqV (varE 2)) (.many [7, 8]) (yesT) (tupE (consA (callB lenD (consA (lcE false (seqV (varE 2)) (.many [9, 10]) (tst (chE leD ltD (varE 9) (varE 7) (varE 10))) (cE (.int 1)) [9, 10]) (nilA))) (consA (op2 subD (cE (.int 0)) (varE 7)) (nilA)))) [7, 8] en h = .ok (.vl ((rows.map (pairC rows)).map pairD)) h := by
  subst h0
  rw [List.map_map]
  refine r_lc1 rows spanD _ (r_seqV (xs := rows.map spanD) (r_var rfl) rfl) rfl (by omega) fun c _ => ⟨_, rfl, ?_⟩
  refine r_tup (xs := [NI (cnt rows c.t), .int (0 - ((c.t : Nat) : Int))]) (r_consA (r_callB (r_consA (r_lc rows spanD (inT c.t) (fun _ => .int 1) (r_seqV (xs := rows.map spanD) (r_var rfl) rfl) rfl (by omega) fun e _ => ⟨_, rfl, ?_, fun _ => r_c⟩) r_nilA) len_ones) (r_consA (r_op2 r_c (r_var rfl) subI_e) r_nilA)) (len_le rfl)
  exact r_tst (r_ch (r_var rfl) (r_var rfl) (le_nat _ _ _) (fun _ => r_var rfl) (fun _ => lt_nat _ _ _))
theorem pls_span : ∀ (l : List Cl), pls (l.map spanD) = true
  | [] => rfl
  | c :: l => by show (pl (spanD c) && pls (l.map spanD)) = true; rw [pls_span l]; rfl
theorem deps_span : ∀ (l : List Cl), deps (l.map spanD) ≤ 1
  | [] => by decide
  | c :: l => by
    show max (dep (spanD c)) (deps (l.map spanD)) ≤ 1
    exact Nat.max_le.mpr ⟨Nat.le_refl _, deps_span l⟩
theorem eq_rows_nil {c : Cl} {l : List Cl} {h : IH} : eqD (.vl ((c :: l).map spanD)) (.vl []) h = .ok (.bl false) h := by
  rw [eqD_L (xs := (c :: l).map spanD) (ys := []) rfl rfl (pls_span _) rfl (Nat.le_trans (deps_span _) (by decide)) (by decide)]
  rfl
theorem great_g {cs : List Cl} {R : List Rs} {h : IH} (hl : R.length = cs.length) (hz : cs.length ≤ 900) (e1 : F_need_calls [.vl (cs.map clD)] h = .ok .non h) (e2 : F_led [.vl (cs.map clD), .int 20] h = .ok (.vl (R.map rsW)) h) :
    b_greatest [some (.vl (cs.map clD)), none, none, none, none, none, none, none, none, none, none] h = .rt (match rowsP cs R with | [] => .non | c :: l => .tup [.int (maxP (pairC (c :: l) c) (l.map (pairC (c :: l)))).1, .int (0 - (maxP (pairC (c :: l) c) (l.map (pairC (c :: l)))).2)]) h := by
  have e3 := great_rows (h := h) hl hz rfl
  have hr : (rowsP cs R).length ≤ 900 := by
    unfold rowsP
    rw [List.length_map]
    refine Nat.le_trans (List.length_filter_le _ _) ?_
    rw [List.length_zip]
    omega
  unfold b_greatest
  walk_at "ev"
  generalize rowsP cs R = rows at *
  cases rows with
  | nil => exact s_seqR (s_ifT (r_tst (r_op2 (r_var rfl) (r_lst r_nilA (len_le rfl)) rfl)) (by walk_at "ev"))
  | cons c l =>
    have e4 := great_counts (rows := c :: l) (d0 := .vl (cs.map clD)) (d1 := .vl (R.map rsW)) (h := h) hr rfl
    have e5 : maxTD (.vl (((c :: l).map (pairC (c :: l))).map pairD)) h = .ok (pairD (maxP (pairC (c :: l) c) (l.map (pairC (c :: l))))) h := maxT_pair
    show seqS _ _ _ _ = SO.rt (.tup [.int (maxP (pairC (c :: l) c) (l.map (pairC (c :: l)))).1, .int (0 - (maxP (pairC (c :: l) c) (l.map (pairC (c :: l)))).2)]) h
    with_reducible apply s_seq
    · with_reducible apply s_ifF
      · walk_at "ev"
        exact eq_rows_nil
      · walk_at "ev"
    · generalize maxP (pairC (c :: l) c) (l.map (pairC (c :: l))) = m at *
      have i0 : ixD (pairD m) (.int 0) h = .ok (.int m.1) h := rfl
      have i1 : ixD (pairD m) (.int 1) h = .ok (.int m.2) h := rfl
      walk_at "ev"
theorem clB_i {n : Nat} {a b : Int} : clB n (.tup [.int a, .int b]) = true := by
  unfold clB clBs
  unfold clB clBs
  unfold clB clBs
  rfl
def greatD : Option (Nat × Nat) → D
  | none => .non
  | some p => .tup [NI p.1, NI p.2]
theorem greatest_ok {cs : List Cl} (v : Valid cs) (h : IH) : ∃ g, F_greatest [.vl (cs.map clD)] h = .ok (greatD g) h ∧ (g = none ↔ cs = []) ∧ ∀ M T, g = some (M, T) → Top (rowsP cs (ledR 20 cs)) M T := by
  have e := great_g (ledR_len 20 cs) (by have := v.len; omega) (need_ok v h) (led20 v h)
  cases q : rowsP cs (ledR 20 cs) with
  | nil =>
    rw [q] at e
    refine ⟨none, fnC_r0 e rfl, ⟨fun _ => ?_, fun _ => rfl⟩, fun M T z => by cases z⟩
    by_cases z : cs = []
    · exact z
    · exact absurd q (rowsP_ne z)
  | cons c l =>
    rw [q] at e
    obtain ⟨M, T, t, m⟩ := top_of (rows := c :: l) (c := c) (l := l) rfl
    have e : b_greatest [some (.vl (cs.map clD)), none, none, none, none, none, none, none, none, none, none] h = .rt (.tup [.int (maxP (pairC (c :: l) c) (l.map (pairC (c :: l)))).1, .int (0 - (maxP (pairC (c :: l) c) (l.map (pairC (c :: l)))).2)]) h := e
    rw [m] at e
    have e2 : (0 - ((0 : Int) - ((T : Nat) : Int))) = ((T : Nat) : Int) := by omega
    dsimp only at e
    rw [e2] at e
    refine ⟨some (M, T), fnC_r0 e clB_i, ⟨fun z => (by cases z), fun z => ?_⟩, fun M' T' z => ?_⟩
    · rw [z] at q
      cases q
    · cases z
      exact t
end HR

namespace HR
/-! ### calls told otherwise -/
theorem getD_map {cs : List Cl} {f : Cl → Cl} {i : Nat} (hi : i < cs.length) : (cs.map f).getD i default = f (cs.getD i default) := by
  simp only [List.getD_eq_getElem?_getD, List.getElem?_map, List.getElem?_eq_getElem hi]
  rfl
theorem getD_in {cs : List Cl} {i : Nat} (hi : i < cs.length) : cs.getD i default ∈ cs := by
  rw [List.getD_eq_getElem?_getD, List.getElem?_eq_getElem hi]
  exact List.getElem_mem hi
theorem alike_map {cs : List Cl} {f : Cl → Cl} (h1 : ∀ c ∈ cs, ∀ d ∈ cs, (c.t < d.t ↔ (f c).t < (f d).t)) (h2 : ∀ c ∈ cs, ∀ d ∈ cs, (d.t < c.t + c.z ↔ (f d).t < (f c).t + (f c).z)) (h3 : ∀ c ∈ cs, ∀ d ∈ cs, (meets c d ↔ meets (f c) (f d))) : Alike cs (cs.map f) id where
  lt := fun i hi => by rw [List.length_map]; exact hi
  onto := fun i hi => ⟨i, by rw [List.length_map] at hi; exact hi, rfl⟩
  befo := fun i j hi hj => by
    have a := h1 _ (getD_in hj) _ (getD_in hi)
    have b := h1 _ (getD_in hi) _ (getD_in hj)
    unfold bef
    simp only [id_eq, getD_map hi, getD_map hj]
    omega
  act := fun i j hi hj _ => by
    have a := h2 _ (getD_in hj) _ (getD_in hi)
    unfold over
    simp only [id_eq, getD_map hi, getD_map hj]
    exact a
  meet := fun i j hi hj => by
    simp only [id_eq, getD_map hi, getD_map hj]
    exact h3 _ (getD_in hj) _ (getD_in hi)
theorem ledR_alike {k : Nat} {cs : List Cl} {f : Cl → Cl} (A : Alike cs (cs.map f) id) : ledR k (cs.map f) = ledR k cs := by
  refine rFn_ext (by rw [ledR_len, ledR_len, List.length_map]) fun i hi => ?_
  rw [ledR_len, List.length_map] at hi
  exact A.same (ledR_good k cs) (ledR_good k (cs.map f)) i hi
def shift (s : Nat) (c : Cl) : Cl := ⟨c.a, c.b, c.t + s, c.z⟩
theorem alike_shift (s : Nat) (cs : List Cl) : Alike cs (cs.map (shift s)) id :=
  alike_map (fun c _ d _ => by unfold shift; dsimp only; omega) (fun c _ d _ => by unfold shift; dsimp only; omega) (fun c _ d _ => Iff.rfl)
theorem need_alike {cs : List Cl} {f : Cl → Cl} (A : Alike cs (cs.map f) id) : need (cs.map f) = need cs := by
  unfold need
  rw [ledR_alike A]
theorem rowsP_map {cs : List Cl} {l : List Rs} {f : Cl → Cl} : rowsP (cs.map f) l = (rowsP cs l).map f := by
  unfold rowsP
  rw [List.zip_map_left, List.filter_map, List.map_map, List.map_map]
  rfl
theorem cnt_shift {s t : Nat} {rows : List Cl} : cnt (rows.map (shift s)) (t + s) = cnt rows t := by
  unfold cnt
  rw [List.filter_map, List.length_map]
  congr 1
  refine List.filter_congr fun c _ => ?_
  show inT (t + s) (shift s c) = inT t c
  unfold inT shift
  dsimp only
  by_cases h1 : c.t ≤ t <;> by_cases h2 : t < c.t + c.z
  · simp [h1, show t + s < c.t + s + c.z by omega, h2]
  · simp [h2, show ¬ t + s < c.t + s + c.z by omega]
  · simp [h1]
  · simp [h1]
theorem Top.shift {s M T : Nat} {rows : List Cl} (h : Top rows M T) : Top (rows.map (shift s)) M (T + s) := by
  obtain ⟨⟨c, h1, h2, h3⟩, h4⟩ := h
  refine ⟨⟨HR.shift s c, List.mem_map.mpr ⟨c, h1, rfl⟩, ?_, ?_⟩, fun d hd => ?_⟩
  · show cnt _ (c.t + s) = M
    rw [cnt_shift]
    exact h2
  · show c.t + s = T + s
    omega
  · obtain ⟨c, hc, rfl⟩ := List.mem_map.mp hd
    have := h4 c hc
    show cnt _ (c.t + s) < M ∨ (cnt _ (c.t + s) = M ∧ T + s ≤ c.t + s)
    rw [cnt_shift]
    omega
/-! ### comparisons -/
theorem ne_same {x : D} {h : IH} (hp : pl x = true) (hd : dep x ≤ 8) : neD x x h = .ok (.bl false) h := by
  rw [neD_e hp hp hd hd, eqW_refl x hp]
  rfl
theorem pls_all : ∀ {xs : List D}, (∀ x ∈ xs, pl x = true) → pls xs = true
  | [], _ => rfl
  | x :: xs, h => by
    show (pl x && pls xs) = true
    rw [h x List.mem_cons_self, pls_all fun y hy => h y (List.mem_cons_of_mem _ hy)]
    rfl
theorem deps_all {n : Nat} : ∀ {xs : List D}, (∀ x ∈ xs, dep x ≤ n) → deps xs ≤ n
  | [], _ => Nat.zero_le _
  | x :: xs, h => by
    show max (dep x) (deps xs) ≤ n
    exact Nat.max_le.mpr ⟨h x List.mem_cons_self, deps_all fun y hy => h y (List.mem_cons_of_mem _ hy)⟩
theorem pl_vl {α : Type} {l : List α} {f : α → D} (h : ∀ x, pl (f x) = true) : pl (.vl (l.map f)) = true := by
  show pls _ = true
  refine pls_all fun x hx => ?_
  obtain ⟨y, _, rfl⟩ := List.mem_map.mp hx
  exact h y
theorem dep_vl {α : Type} {n : Nat} {l : List α} {f : α → D} (h : ∀ x, dep (f x) ≤ n) : dep (.vl (l.map f)) ≤ n + 1 := by
  show deps _ + 1 ≤ n + 1
  have : deps (l.map f) ≤ n := deps_all fun x hx => by
    obtain ⟨y, _, rfl⟩ := List.mem_map.mp hx
    exact h y
  omega
theorem pl_rs (x : Rs) : pl (rsW x) = true := by cases x <;> rfl
theorem dep_rs (x : Rs) : dep (rsW x) ≤ 0 := by cases x <;> exact Nat.le_refl _
theorem ne_told {l : List Rs} {h : IH} : neD (.vl (l.map rsW)) (.vl (l.map rsW)) h = .ok (.bl false) h := ne_same (pl_vl pl_rs) (Nat.le_trans (dep_vl dep_rs) (by decide))
theorem ne_calls {cs : List Cl} {h : IH} : neD (.vl (cs.map clD)) (.vl (cs.map clD)) h = .ok (.bl false) h := ne_same (pl_vl fun _ => rfl) (Nat.le_trans (dep_vl (n := 1) fun _ => Nat.le_refl _) (by decide))
theorem ne_ints {l : List Nat} {h : IH} : neD (.vl (l.map NI)) (.vl (l.map NI)) h = .ok (.bl false) h := ne_same (pl_vl fun _ => rfl) (Nat.le_trans (dep_vl (n := 0) fun _ => Nat.le_refl _) (by decide))
theorem in_lost (neg : Bool) (l : List Rs) (h : IH) : inD neg (.wd 25) (.vl (l.map rsW)) h = .ok (.bl (if neg then !decide (Rs.lost ∈ l) else decide (Rs.lost ∈ l))) h := by
  have e : getS h (.vl (l.map rsW)) = some (l.map rsW) := rfl
  have e2 : (l.map rsW).all flatD = true := by
    rw [List.all_map, List.all_eq_true]
    intro x _
    cases x <;> rfl
  have e3 : ((l.map rsW).any fun z => eqW z (.wd 25)) = decide (Rs.lost ∈ l) := by
    induction l with
    | nil => rfl
    | cons x l ih =>
      rw [List.map_cons, List.any_cons, ih rfl (by rw [List.all_map, List.all_eq_true]; intro x _; cases x <;> rfl)]
      cases x with
      | cord m => simp [rsW, eqW]
      | busy => simp [rsW, eqW]
      | lost => simp [rsW, eqW]
  unfold inD
  rw [e]
  dsimp only
  rw [e2, e3]
  rfl
theorem eq_cs_nil {cs : List Cl} {h : IH} : eqD (.vl (cs.map clD)) (.vl []) h = .ok (.bl cs.isEmpty) h := by
  rw [eqD_L (xs := cs.map clD) (ys := []) rfl rfl (pls_all fun x hx => by obtain ⟨y, _, rfl⟩ := List.mem_map.mp hx; rfl) rfl (deps_all fun x hx => by obtain ⟨y, _, rfl⟩ := List.mem_map.mp hx; exact (by decide : (1 : Nat) ≤ 7)) (by decide)]
  cases cs <;> rfl
theorem cords_str (l : List Rs) : (l.filter fun x => match x with | .cord _ => true | _ => false).map rsW = (cords l).map NI := by
  induction l with
  | nil => rfl
  | cons x l ih =>
    cases x with
    | busy => exact ih
    | lost => exact ih
    | cord m =>
      show rsW (.cord m) :: ((l.filter fun x => match x with | .cord _ => true | _ => false).map rsW) = NI m :: (cords l).map NI
      rw [ih]
      rfl
theorem isi_str (x : Rs) (h : IH) : isiD .str (rsW x) h = .ok (.bl (!(match x with | .cord _ => true | _ => false))) h := by cases x <;> rfl
end HR

namespace HR
theorem s_skip {t : MT} {s T : MS} {en : En} {h : IH} {o : SO} (e1 : t en h = .ok false h) (e2 : T en h = o) : seqS (ifS t s passS) T en h = o := s_seq (s_ifF e1 s_pass) e2
theorem s_skip1 {t : MT} {s : MS} {en : En} {h : IH} (e1 : t en h = .ok false h) : ifS t s passS en h = .nx en h := s_ifF e1 s_pass
theorem min8 (n : Nat) (h : IH) : min2 [.int 8, NI n] h = .ok (NI (min 8 n)) h := by
  show Out.ok (D.int (if ((n : Nat) : Int) < 8 then ((n : Nat) : Int) else 8)) h = _
  congr 2
  split <;> omega
theorem ge_nat (x y : Nat) (h : IH) : geD (NI x) (NI y) h = .ok (.bl (decide (y ≤ x))) h := by
  show (Out.ok (D.bl (decide (((y : Nat) : Int) ≤ ((x : Nat) : Int)))) h : Out D) = _
  congr 2
  by_cases q : y ≤ x
  · simp [q]
  · simp [q]
theorem p_addT {xs ys : List D} {h : IH} (hz : xs.length + ys.length ≤ 1000) : addD false (.tup xs) (.tup ys) h = .ok (.tup (xs ++ ys)) h := by
  show Out.or (grd (decide (xs.length + ys.length ≤ sizeLine)) (Out.ok (D.tup (xs ++ ys)) h)) _ = _
  rw [decide_eq_true (Nat.le_of_lt (sizeL hz)), grd_true]
  rfl
end HR

namespace HR
theorem maxD_nat {l : List Nat} {M : Nat} {h : IH} (h1 : M ∈ l) (h2 : ∀ x ∈ l, x ≤ M) : maxD (.vl (l.map NI)) h = .ok (NI M) h := by
  cases l with
  | nil => cases h1
  | cons a l =>
    have e := asIs_NI (a :: l)
    unfold maxD
    rw [getL_vl]
    dsimp only
    rw [e, List.map_cons]
    dsimp only
    congr 2
    have g := maxI_ge (l.map fun n => ((n : Nat) : Int)) ((a : Nat) : Int)
    have m := maxI_mem (l.map fun n => ((n : Nat) : Int)) ((a : Nat) : Int)
    generalize maxI ((a : Nat) : Int) (l.map fun n => ((n : Nat) : Int)) = X at g m
    have u : X ≤ ((M : Nat) : Int) := by
      rcases List.mem_cons.mp m with e | e
      · have := h2 a List.mem_cons_self
        omega
      · obtain ⟨x, hx, rfl⟩ := List.mem_map.mp e
        have := h2 x (List.mem_cons_of_mem _ hx)
        omega
    have w : ((M : Nat) : Int) ≤ X := by
      rcases List.mem_cons.mp h1 with rfl | e
      · exact g.1
      · exact g.2 _ (List.mem_map.mpr ⟨M, e, rfl⟩)
    omega
theorem minD_nat {l : List Nat} {M : Nat} {h : IH} (h1 : M ∈ l) (h2 : ∀ x ∈ l, M ≤ x) : minD (.vl (l.map NI)) h = .ok (NI M) h := by
  cases l with
  | nil => cases h1
  | cons a l =>
    have e := asIs_NI (a :: l)
    unfold minD
    rw [getL_vl]
    dsimp only
    rw [e, List.map_cons]
    dsimp only
    congr 2
    have g := minI_le (l.map fun n => ((n : Nat) : Int)) ((a : Nat) : Int)
    have m := minI_mem (l.map fun n => ((n : Nat) : Int)) ((a : Nat) : Int)
    generalize minI ((a : Nat) : Int) (l.map fun n => ((n : Nat) : Int)) = X at g m
    have u : ((M : Nat) : Int) ≤ X := by
      rcases List.mem_cons.mp m with e | e
      · have := h2 a List.mem_cons_self
        omega
      · obtain ⟨x, hx, rfl⟩ := List.mem_map.mp e
        have := h2 x (List.mem_cons_of_mem _ hx)
        omega
    have w : X ≤ ((M : Nat) : Int) := by
      rcases List.mem_cons.mp h1 with rfl | e
      · exact g.1
      · exact g.2 _ (List.mem_map.mpr ⟨M, e, rfl⟩)
    omega
theorem zipL_same {α : Type} (f g : α → D) : ∀ (l : List α), zipL (l.map f) (l.map g) = l.map fun x => .tup [f x, g x]
  | [] => rfl
  | x :: l => by
    show D.tup [f x, g x] :: zipL (l.map f) (l.map g) = _
    rw [zipL_same f g l]
    rfl
theorem rowsP_len {cs : List Cl} {l : List Rs} : (rowsP cs l).length ≤ cs.length := by
  unfold rowsP
  rw [List.length_map]
  refine Nat.le_trans (List.length_filter_le _ _) ?_
  rw [List.length_zip]
  omega
theorem Top.max {rows : List Cl} {M T : Nat} (t : Top rows M T) {h : IH} : maxD (.vl (rows.map fun c => NI (cnt rows c.t))) h = .ok (NI M) h := by
  have := maxD_nat (l := rows.map fun c => cnt rows c.t) (M := M) (h := h) (by obtain ⟨c, h1, h2, _⟩ := t.is; exact List.mem_map.mpr ⟨c, h1, h2⟩) (fun x hx => by
    obtain ⟨c, hc, rfl⟩ := List.mem_map.mp hx
    have := t.ge c hc
    omega)
  rw [List.map_map] at this
  exact this
theorem Top.min {rows : List Cl} {M T : Nat} (t : Top rows M T) {h : IH} : minD (.vl ((rows.filter fun c => decide (cnt rows c.t = M)).map fun c => NI c.t)) h = .ok (NI T) h := by
  have := minD_nat (l := (rows.filter fun c => decide (cnt rows c.t = M)).map fun c => c.t) (M := T) (h := h) (by
    obtain ⟨c, h1, h2, h3⟩ := t.is
    exact List.mem_map.mpr ⟨c, List.mem_filter.mpr ⟨h1, by rw [decide_eq_true h2]⟩, h3⟩) (fun x hx => by
    obtain ⟨c, hc, rfl⟩ := List.mem_map.mp hx
    obtain ⟨hc, q⟩ := List.mem_filter.mp hc
    have q := of_decide_eq_true q
    have := t.ge c hc
    omega)
  rw [List.map_map] at this
  exact this
theorem eq_nat (x y : Nat) (h : IH) : eqD (NI x) (NI y) h = .ok (.bl (decide (x = y))) h := by
  rw [p_eq]
  congr 2
  by_cases q : x = y
  · rw [decide_eq_true q, beq_iff_eq, q]
  · rw [decide_eq_false q, beq_eq_false_iff_ne]
    omega
theorem ne_pair (a b : Nat) (h : IH) : neD (.tup [NI a, NI b]) (.tup [NI a, NI b]) h = .ok (.bl false) h := ne_same rfl (show 1 ≤ 8 by decide)
theorem ne_bl (a b : Bool) (h : IH) : neD (.bl a) (.bl b) h = .ok (.bl (!(a == b))) h := by cases a <;> cases b <;> rfl
theorem ne_NI (x y : Nat) (h : IH) : neD (NI x) (NI y) h = .ok (.bl (!decide (x = y))) h := by
  rw [p_ne]
  congr 3
  by_cases q : x = y
  · rw [decide_eq_true q, beq_iff_eq, q]
  · rw [decide_eq_false q, beq_eq_false_iff_ne]
    omega
theorem need_of_top {cs : List Cl} (v : Valid cs) {M T : Nat} (t : Top (rowsP cs (ledR 20 cs)) M T) : M = need cs := by
  obtain ⟨c, h1, h2, _⟩ := t.is
  have le := cnt_le v c.t
  obtain ⟨i, hi, _, _⟩ := (mem_rowsP (ledR_len 20 cs)).mp h1
  have np := need_pos v (cs := cs) (fun z => by rw [z] at hi; cases hi)
  obtain ⟨d, g1, g2⟩ := cnt_top v np
  have := t.ge d g1
  omega
end HR

namespace HR
/-! ### moved, pure -/
def scale (m : Nat) (c : Cl) : Cl := ⟨c.a, c.b, c.t * m, c.z * m⟩
theorem alike_scale {m : Nat} (hm : 0 < m) (cs : List Cl) : Alike cs (cs.map (scale m)) id :=
  alike_map (fun c _ d _ => by
    unfold scale
    dsimp only
    exact (Nat.mul_lt_mul_right hm).symm) (fun c _ d _ => by
    unfold scale
    dsimp only
    rw [← Nat.add_mul]
    exact (Nat.mul_lt_mul_right hm).symm) (fun c _ d _ => Iff.rfl)
def turned (c : Cl) : Cl := ⟨19 - c.b, 19 - c.a, c.t, c.z⟩
theorem alike_turned {cs : List Cl} (v : ∀ c ∈ cs, c.a < 20 ∧ c.b < 20) : Alike cs (cs.map turned) id :=
  alike_map (fun c _ d _ => Iff.rfl) (fun c _ d _ => Iff.rfl) (fun c hc d hd => by
    have := v c hc
    have := v d hd
    unfold meets turned
    dsimp only
    omega)
/-- in another turn -/
theorem alike_perm {cs : List Cl} {tn : List Nat} (hp : tn.Perm (List.range cs.length)) (hd : ∀ i j, i < cs.length → j < cs.length → i ≠ j → (cs.getD i default).t ≠ (cs.getD j default).t) : Alike (tn.map fun i => cs.getD i default) cs fun i => tn.getD i 0 := by
  have hl : tn.length = cs.length := by rw [hp.length_eq, List.length_range]
  have nd : tn.Nodup := hp.nodup_iff.mpr List.nodup_range
  have lt : ∀ i, i < tn.length → tn.getD i 0 < cs.length := fun i hi => by
    rw [List.getD_eq_getElem?_getD, List.getElem?_eq_getElem hi]
    exact List.mem_range.mp (hp.mem_iff.mp (List.getElem_mem hi))
  have at' : ∀ i, i < tn.length → (tn.map fun i => cs.getD i default).getD i default = cs.getD (tn.getD i 0) default := fun i hi => by
    simp only [List.getD_eq_getElem?_getD, List.getElem?_map, List.getElem?_eq_getElem hi]
    rfl
  have inj : ∀ i j, i < tn.length → j < tn.length → i ≠ j → tn.getD i 0 ≠ tn.getD j 0 := fun i j hi hj ne e => by
    simp only [List.getD_eq_getElem?_getD, List.getElem?_eq_getElem hi, List.getElem?_eq_getElem hj, Option.getD_some] at e
    exact ne ((List.getElem_inj nd).mp e)
  refine ⟨fun i hi => ?_, fun i' hi' => ?_, fun i j hi hj => ?_, fun i j hi hj _ => ?_, fun i j hi hj => ?_⟩
  · rw [List.length_map] at hi
    exact lt i hi
  · obtain ⟨i, hi, e⟩ := List.getElem_of_mem (hp.mem_iff.mpr (List.mem_range.mpr hi'))
    refine ⟨i, by rw [List.length_map]; exact hi, ?_⟩
    show tn.getD i 0 = i'
    rw [List.getD_eq_getElem?_getD, List.getElem?_eq_getElem hi]
    exact e
  · rw [List.length_map] at hi hj
    unfold bef
    rw [at' i hi, at' j hj]
    by_cases e : i = j
    · subst e
      omega
    · have := hd _ _ (lt i hi) (lt j hj) (inj i j hi hj e)
      omega
  · rw [List.length_map] at hi hj
    unfold over
    rw [at' i hi, at' j hj]
  · rw [List.length_map] at hi hj
    rw [at' i hi, at' j hj]
theorem ledR_perm {k : Nat} {cs : List Cl} {tn : List Nat} (hp : tn.Perm (List.range cs.length)) (hd : ∀ i j, i < cs.length → j < cs.length → i ≠ j → (cs.getD i default).t ≠ (cs.getD j default).t) : ledR k (tn.map fun i => cs.getD i default) = tn.map fun i => rFn (ledR k cs) i := by
  have A := alike_perm hp hd
  refine List.ext_getElem (by rw [ledR_len, List.length_map, List.length_map]) fun i h1 h2 => ?_
  have hi : i < (tn.map fun i => cs.getD i default).length := by rw [ledR_len] at h1; exact h1
  have hi' : i < tn.length := by rw [List.length_map] at hi; exact hi
  have := A.same (ledR_good k _) (ledR_good k cs) i hi
  rw [List.getElem_map]
  rw [List.getD_eq_getElem?_getD, List.getElem?_eq_getElem hi'] at this
  have e : rFn (ledR k (tn.map fun i => cs.getD i default)) i = (ledR k (tn.map fun i => cs.getD i default))[i] := by
    unfold rFn
    rw [List.getD_eq_getElem?_getD, List.getElem?_eq_getElem h1]
    rfl
  rw [← e, ← this]
  rfl
/-- a call behind all others -/
theorem getD_left {cs : List Cl} {e : Cl} {i : Nat} (hi : i < cs.length) : (cs ++ [e]).getD i default = cs.getD i default := by
  simp only [List.getD_eq_getElem?_getD, List.getElem?_append_left hi]
theorem getD_last {cs : List Cl} {e : Cl} : (cs ++ [e]).getD cs.length default = e := by
  simp [List.getD_eq_getElem?_getD]
theorem rFn_left {l : List Rs} {x : Rs} {i : Nat} (hi : i < l.length) : rFn (l ++ [x]) i = rFn l i := by
  unfold rFn
  simp only [List.getD_eq_getElem?_getD, List.getElem?_append_left hi]
theorem rFn_last {l : List Rs} {x : Rs} : rFn (l ++ [x]) l.length = x := by
  unfold rFn
  simp [List.getD_eq_getElem?_getD]
theorem ledR_behind {k : Nat} {cs : List Cl} {e : Cl} (h : ∀ c ∈ cs, c.t + c.z ≤ e.t ∧ 0 < c.z) : ledR k (cs ++ [e]) = ledR k cs ++ [if 0 < k then .cord 0 else .lost] := by
  refine (ledR_of_good (by rw [List.length_append, List.length_append, ledR_len]; rfl) ?_).symm
  have ll := ledR_len k cs
  have hh : ∀ (i j m : Nat), i < cs.length → (Holds (cs ++ [e]) (rFn (ledR k cs ++ [if 0 < k then .cord 0 else .lost])) i j m ↔ Holds cs (rFn (ledR k cs)) i j m) := fun i j m hi => by
    unfold Holds
    constructor
    · rintro ⟨h1, h2, h3, h4⟩
      rw [List.length_append, List.length_singleton] at h1
      by_cases hj : j < cs.length
      · unfold bef over at *
        rw [getD_left hi, getD_left hj] at h2 h4
        rw [rFn_left (by omega)] at h3
        exact ⟨hj, h2, h3, h4⟩
      · exfalso
        have hj : j = cs.length := by omega
        subst hj
        unfold bef at h2
        rw [getD_left hi, getD_last] at h2
        have := h _ (getD_in hi)
        omega
    · rintro ⟨h1, h2, h3, h4⟩
      unfold bef over at *
      rw [getD_left hi, getD_left h1, rFn_left (by omega)]
      exact ⟨by rw [List.length_append]; omega, h2, h3, h4⟩
  intro i hi
  rw [List.length_append, List.length_singleton] at hi
  by_cases hi' : i < cs.length
  · rw [rFn_left (by omega)]
    have g := ledR_good k cs i hi'
    unfold Is Clash Used at g ⊢
    simp only [hh i _ _ hi']
    have cl : (∃ j m, Holds cs (rFn (ledR k cs)) i j m ∧ meets ((cs ++ [e]).getD j default) ((cs ++ [e]).getD i default)) ↔ ∃ j m, Holds cs (rFn (ledR k cs)) i j m ∧ meets (cs.getD j default) (cs.getD i default) := by
      constructor
      · rintro ⟨j, m, h1, h2⟩
        rw [getD_left hi', getD_left h1.1] at h2
        exact ⟨j, m, h1, h2⟩
      · rintro ⟨j, m, h1, h2⟩
        refine ⟨j, m, h1, ?_⟩
        rw [getD_left hi', getD_left h1.1]
        exact h2
    simp only [cl]
    exact g
  · have hi : i = cs.length := by omega
    subst hi
    have no : ∀ j m, ¬ Holds (cs ++ [e]) (rFn (ledR k cs ++ [if 0 < k then .cord 0 else .lost])) cs.length j m := fun j m ⟨h1, h2, h3, h4⟩ => by
      rw [List.length_append, List.length_singleton] at h1
      by_cases hj : j < cs.length
      · unfold over at h4
        rw [getD_left hj, getD_last] at h4
        have := h _ (getD_in hj)
        omega
      · have hj : j = cs.length := by omega
        subst hj
        exact bef_irrefl h2
    have nc : ¬ Clash (cs ++ [e]) (rFn (ledR k cs ++ [if 0 < k then .cord 0 else .lost])) cs.length := fun ⟨j, m, h1, _⟩ => no j m h1
    have e1 : rFn (ledR k cs ++ [if 0 < k then .cord 0 else .lost]) cs.length = if 0 < k then .cord 0 else .lost := by
      conv => lhs; rw [← ll]
      rw [rFn_last]
    rw [e1]
    by_cases hk : 0 < k
    · rw [if_pos hk] at no nc ⊢
      exact .inr (.inl ⟨nc, 0, hk, rfl, fun ⟨j, q⟩ => no j 0 q, fun m' hm' => by omega⟩)
    · rw [if_neg hk] at nc ⊢
      exact .inr (.inr ⟨nc, rfl, fun m hm => by omega⟩)
end HR

namespace HR
/-! ### the hours that the law draws -/
theorem pow_e (n : Nat) (hn : n ≤ 64) (h : IH) : powD (.int 2) (.int (n : Nat)) h = .ok (.int (2 ^ n)) h := by
  show grd (decide (0 ≤ ((n : Nat) : Int)) && decide (((n : Nat) : Int) ≤ 1000000) && decide ((2 : Int).natAbs < 2 ^ 64)) (Out.ok (D.int (2 ^ ((n : Nat) : Int).toNat)) h) = _
  rw [decide_eq_true (Int.natCast_nonneg n), decide_eq_true (show ((n : Nat) : Int) ≤ 1000000 by omega), Int.toNat_natCast]
  rfl
theorem pow30 (h : IH) : powD (.int 2) (.int 30) h = .ok (.int 1073741824) h := pow_e 30 (by omega) h
structure OkH (j : Nat) (c : Cl) : Prop where
  a : c.a < 8
  b : c.b < 8
  ne : c.a ≠ c.b
  t1 : 7 * j ≤ c.t
  t2 : c.t ≤ 7 * j + 6
  z1 : 1 ≤ c.z
  z2 : c.z ≤ 40
theorem hours_step {more : Int} {j p : Nat} {l : List Cl} {o2 o3 o4 o5 : Option D} {hh : IH} (hp : lstAt hh p = some (l.map clD)) (hz : l.length ≤ 900) :
    ∃ (c : Cl) (y3 y4 y5 : D), OkH j c ∧ stepB (nameG 2) b__law_hours_0 (NI j) [some (.int more), some (.ref p), o2, o3, o4, o5] hh = .nx [some (.int more), some (.ref p), some (NI j), some y3, some y4, some y5] (hh.set p (.lst ((l ++ [c]).map clD))) := by
  have dr := drawn_ok more (20 + ((j : Nat) : Int)) hh
  have h0 := drawn_nn more (20 + ((j : Nat) : Int))
  generalize drawn more (20 + ((j : Nat) : Int)) = H at dr h0
  have x1 : 0 ≤ (H / 16) % 8 ∧ (H / 16) % 8 < 8 := by omega
  have x2 : 0 ≤ (H / 128) % 7 ∧ (H / 128) % 7 < 7 := by omega
  have x3 : 0 ≤ (H / 1024) % 7 ∧ (H / 1024) % 7 < 7 := by omega
  have x4 : 0 ≤ (H / 1073741824) % 40 ∧ (H / 1073741824) % 40 < 40 := by omega
  have m1 := modI_e (h := hh) (p := H / 16) (q := 8) (by decide)
  have m2 := modI_e (h := hh) (p := H / 128) (q := 7) (by decide)
  have m3 := modI_e (h := hh) (p := H / 1024) (q := 7) (by decide)
  have m4 := modI_e (h := hh) (p := H / 1073741824) (q := 40) (by decide)
  generalize (H / 16) % 8 = A at m1 x1
  generalize (H / 128) % 7 = B at m2 x2
  generalize (H / 1024) % 7 = T at m3 x3
  generalize (H / 1073741824) % 40 = Z at m4 x4
  have pw := pow30 hh
  have ml : mulD false (.int 7) (NI j) hh = .ok (.int (7 * ((j : Nat) : Int))) hh := mulI_e (mulOk_l (by decide))
  have eb : ∀ (en : En), en[4]? = some (some (.int A)) → en[5]? = some (some (.int B)) → iteE (tst (op2 neD (varE 5) (varE 4))) (varE 5) (cE (.int 7)) en hh = .ok (.int (if B = A then 7 else B)) hh := fun en g4 g5 => by
    by_cases e : B = A
    · rw [if_pos e]
      refine r_iteF (r_tst (r_op2 (r_var g5) (r_var g4) ?_)) r_c
      rw [p_ne, e]
      simp
    · rw [if_neg e]
      refine r_iteT (r_tst (r_op2 (r_var g5) (r_var g4) ?_)) (r_var g5)
      rw [p_ne]
      simp [e]
  let c : Cl := ⟨A.toNat, (if B = A then 7 else B).toNat, (7 * ((j : Nat) : Int) + T).toNat, (1 + Z).toNat⟩
  have ec : D.tup [.int A, .int (if B = A then 7 else B), .int (7 * ((j : Nat) : Int) + T), .int (1 + Z)] = clD c := by
    have y1 : 0 ≤ (if B = A then 7 else B) := by split <;> omega
    show _ = D.tup [.int ((A.toNat : Nat) : Int), .int (((if B = A then 7 else B).toNat : Nat) : Int), .int (((7 * ((j : Nat) : Int) + T).toNat : Nat) : Int), .int (((1 + Z).toNat : Nat) : Int)]
    rw [Int.toNat_of_nonneg x1.1, Int.toNat_of_nonneg y1, Int.toNat_of_nonneg (show 0 ≤ 7 * ((j : Nat) : Int) + T by omega), Int.toNat_of_nonneg (show 0 ≤ 1 + Z by omega)]
  refine ⟨c, .int H, .int A, .int B, ⟨?_, ?_, ?_, ?_, ?_, ?_, ?_⟩, ?_⟩
  · show A.toNat < 8; omega
  · show (if B = A then 7 else B).toNat < 8; split <;> omega
  · show A.toNat ≠ (if B = A then 7 else B).toNat; split <;> omega
  · show 7 * j ≤ (7 * ((j : Nat) : Int) + T).toNat; omega
  · show (7 * ((j : Nat) : Int) + T).toNat ≤ 7 * j + 6; omega
  · show 1 ≤ (1 + Z).toNat; omega
  · show (1 + Z).toNat ≤ 40; omega
  · have ap := appD_nat (v := clD c) hp (by rw [List.length_map]; omega)
    rw [List.map_append]
    show b__law_hours_0 [some (.int more), some (.ref p), some (NI j), o3, o4, o5] hh = _
    unfold b__law_hours_0
    rw [← ec] at ap
    have ebx := eb [some (.int more), some (.ref p), some (NI j), some (.int H), some (.int A), some (.int B)] rfl rfl
    have ap : appD (.ref p) [.tup [.int A, .int (if B = A then 7 else B), .int (7 * ((j : Nat) : Int) + T), .int (1 + Z)]] hh = .ok .non (hh.set p (.lst (l.map clD ++ [c].map clD))) := by
      rw [ap, ec]
      rfl
    walk_at "ev"
theorem hours_run {more : Int} (h : IH) : ∃ (cs : List Cl) (h' : IH), b__law_hours [some (.int more), none, none, none, none, none] h = .rt (.ref h.length) h' ∧ lstAt h' h.length = some (cs.map clD) ∧ h'.take h.length = h ∧ cs.length ≤ 20 ∧ ∀ i c, cs[i]? = some c → OkH i c := by
  have hr : rng1V (consA (op2 modD (varE 0) (cE (.int 21))) nilA) [some (.int more), some (.ref h.length), none, none, none, none] (h ++ [.lst []]) = .ok (fun _ => some ((List.range (more % 21).toNat).map NI)) (h ++ [.lst []]) := by
    refine r_rng ?_ (by omega)
    refine r_op2 (r_var rfl) r_c ?_
    rw [modI_e (by decide)]
    congr 2
    omega
  obtain ⟨en', h', e, l, o2, o3, o4, o5, rfl, f1, f2, f3, f4⟩ := for_run (gf := nameG 2) (b := b__law_hours_0) (List.range (more % 21).toNat) NI (fun n en hh => ∃ (l : List Cl) (o2 o3 o4 o5 : Option D), en = [some (.int more), some (.ref h.length), o2, o3, o4, o5] ∧ lstAt hh h.length = some (l.map clD) ∧ l.length = n ∧ (∀ i c, l[i]? = some c → OkH i c) ∧ hh.take h.length = h) hr (fun _ => rfl)
    ⟨[], none, none, none, none, rfl, lstAt_last, rfl, (by intro i c hc; cases hc), by simp⟩ (by
      rintro n j en hh hj ⟨l, o2, o3, o4, o5, rfl, g1, g2, g3, g4⟩
      have hn := (List.getElem?_eq_some_iff.mp hj).1
      have hj := (List.getElem?_eq_some_iff.mp hj).2
      rw [List.getElem_range] at hj
      subst hj
      rw [List.length_range] at hn
      obtain ⟨c, y3, y4, y5, oc, s⟩ := hours_step (more := more) (j := n) (o2 := o2) (o3 := o3) (o4 := o4) (o5 := o5) g1 (by omega)
      refine ⟨_, _, .inl s, l ++ [c], _, _, _, _, rfl, lstAt_set (getL_lt g1), by rw [List.length_append, g2]; rfl, fun i x hx => ?_, by rw [List.take_set_of_le (Nat.le_refl _)]; exact g4⟩
      by_cases hi : i < l.length
      · rw [List.getElem?_append_left hi] at hx
        exact g3 i x hx
      · have hi2 : i < (l ++ [c]).length := (List.getElem?_eq_some_iff.mp hx).1
        rw [List.length_append, List.length_singleton] at hi2
        have hi3 : i = l.length := by omega
        subst hi3
        simp at hx
        subst hx
        rw [g2]
        exact oc)
  rw [List.length_range] at f2
  refine ⟨l, h', ?_, f1, f4, by omega, f3⟩
  unfold b__law_hours
  exact s_seq (s_name (r_lstT r_nilA (len_le rfl)) rfl) (s_seq e (s_ret (r_var rfl)))
theorem hours_ok {more : Int} (h : IH) : ∃ cs : List Cl, F__law_hours [.int more] h = .ok (.vl (cs.map clD)) h ∧ cs.length ≤ 20 ∧ ∀ i c, cs[i]? = some c → OkH i c := by
  obtain ⟨cs, h', e1, e2, e3, e4, e5⟩ := hours_run (more := more) h
  refine ⟨cs, fnC_rt e1 e3 (fz_new e2 (Nat.le_refl _) fun x hx => ?_), e4, e5⟩
  obtain ⟨c, _, rfl⟩ := List.mem_map.mp hx
  rfl
structure Hrs (cs : List Cl) : Prop where
  len : cs.length ≤ 20
  all : ∀ i c, cs[i]? = some c → OkH i c
theorem Hrs.mem {cs : List Cl} (H : Hrs cs) {c : Cl} (hc : c ∈ cs) : c.a < 8 ∧ c.b < 8 ∧ c.a ≠ c.b ∧ c.t ≤ 139 ∧ 1 ≤ c.z ∧ c.z ≤ 40 := by
  obtain ⟨i, hi, rfl⟩ := List.getElem_of_mem hc
  have o := H.all i _ (List.getElem?_eq_getElem hi)
  have := H.len
  exact ⟨o.a, o.b, o.ne, by have := o.t2; omega, o.z1, o.z2⟩
theorem Hrs.valid {cs : List Cl} (H : Hrs cs) : Valid cs := ⟨by have := H.len; omega, fun c hc => by
  obtain ⟨h1, h2, h3, h4, h5, h6⟩ := H.mem hc
  exact ⟨by omega, by omega, h3, by omega, h5, by omega⟩⟩
theorem Hrs.apart {cs : List Cl} (H : Hrs cs) : ∀ i j, i < cs.length → j < cs.length → i ≠ j → (cs.getD i default).t ≠ (cs.getD j default).t := by
  intro i j hi hj ne
  have e : ∀ i (h : i < cs.length), cs.getD i default = cs[i] := fun i h => by rw [List.getD_eq_getElem?_getD, List.getElem?_eq_getElem h]; rfl
  have a := H.all i _ (List.getElem?_eq_getElem hi)
  have b := H.all j _ (List.getElem?_eq_getElem hj)
  rw [e i hi, e j hj]
  have := a.t1
  have := a.t2
  have := b.t1
  have := b.t2
  omega
theorem valid_map {cs : List Cl} {f : Cl → Cl} (h1 : cs.length ≤ 60) (h2 : ∀ c ∈ cs, Ok1 (f c)) : Valid (cs.map f) := ⟨by rw [List.length_map]; exact h1, fun c hc => by
  obtain ⟨d, hd, rfl⟩ := List.mem_map.mp hc
  exact h2 d hd⟩
end HR

namespace HR
theorem exists_max {α : Type} (f : α → Nat) : ∀ {l : List α}, l ≠ [] → ∃ a ∈ l, ∀ b ∈ l, f b ≤ f a
  | [], h => absurd rfl h
  | [a], _ => ⟨a, List.mem_cons_self, fun b hb => by
    have : b = a := by simpa using hb
    rw [this]
    exact Nat.le_refl _⟩
  | a :: b :: l, _ => by
    obtain ⟨m, hm, h⟩ := exists_max f (l := b :: l) (by simp)
    by_cases q : f m ≤ f a
    · refine ⟨a, List.mem_cons_self, fun c hc => ?_⟩
      rcases List.mem_cons.mp hc with rfl | hc
      · exact Nat.le_refl _
      · exact Nat.le_trans (h c hc) q
    · refine ⟨m, List.mem_cons_of_mem _ hm, fun c hc => ?_⟩
      rcases List.mem_cons.mp hc with rfl | hc
      · omega
      · exact h c hc
theorem mul_nat {x y : Nat} (hx : x < 1000000) (h : IH) : mulD false (NI x) (NI y) h = .ok (NI (x * y)) h := by
  rw [mulI_e (mulOk_l (by rw [Int.natAbs_natCast]; exact Nat.lt_trans hx (by decide)))]
  congr 2
theorem sub_nat {x y : Nat} (hx : y ≤ x) (h : IH) : subD (NI x) (NI y) h = .ok (NI (x - y)) h := by
  rw [subI_e]
  congr 2
  omega
section
variable {cs : List Cl} {K L B : Nat} {d0 d1 d2 : D} {en : En} {h : IH}
/-- a comprehension over the calls, their parts named -/
theorem lc_calls {e : ME} (f : Cl → D) (e3 : en[3]? = some (some (.vl (cs.map clD)))) (hz : cs.length ≤ 900) (he : ∀ c ∈ cs, e (setsE (wipeE en [19, 20, 21, 22]) [19, 20, 21, 22] [NI c.a, NI c.b, NI c.t, NI c.z]) h = .ok (f c) h) :
    lcE false (seqV (varE 3)) (.many [19, 20, 21, 22]) yesT e [19, 20, 21, 22] en h = .ok (.vl (cs.map f)) h :=
  r_lc1 cs clD f (r_seqV (xs := cs.map clD) (r_var e3) rfl) rfl (by omega) fun c hc => ⟨_, rfl, he c hc⟩
variable {x7 x8 x9 x10 x11 x12 x13 x14 x15 x16 x17 x18 x19 x20 x21 x22 x23 x24 : Option D}
theorem l_later (hz : cs.length ≤ 900) : lcE false (seqV (varE 3)) (.many [19, 20, 21, 22]) (yesT) (tupE (consA (varE 19) (consA (varE 20) (consA (op2 (addD false) (varE 21) (varE 5)) (consA (varE 22) (nilA)))))) [19, 20, 21, 22]
    [some d0, some d1, some d2, some (.vl (cs.map clD)), some (NI K), some (NI L), some (NI B), x7, x8, x9, x10, x11, x12, x13, x14, x15, x16, x17, x18, x19, x20, x21, x22, x23, x24] h = .ok (.vl ((cs.map (shift L)).map clD)) h := by
  rw [List.map_map]
  exact lc_calls _ rfl hz fun c _ => r_tup (r_consA (r_var rfl) (r_consA (r_var rfl) (r_consA (r_op2 (r_var rfl) (r_var rfl) (p_add _ _ _ _)) (r_consA (r_var rfl) r_nilA)))) (len_le rfl)
theorem l_wider (hz : cs.length ≤ 900) (hm : ∀ c ∈ cs, c.t < 1000000 ∧ c.z < 1000000) : lcE false (seqV (varE 3)) (.many [19, 20, 21, 22]) (yesT) (tupE (consA (varE 19) (consA (varE 20) (consA (op2 (mulD false) (varE 21) (varE 6)) (consA (op2 (mulD false) (varE 22) (varE 6)) (nilA)))))) [19, 20, 21, 22]
    [some d0, some d1, some d2, some (.vl (cs.map clD)), some (NI K), some (NI L), some (NI B), x7, x8, x9, x10, x11, x12, x13, x14, x15, x16, x17, x18, x19, x20, x21, x22, x23, x24] h = .ok (.vl ((cs.map (scale B)).map clD)) h := by
  rw [List.map_map]
  exact lc_calls _ rfl hz fun c hc => r_tup (r_consA (r_var rfl) (r_consA (r_var rfl) (r_consA (r_op2 (r_var rfl) (r_var rfl) (mul_nat (hm c hc).1 _)) (r_consA (r_op2 (r_var rfl) (r_var rfl) (mul_nat (hm c hc).2 _)) r_nilA)))) (len_le rfl)
theorem l_others (hz : cs.length ≤ 900) (hm : ∀ c ∈ cs, c.a < 20 ∧ c.b < 20) : lcE false (seqV (varE 3)) (.many [19, 20, 21, 22]) (yesT) (tupE (consA (op2 subD (cE (.int 19)) (varE 20)) (consA (op2 subD (cE (.int 19)) (varE 19)) (consA (varE 21) (consA (varE 22) (nilA)))))) [19, 20, 21, 22]
    [some d0, some d1, some d2, some (.vl (cs.map clD)), some (NI K), some (NI L), some (NI B), x7, x8, x9, x10, x11, x12, x13, x14, x15, x16, x17, x18, x19, x20, x21, x22, x23, x24] h = .ok (.vl ((cs.map turned).map clD)) h := by
  rw [List.map_map]
  refine lc_calls _ rfl hz fun c hc => ?_
  have s1 : subD (.int 19) (NI c.b) h = .ok (NI (19 - c.b)) h := sub_nat (x := 19) (by have := hm c hc; omega) h
  have s2 : subD (.int 19) (NI c.a) h = .ok (NI (19 - c.a)) h := sub_nat (x := 19) (by have := hm c hc; omega) h
  exact r_tup (r_consA (r_op2 r_c (r_var rfl) s1) (r_consA (r_op2 r_c (r_var rfl) s2) (r_consA (r_var rfl) (r_consA (r_var rfl) r_nilA)))) (len_le rfl)
theorem law1 {d : D} {R : List Rs} {N : Nat} (f1 : F_carried [d, NI K] h = .ok (.vl (R.map rsW)) h) (f2 : F_fewest [d] h = .ok (NI N) h) (f3 : F_fewest [.vl (cs.map clD)] h = .ok (NI N) h) :
    b_law_1 [some d0, some d1, some d2, some (.vl (cs.map clD)), some (NI K), some (NI L), some (NI B), some (.vl (R.map rsW)), x8, x9, x10, some d, x12, x13, x14, x15, x16, x17, x18, x19, x20, x21, x22, x23, x24] h =
      .nx [some d0, some d1, some d2, some (.vl (cs.map clD)), some (NI K), some (NI L), some (NI B), some (.vl (R.map rsW)), x8, x9, x10, some d, x12, x13, x14, x15, x16, x17, x18, x19, x20, x21, x22, x23, x24] h := by
  unfold b_law_1
  exact s_skip1 (r_orF (r_tst (r_op2 (r_callF (r_consA (r_var rfl) (r_consA (r_var rfl) r_nilA)) rfl f1) (r_var rfl) ne_told)) (r_tst (r_op2 (r_callF (r_consA (r_var rfl) r_nilA) rfl f2) (r_callF (r_consA (r_var rfl) r_nilA) rfl f3) ((ne_NI _ _ _).trans (by rw [decide_eq_true rfl]; rfl)))))
theorem law1_loop {R : List Rs} {N : Nat} (ds : List D) (hd : ∀ d ∈ ds, F_carried [d, NI K] h = .ok (.vl (R.map rsW)) h ∧ F_fewest [d] h = .ok (NI N) h) (f3 : F_fewest [.vl (cs.map clD)] h = .ok (NI N) h) (fi : MV)
    (hf : fi [some d0, some d1, some d2, some (.vl (cs.map clD)), some (NI K), some (NI L), some (NI B), some (.vl (R.map rsW)), x8, x9, x10, x11, x12, x13, x14, x15, x16, x17, x18, x19, x20, x21, x22, x23, x24] h = .ok (fun h => getL h (.vl ds)) h) :
    ∃ y11, forS fi (nameG 11) b_law_1 [some d0, some d1, some d2, some (.vl (cs.map clD)), some (NI K), some (NI L), some (NI B), some (.vl (R.map rsW)), x8, x9, x10, x11, x12, x13, x14, x15, x16, x17, x18, x19, x20, x21, x22, x23, x24] h =
      .nx [some d0, some d1, some d2, some (.vl (cs.map clD)), some (NI K), some (NI L), some (NI B), some (.vl (R.map rsW)), x8, x9, x10, y11, x12, x13, x14, x15, x16, x17, x18, x19, x20, x21, x22, x23, x24] h := by
  obtain ⟨en', h', e, y11, rfl, rfl⟩ := for_run (fi := fi) (gf := nameG 11) (b := b_law_1) (en := [some d0, some d1, some d2, some (.vl (cs.map clD)), some (NI K), some (NI L), some (NI B), some (.vl (R.map rsW)), x8, x9, x10, x11, x12, x13, x14, x15, x16, x17, x18, x19, x20, x21, x22, x23, x24]) (h := h) ds (fun d => d)
    (fun n en hh => ∃ y11, en = [some d0, some d1, some d2, some (.vl (cs.map clD)), some (NI K), some (NI L), some (NI B), some (.vl (R.map rsW)), x8, x9, x10, y11, x12, x13, x14, x15, x16, x17, x18, x19, x20, x21, x22, x23, x24] ∧ hh = h)
    hf (fun _ => by rw [List.map_id']; rfl) ⟨_, rfl, rfl⟩ (by
      rintro n d en hh hx ⟨y11, rfl, rfl⟩
      have := hd d (List.mem_of_getElem? hx)
      exact ⟨_, _, .inl (law1 this.1 this.2 f3), _, rfl, rfl⟩)
  exact ⟨y11, e⟩
theorem erase_perm : ∀ {l : List Nat} {i : Nat} (h : i < l.length), l.Perm (l[i] :: l.eraseIdx i)
  | x :: l, 0, _ => List.Perm.refl _
  | x :: l, i + 1, h => by
    have ih := erase_perm (l := l) (i := i) (by simpa using h)
    exact (ih.cons x).trans (List.Perm.swap _ _ _)
theorem erase_map : ∀ (l : List Nat) (i : Nat), (l.map NI).eraseIdx i = (l.eraseIdx i).map NI
  | [], _ => rfl
  | x :: l, 0 => rfl
  | x :: l, i + 1 => by
    show NI x :: (l.map NI).eraseIdx i = NI x :: (l.eraseIdx i).map NI
    rw [erase_map l i]
/-- one is taken out -/
theorem pop_nat {p i : Nat} {l : List D} {x : D} (hp : lstAt h p = some l) (hi : l[i]? = some x) (hz : l.length ≤ 1000) : popiD (.ref p) [NI i] h = .ok x (h.set p (.lst (l.eraseIdx i))) := by
  have hl := (List.getElem?_eq_some_iff.mp hi).1
  have e : ixN l.length ((i : Nat) : Int) = some i := by
    unfold ixN
    rw [if_pos (by omega), if_pos (by omega)]
    simp
  have e2 : refL h (.ref p) = some (p, l) := by show (match lstAt h p with | some xs => some (p, xs) | none => none) = _; rw [hp]
  have e3 : (decide (-(2 ^ 63) ≤ ((i : Nat) : Int)) && decide (((i : Nat) : Int) < 2 ^ 63)) = true := by
    simp only [Bool.and_eq_true, decide_eq_true_eq]
    omega
  unfold popiD
  rw [e2]
  dsimp only
  rw [e]
  dsimp only
  rw [hi]
  dsimp only
  rw [e3, grd_true]
theorem len_ref {p : Nat} {l : List D} (hp : lstAt h p = some l) : lenD [.ref p] h = .ok (.int l.length) h := lenD_e (getS_L (d := .ref p) hp)
theorem law2 {p q j : Nat} {left turn : List Nat} {d3 d4 d5 d6 d7 : D} {more : Int} (hp : lstAt h p = some (left.map NI)) (hq : lstAt h q = some (turn.map NI)) (hpq : p ≠ q) (hl : 0 < left.length) (hz : left.length ≤ 900) (hz2 : turn.length ≤ 900) :
    ∃ (x : Nat) (l' : List Nat), left.Perm (x :: l') ∧ stepB (nameG 14) b_law_2 (NI j) [some d0, some d1, some (.int more), some d3, some d4, some d5, some d6, some d7, x8, x9, x10, x11, some (.ref p), some (.ref q), x14, x15, x16, x17, x18, x19, x20, x21, x22, x23, x24] h =
      .nx [some d0, some d1, some (.int more), some d3, some d4, some d5, some d6, some d7, x8, x9, x10, x11, some (.ref p), some (.ref q), some (NI j), x15, x16, x17, x18, x19, x20, x21, x22, x23, x24] ((h.set p (.lst (l'.map NI))).set q (.lst ((turn ++ [x]).map NI))) := by
  have dr := drawn_ok more (60 + ((j : Nat) : Int)) h
  have h0 := drawn_nn more (60 + ((j : Nat) : Int))
  generalize drawn more (60 + ((j : Nat) : Int)) = H at dr h0
  obtain ⟨i, hi, ei⟩ : ∃ i : Nat, i < left.length ∧ (H / 16) % ((left.length : Nat) : Int) = ((i : Nat) : Int) := by
    have a := Int.emod_nonneg (H / 16) (show ((left.length : Nat) : Int) ≠ 0 by omega)
    have b := Int.emod_lt_of_pos (H / 16) (show 0 < ((left.length : Nat) : Int) by omega)
    exact ⟨((H / 16) % ((left.length : Nat) : Int)).toNat, by omega, by omega⟩
  have e1 : lenD [.ref p] h = .ok (.int ((left.length : Nat) : Int)) h := by rw [len_ref hp, List.length_map]
  have e2 : modD (.int (H / 16)) (.int ((left.length : Nat) : Int)) h = .ok (NI i) h := by rw [modI_e (by omega), ei]
  have e3 := pop_nat (i := i) (x := NI left[i]) hp (by rw [List.getElem?_map, List.getElem?_eq_getElem hi]; rfl) (by rw [List.length_map]; omega)
  have fd : fdivD (.int H) (.int 16) h = .ok (.int (H / 16)) h := fdivI_e (by decide) (by decide +kernel)
  refine ⟨left[i], left.eraseIdx i, ?_, ?_⟩
  · exact erase_perm hi
  · rw [erase_map] at e3
    have hq2 : lstAt (h.set p (.lst ((left.eraseIdx i).map NI))) q = some (turn.map NI) := by rw [lstAt_set_ne hpq.symm]; exact hq
    have e4 := appD_nat (v := NI left[i]) hq2 (by rw [List.length_map]; omega)
    rw [List.map_append]
    show b_law_2 [some d0, some d1, some (.int more), some d3, some d4, some d5, some d6, some d7, x8, x9, x10, x11, some (.ref p), some (.ref q), some (NI j), x15, x16, x17, x18, x19, x20, x21, x22, x23, x24] h = _
    unfold b_law_2
    exact s_expr (r_bmR (r_var rfl) hq (r_consA (r_bmR (r_var rfl) hp (r_consA (r_op2 (r_op2 (r_callF (r_consA (r_var rfl) (r_consA (r_op2 r_c (r_var rfl) addI_e) r_nilA)) rfl dr) r_c fd) (r_callB (r_consA (r_var rfl) r_nilA) e1) e2) r_nilA) e3) r_nilA) e4)
theorem law2_loop {p q n : Nat} {d4 d5 d6 d7 : D} {more : Int} (hn : cs.length ≤ 60) (hp : lstAt h p = some ((List.range cs.length).map NI)) (hq : lstAt h q = some []) (hpq : p ≠ q) :
    ∃ (y14 : Option D) (turn : List Nat) (h' : IH), turn.Perm (List.range cs.length) ∧ lstAt h' q = some (turn.map NI) ∧ forS (rng1V (consA (callB lenD (consA (varE 3) (nilA))) (nilA))) (nameG 14) b_law_2 [some d0, some d1, some (.int more), some (.vl (cs.map clD)), some d4, some d5, some d6, some d7, x8, x9, x10, x11, some (.ref p), some (.ref q), x14, x15, x16, x17, x18, x19, x20, x21, x22, x23, x24] h =
      .nx [some d0, some d1, some (.int more), some (.vl (cs.map clD)), some d4, some d5, some d6, some d7, x8, x9, x10, x11, some (.ref p), some (.ref q), y14, x15, x16, x17, x18, x19, x20, x21, x22, x23, x24] h' := by
  have el : lenD [.vl (cs.map clD)] h = .ok (NI cs.length) h := by rw [p_len, List.length_map]
  obtain ⟨en', h', e, y14, left, turn, rfl, f1, f2, f3, f4⟩ := for_run (fi := rng1V (consA (callB lenD (consA (varE 3) (nilA))) (nilA))) (gf := nameG 14) (b := b_law_2) (en := [some d0, some d1, some (.int more), some (.vl (cs.map clD)), some d4, some d5, some d6, some d7, x8, x9, x10, x11, some (.ref p), some (.ref q), x14, x15, x16, x17, x18, x19, x20, x21, x22, x23, x24]) (h := h) (List.range cs.length) NI
    (fun n en hh => ∃ (y14 : Option D) (left turn : List Nat), en = [some d0, some d1, some (.int more), some (.vl (cs.map clD)), some d4, some d5, some d6, some d7, x8, x9, x10, x11, some (.ref p), some (.ref q), y14, x15, x16, x17, x18, x19, x20, x21, x22, x23, x24] ∧ lstAt hh p = some (left.map NI) ∧ lstAt hh q = some (turn.map NI) ∧ (left ++ turn).Perm (List.range cs.length) ∧ turn.length = n)
    (r_rng (r_callB (r_consA (r_var rfl) r_nilA) el) (by omega)) (fun _ => rfl) ⟨_, List.range cs.length, [], rfl, hp, hq, by rw [List.append_nil], rfl⟩ (by
      rintro n j en hh hj ⟨y14, left, turn, rfl, g1, g2, g3, g4⟩
      have hnl := (List.getElem?_eq_some_iff.mp hj).1
      rw [List.length_range] at hnl
      have hlen := g3.length_eq
      rw [List.length_append, List.length_range] at hlen
      obtain ⟨x, l', hx, s⟩ := law2 (d0 := d0) (d1 := d1) (d3 := .vl (cs.map clD)) (d4 := d4) (d5 := d5) (d6 := d6) (d7 := d7) (more := more) (j := j) (x8 := x8) (x9 := x9) (x10 := x10) (x11 := x11) (x14 := y14) (x15 := x15) (x16 := x16) (x17 := x17) (x18 := x18) (x19 := x19) (x20 := x20) (x21 := x21) (x22 := x22) (x23 := x23) (x24 := x24) g1 g2 hpq (by omega) (by omega) (by omega)
      refine ⟨_, _, .inl s, _, l', turn ++ [x], rfl, ?_, ?_, ?_, by rw [List.length_append, g4]; rfl⟩
      · rw [lstAt_set_ne hpq, lstAt_set (getL_lt g1)]
      · rw [lstAt_set (by rw [List.length_set]; exact getL_lt g2)]
      · refine List.Perm.trans ?_ g3
        have a1 : (l' ++ (turn ++ [x])).Perm (x :: (l' ++ turn)) := by
          rw [← List.append_assoc]
          exact List.perm_append_singleton x (l' ++ turn)
        exact a1.trans (hx.symm.append_right turn))
  have hlen := f3.length_eq
  rw [List.length_append, List.length_range, f4, List.length_range] at hlen
  have : left = [] := List.eq_nil_of_length_eq_zero (by omega)
  subst this
  exact ⟨y14, turn, h', f3, f2, e⟩
end
end HR

namespace HR
section
variable {cs : List Cl} {K L B : Nat} {d0 d1 d2 : D} {en : En} {h : IH}
theorem l_turn {turn : List Nat} {q : Nat} (hq : lstAt h q = some (turn.map NI)) (hp : turn.Perm (List.range cs.length)) (hn : cs.length ≤ 60) (e3 : en[3]? = some (some (.vl (cs.map clD)))) (e13 : en[13]? = some (some (.ref q))) (hl : en.length = 25) :
    lcE false (seqV (varE 13)) (.one 23) (yesT) (op2 ixD (varE 3) (varE 23)) [23] en h = .ok (.vl ((turn.map fun i => cs.getD i default).map clD)) h := by
  rw [List.map_map]
  refine r_lc1 turn NI _ (r_seqV (r_var e13) hq) hq (by rw [hp.length_eq, List.length_range]; omega) fun i hi => ⟨_, rfl, ?_⟩
  have hi := List.mem_range.mp (hp.mem_iff.mp hi)
  refine r_op2 (x := .vl (cs.map clD)) (y := NI i) (h1 := h) (h2 := h) (r_var ?_) (r_var ?_) (p_ix ?_)
  · rw [List.getElem?_set_ne (by decide)]
    show (wipeE en [23])[3]? = _
    unfold wipeE wipeE
    rw [List.getElem?_set_ne (by decide)]
    exact e3
  · rw [List.getElem?_set_self (by rw [wipeE_length, hl]; decide)]
  · rw [List.getElem?_map, List.getElem?_eq_getElem hi]
    show some (clD _) = some (clD (cs.getD i default))
    rw [List.getD_eq_getElem?_getD, List.getElem?_eq_getElem hi]
    rfl
theorem l_told {turn : List Nat} {q n : Nat} {R : List Rs} (hq : lstAt h q = some (turn.map NI)) (hp : turn.Perm (List.range n)) (hR : R.length = n) (hn : n ≤ 60) (e7 : en[7]? = some (some (.vl (R.map rsW)))) (e13 : en[13]? = some (some (.ref q))) (hl : en.length = 25) :
    lcE false (seqV (varE 13)) (.one 23) (yesT) (op2 ixD (varE 7) (varE 23)) [23] en h = .ok (.vl ((turn.map fun i => rFn R i).map rsW)) h := by
  rw [List.map_map]
  refine r_lc1 turn NI _ (r_seqV (r_var e13) hq) hq (by rw [hp.length_eq, List.length_range]; omega) fun i hi => ⟨_, rfl, ?_⟩
  have hi := List.mem_range.mp (hp.mem_iff.mp hi)
  refine r_op2 (x := .vl (R.map rsW)) (y := NI i) (h1 := h) (h2 := h) (r_var ?_) (r_var ?_) (p_ix ?_)
  · rw [List.getElem?_set_ne (by decide)]
    show (wipeE en [23])[7]? = _
    unfold wipeE wipeE
    rw [List.getElem?_set_ne (by decide)]
    exact e7
  · rw [List.getElem?_set_self (by rw [wipeE_length, hl]; decide)]
  · have hi : i < R.length := by omega
    rw [List.getElem?_map, List.getElem?_eq_getElem hi]
    show some (rsW _) = some (rsW (rFn R i))
    unfold rFn
    rw [List.getD_eq_getElem?_getD, List.getElem?_eq_getElem hi]
    rfl
theorem rng19 {en : En} : lrg2E false (cE (.int 1)) (cE (.int 9)) en h = .ok (.vl ((List.range' 1 8).map NI)) h := by
  unfold lrg2E
  rw [cE_e, Out.bind_ok, cE_e, Out.bind_ok]
  dsimp only
  have : grd (inB 1 && inB 9 && decide ((9 : Int) - 1 ≤ 16777216)) (outL false (rangeL 1 ((9 : Int) - 1).toNat) h) = .ok (.vl ((List.range' 1 8).map NI)) h := by
    rw [show (inB 1 && inB 9 && decide ((9 : Int) - 1 ≤ 16777216)) = true from by decide +kernel, grd_true, outL_f]
    rfl
  exact this
theorem lrg1_ref {f : ME} {en : En} {h h1 : IH} {n : Nat} (e : f en h = .ok (NI n) h1) (hn : n ≤ 5000) : lrg1E true f en h = .ok (.ref h1.length) (h1 ++ [.lst ((List.range n).map NI)]) := by
  unfold lrg1E
  rw [e, Out.bind_ok]
  dsimp only
  have : grd (inB ((n : Nat) : Int) && decide (((n : Nat) : Int) ≤ 16777216)) (outL true (rangeL 0 ((n : Nat) : Int).toNat) h1) = .ok (.ref h1.length) (h1 ++ [.lst ((List.range n).map NI)]) := by
    have hb : (inB ((n : Nat) : Int) && decide (((n : Nat) : Int) ≤ 16777216)) = true := by
      simp only [inB, Bool.and_eq_true, decide_eq_true_eq]
      omega
    rw [hb, grd_true, outL_t, Int.toNat_natCast, rangeL_NI]
  exact this
theorem ex_last (cs : List Cl) : ∃ M, maxD (.vl ((0 :: cs.map fun c => c.t + c.z).map NI)) h = .ok (NI M) h ∧ (M = 0 ∨ ∃ c ∈ cs, M = c.t + c.z) ∧ ∀ c ∈ cs, c.t + c.z ≤ M := by
  obtain ⟨M, h1, h2⟩ := exists_max (fun x : Nat => x) (l := 0 :: cs.map fun c => c.t + c.z) (by simp)
  refine ⟨M, maxD_nat h1 h2, ?_, fun c hc => h2 _ (List.mem_cons_of_mem _ (List.mem_map.mpr ⟨c, hc, rfl⟩))⟩
  rcases List.mem_cons.mp h1 with e | e
  · exact .inl e
  · obtain ⟨c, hc, rfl⟩ := List.mem_map.mp e
    exact .inr ⟨c, hc, rfl⟩
theorem in_ticks (neg : Bool) (x : Nat) (cs : List Cl) (h : IH) : inD neg (NI x) (.vl (cs.map fun c => NI c.t)) h = .ok (.bl (if neg then !((cs.map (·.t)).contains x) else (cs.map (·.t)).contains x)) h := by
  have := in_nat neg x (cs.map (·.t)) h
  rw [List.map_map] at this
  exact this
theorem behind_valid {cs : List Cl} (H : Hrs cs) {M : Nat} (hM : M = 0 ∨ ∃ c ∈ cs, M = c.t + c.z) : Valid (cs ++ [⟨0, 19, M, 5⟩]) := by
  have v := H.valid
  refine ⟨by rw [List.length_append]; have := H.len; simp; omega, fun c hc => ?_⟩
  rcases List.mem_append.mp hc with hc | hc
  · exact v.all c hc
  · have : c = ⟨0, 19, M, 5⟩ := by simpa using hc
    subst this
    refine ⟨by simp, by simp, by simp, ?_, by simp, by simp⟩
    show M ≤ 10000
    rcases hM with e | ⟨c, hc, e⟩
    · omega
    · have := H.mem hc
      omega
variable {ns : List Int} {k : Nat} {more : Int} {x2 x3 x4 x5 x6 x7 x8 x9 x10 x11 x12 x13 x14 x15 x16 x17 x18 x19 x20 x21 x22 x23 x24 : Option D}
theorem law_v0 {M : Nat} (H : Hrs cs) (hK : K ≤ 8) (hM : M = 0 ∨ ∃ c ∈ cs, M = c.t + c.z) (hb : ∀ c ∈ cs, c.t + c.z ≤ M) (e3 : en[3]? = some (some (.vl (cs.map clD)))) (e4 : en[4]? = some (some (NI K))) (e7 : en[7]? = some (some (.vl ((ledR K cs).map rsW)))) (e16 : en[16]? = some (some (NI M))) : v_law_0 en h = .ok false h := by
  have hn := H.len
  have c1 := carried_ok (behind_valid H hM) hK h
  rw [ledR_behind (e := ⟨0, 19, M, 5⟩) fun c hc => ⟨hb c hc, (H.mem hc).2.2.2.2.1⟩, List.map_append] at c1
  have a1 : addD false (.vl (cs.map clD)) (.vl [.tup [.int 0, .int 19, NI M, .int 5]]) h = .ok (.vl ((cs ++ [(⟨0, 19, M, 5⟩ : Cl)]).map clD)) h := by
    rw [p_cat (by rw [List.length_map]; simp; omega), List.map_append]
    rfl
  have a2 : ∀ x : Rs, addD false (.vl ((ledR K cs).map rsW)) (.vl [rsW x]) h = .ok (.vl ((ledR K cs ++ [x]).map rsW)) h := fun x => by
    rw [p_cat (by rw [List.length_map, ledR_len]; simp; omega), List.map_append]
    rfl
  have a3 : op2 (addD false) (varE 7) (iteE (tst (op2 gtD (varE 4) (cE (.int 0)))) (lstE false (consA (cE (.int 0)) (nilA))) (lstE false (consA (cE (.wd 25)) (nilA)))) en h = .ok (.vl ((ledR K cs ++ [if 0 < K then Rs.cord 0 else Rs.lost]).map rsW)) h := by
    have g := gt_nat K 0 h
    by_cases q : 0 < K
    · rw [if_pos q]
      rw [decide_eq_true q] at g
      exact r_op2 (r_var e7) (r_iteT (r_tst (r_op2 (r_var e4) r_c g)) (r_lst (r_consA r_c r_nilA) (len_le rfl))) (a2 (.cord 0))
    · rw [if_neg q]
      rw [decide_eq_false q] at g
      exact r_op2 (r_var e7) (r_iteF (r_tst (r_op2 (r_var e4) r_c g)) (r_lst (r_consA r_c r_nilA) (len_le rfl))) (a2 .lost)
  unfold v_law_0
  rw [← List.map_append] at c1
  exact r_tst (r_op2 (r_callF (r_consA (r_op2 (r_var e3) (r_lst (r_consA (r_tup (r_consA r_c (r_consA r_c (r_consA (r_var e16) (r_consA r_c r_nilA)))) (len_le rfl)) r_nilA) (len_le rfl)) a1) (r_consA (r_var e4) r_nilA)) rfl c1) a3 ne_told)
theorem law_v1 (v : Valid cs) (e3 : en[3]? = some (some (.vl (cs.map clD)))) : v_law_1 en h = .ok false h := by
  have f := fewest_ok v h
  have i := in_nat false (need cs) (List.range' 1 8) h
  unfold v_law_1
  by_cases q : 1 ≤ need cs ∧ need cs ≤ 8
  · have e : (List.range' 1 8).contains (need cs) = true := by
      rw [List.contains_iff_mem, List.mem_range'_1]
      omega
    rw [e] at i
    have s1 : subD (NI (need cs)) (.int 1) h = .ok (NI (need cs - 1)) h := sub_nat (y := 1) q.1 h
    have c1 := carried_ok v (k := need cs - 1) (by omega) h
    refine r_andT (r_tst (r_op2 (r_callF (r_consA (r_var e3) r_nilA) rfl f) rng19 i)) (r_tst (r_op2 r_c (r_callF (r_consA (r_var e3) (r_consA (r_op2 (r_callF (r_consA (r_var e3) r_nilA) rfl f) r_c s1) r_nilA)) rfl c1) ((in_lost true _ _).trans ?_)))
    rw [decide_eq_true (lost_mem (cs := cs) (by omega))]
    rfl
  · have e : (List.range' 1 8).contains (need cs) = false := by
      cases z : (List.range' 1 8).contains (need cs) with
      | false => rfl
      | true =>
        rw [List.contains_iff_mem, List.mem_range'_1] at z
        omega
    rw [e] at i
    exact r_andF (r_tst (r_op2 (r_callF (r_consA (r_var e3) r_nilA) rfl f) rng19 i))
theorem ne_cs_nil {cs : List Cl} {h : IH} : neD (.vl (cs.map clD)) (.vl []) h = .ok (.bl (!cs.isEmpty)) h := by
  rw [neD_L (xs := cs.map clD) (ys := []) rfl rfl (pls_all fun x hx => by obtain ⟨y, _, rfl⟩ := List.mem_map.mp hx; rfl) rfl (deps_all fun x hx => by obtain ⟨y, _, rfl⟩ := List.mem_map.mp hx; exact (by decide : (1 : Nat) ≤ 7)) (by decide)]
  cases cs <;> rfl
theorem law_most {g : Option (Nat × Nat)} (v : Valid cs) (q2 : g = none ↔ cs = []) (q3 : ∀ M T, g = some (M, T) → Top (rowsP cs (ledR 20 cs)) M T) (e3 : en[3]? = some (some (.vl (cs.map clD)))) (e17 : en[17]? = some (some (greatD g))) (e18 : en[18]? = some (some (.vl (cs.map fun c => NI c.t)))) :
    andT (tst (op2 neD (varE 3) (lstE false (nilA)))) (orT (tst (op2 neD (op2 ixD (varE 17) (cE (.int 0))) (callF 1 F_fewest (consA (varE 3) (nilA))))) (tst (op2 (inD true) (op2 ixD (varE 17) (cE (.int 1))) (varE 18)))) en h = .ok false h := by
  have nc := ne_cs_nil (cs := cs) (h := h)
  cases g with
  | none =>
    rw [q2.mp rfl] at nc e3
    exact r_andF (r_tst (r_op2 (r_var e3) (r_lst r_nilA (len_le rfl)) nc))
  | some p =>
    obtain ⟨M, T⟩ := p
    have tp := q3 M T rfl
    have hM := need_of_top v tp
    have e : cs.isEmpty = false := by
      cases cs with
      | nil => exact absurd (q2.mpr rfl) (by simp)
      | cons c l => rfl
    rw [e] at nc
    have i0 : ixD (.tup [NI M, NI T]) (.int 0) h = .ok (NI M) h := p_ixT (i := 0) rfl
    have i1 : ixD (.tup [NI M, NI T]) (.int 1) h = .ok (NI T) h := p_ixT (i := 1) rfl
    have f := fewest_ok v h
    have it := in_ticks true T cs h
    have e2 : (cs.map (·.t)).contains T = true := by
      rw [List.contains_iff_mem]
      obtain ⟨c, h1, _, h3⟩ := tp.is
      obtain ⟨i, hi, e, _⟩ := (mem_rowsP (ledR_len 20 cs)).mp h1
      exact List.mem_map.mpr ⟨c, by rw [← e]; exact getD_in hi, h3⟩
    rw [e2] at it
    exact r_andT (r_tst (r_op2 (r_var e3) (r_lst r_nilA (len_le rfl)) nc)) (r_orF (r_tst (r_op2 (r_op2 (r_var e17) r_c i0) (r_callF (r_consA (r_var e3) r_nilA) rfl f) ((ne_NI _ _ _).trans (by rw [decide_eq_true hM]; rfl)))) (r_tst (r_op2 (r_op2 (r_var e17) r_c i1) (r_var e18) it)))
theorem law_enough (v : Valid cs) (e3 : en[3]? = some (some (.vl (cs.map clD)))) : andT (tst (op2 ltD (callF 1 F_fewest (consA (varE 3) (nilA))) (cE (.int 9)))) (tst (op2 (inD false) (cE (.wd 25)) (callF 2 F_carried (consA (varE 3) (consA (callF 1 F_fewest (consA (varE 3) (nilA))) (nilA)))))) en h = .ok false h := by
  have f := fewest_ok v h
  have g := lt_nat (need cs) 9 h
  by_cases q : need cs < 9
  · rw [decide_eq_true q] at g
    have c1 := carried_ok v (k := need cs) (by omega) h
    rw [ledR_same v (Nat.le_refl _)] at c1
    refine r_andT (r_tst (r_op2 (r_callF (r_consA (r_var e3) r_nilA) rfl f) r_c g)) (r_tst (r_op2 r_c (r_callF (r_consA (r_var e3) (r_consA (r_callF (r_consA (r_var e3) r_nilA) rfl f) r_nilA)) rfl c1) ((in_lost false _ _).trans ?_)))
    rw [decide_eq_false fun z => no_lost v _ z rfl]
    rfl
  · rw [decide_eq_false q] at g
    exact r_andF (r_tst (r_op2 (r_callF (r_consA (r_var e3) r_nilA) rfl f) r_c g))
theorem perm_valid {cs : List Cl} (v : Valid cs) {turn : List Nat} (hp : turn.Perm (List.range cs.length)) : Valid (turn.map fun i => cs.getD i default) := ⟨by rw [List.length_map, hp.length_eq, List.length_range]; exact v.len, fun c hc => by
  obtain ⟨i, hi, rfl⟩ := List.mem_map.mp hc
  exact v.all _ (getD_in (List.mem_range.mp (hp.mem_iff.mp hi)))⟩
theorem law0 (hk : k < 4) (hns : ns.length ≤ 63) : ∃ y2 y3 y4 y5 y6 y7 y8 y9 y10 y11 y12 y13 y14 y15 y16 y17 y18 y19 y20 y21 y22 y23 y24 h', b_law_0 [some (.fl (ns.map .int)), some (NI k), x2, x3, x4, x5, x6, x7, x8, x9, x10, x11, x12, x13, x14, x15, x16, x17, x18, x19, x20, x21, x22, x23, x24] h =
    .nx [some (.fl (ns.map .int)), some (NI k), y2, y3, y4, y5, y6, y7, y8, y9, y10, y11, y12, y13, y14, y15, y16, y17, y18, y19, y20, y21, y22, y23, y24] h' := by
  have k1 := cell_ok ns k h (by omega) hns
  have k2 := drawn_ok (cell ns k) k h
  generalize drawn (cell ns k) k = more at *
  have k3 := drawn_ok more 1 h
  generalize drawn more 1 = more2 at *
  obtain ⟨cs, e1, e2, e3⟩ := hours_ok (more := more2) h
  have H : Hrs cs := ⟨e2, e3⟩
  have v := H.valid
  obtain ⟨K, hK, eK⟩ : ∃ K : Nat, K ≤ 4 ∧ more / 16 % 5 = ((K : Nat) : Int) := ⟨(more / 16 % 5).toNat, by omega, by omega⟩
  obtain ⟨L, hL, eL⟩ : ∃ L : Nat, L < 5000 ∧ more / 128 % 5000 = ((L : Nat) : Int) := ⟨(more / 128 % 5000).toNat, by omega, by omega⟩
  obtain ⟨B, hB, eB⟩ : ∃ B : Nat, (0 < B ∧ B ≤ 8) ∧ 2 + more / 512 % 7 = ((B : Nat) : Int) := ⟨(2 + more / 512 % 7).toNat, by omega, by omega⟩
  have fdv : ∀ q : Int, 0 < q → q.natAbs.log2 < 9000 → fdivD (.int more) (.int q) h = .ok (.int (more / q)) h := fun q a b => fdivI_e a b
  have mK : modD (.int (more / 16)) (.int 5) h = .ok (NI K) h := by rw [modI_e (by decide), eK]
  have mL : modD (.int (more / 128)) (.int 5000) h = .ok (NI L) h := by rw [modI_e (by decide), eL]
  have mB : addD false (.int 2) (.int (more / 512 % 7)) h = .ok (NI B) h := by rw [addI_e, eB]
  have m7 : modD (.int (more / 512)) (.int 7) h = .ok (.int (more / 512 % 7)) h := modI_e (by decide)
  have d16 := fdv 16 (by decide) (by decide +kernel)
  have d128 := fdv 128 (by decide) (by decide +kernel)
  have d512 := fdv 512 (by decide) (by decide +kernel)
  have c1 := carried_ok v (k := K) (by omega) h
  have hz : cs.length ≤ 900 := by omega
  have v1 : Valid (cs.map (shift L)) := valid_map (by omega) fun c hc => by
    obtain ⟨h1, h2, h3, h4, h5, h6⟩ := H.mem hc
    exact ⟨(by show c.a < 20; omega), (by show c.b < 20; omega), h3, (by show c.t + L ≤ 10000; omega), h5, (by show c.z ≤ 1000; omega)⟩
  have v2 : Valid (cs.map (scale B)) := valid_map (by omega) fun c hc => by
    obtain ⟨h1, h2, h3, h4, h5, h6⟩ := H.mem hc
    have a1 : c.t * B ≤ 139 * 8 := Nat.mul_le_mul h4 hB.2
    have a2 : c.z * B ≤ 40 * 8 := Nat.mul_le_mul h6 hB.2
    have a3 : 1 * 1 ≤ c.z * B := Nat.mul_le_mul h5 hB.1
    exact ⟨(by show c.a < 20; omega), (by show c.b < 20; omega), h3, (by show c.t * B ≤ 10000; omega), (by show 1 ≤ c.z * B; omega), (by show c.z * B ≤ 1000; omega)⟩
  have v3 : Valid (cs.map turned) := valid_map (by omega) fun c hc => by
    obtain ⟨h1, h2, h3, h4, h5, h6⟩ := H.mem hc
    exact ⟨(by show 19 - c.b < 20; omega), (by show 19 - c.a < 20; omega), (by show 19 - c.b ≠ 19 - c.a; omega), (by show c.t ≤ 10000; omega), h5, (by show c.z ≤ 1000; omega)⟩
  have A1 := alike_shift L cs
  have A2 := alike_scale hB.1 cs
  have A3 := alike_turned (cs := cs) fun c hc => by
    obtain ⟨h1, h2, _⟩ := H.mem hc
    omega
  have f3 := fewest_ok v h
  have hd : ∀ d ∈ [D.vl ((cs.map (shift L)).map clD), .vl ((cs.map (scale B)).map clD), .vl ((cs.map turned).map clD)], F_carried [d, NI K] h = .ok (.vl ((ledR K cs).map rsW)) h ∧ F_fewest [d] h = .ok (NI (need cs)) h := by
    intro d hd
    simp only [List.mem_cons, List.not_mem_nil, or_false] at hd
    rcases hd with rfl | rfl | rfl
    · have a := carried_ok v1 (k := K) (by omega) h
      have b := fewest_ok v1 h
      rw [ledR_alike A1] at a
      rw [need_alike A1] at b
      exact ⟨a, b⟩
    · have a := carried_ok v2 (k := K) (by omega) h
      have b := fewest_ok v2 h
      rw [ledR_alike A2] at a
      rw [need_alike A2] at b
      exact ⟨a, b⟩
    · have a := carried_ok v3 (k := K) (by omega) h
      have b := fewest_ok v3 h
      rw [ledR_alike A3] at a
      rw [need_alike A3] at b
      exact ⟨a, b⟩
  have l1 := l_later (cs := cs) (K := K) (L := L) (B := B) (d0 := .fl (ns.map .int)) (d1 := NI k) (d2 := .int more) (x7 := some (.vl ((ledR K cs).map rsW))) (x8 := x8) (x9 := x9) (x10 := x10) (x11 := x11) (x12 := x12) (x13 := x13) (x14 := x14) (x15 := x15) (x16 := x16) (x17 := x17) (x18 := x18) (x19 := x19) (x20 := x20) (x21 := x21) (x22 := x22) (x23 := x23) (x24 := x24) (h := h) hz
  have l2 := l_wider (cs := cs) (K := K) (L := L) (B := B) (d0 := .fl (ns.map .int)) (d1 := NI k) (d2 := .int more) (x7 := some (.vl ((ledR K cs).map rsW))) (x8 := some (.vl ((cs.map (shift L)).map clD))) (x9 := x9) (x10 := x10) (x11 := x11) (x12 := x12) (x13 := x13) (x14 := x14) (x15 := x15) (x16 := x16) (x17 := x17) (x18 := x18) (x19 := x19) (x20 := x20) (x21 := x21) (x22 := x22) (x23 := x23) (x24 := x24) (h := h) hz fun c hc => by
    obtain ⟨h1, h2, h3, h4, h5, h6⟩ := H.mem hc
    omega
  have l3 := l_others (cs := cs) (K := K) (L := L) (B := B) (d0 := .fl (ns.map .int)) (d1 := NI k) (d2 := .int more) (x7 := some (.vl ((ledR K cs).map rsW))) (x8 := some (.vl ((cs.map (shift L)).map clD))) (x9 := some (.vl ((cs.map (scale B)).map clD))) (x10 := x10) (x11 := x11) (x12 := x12) (x13 := x13) (x14 := x14) (x15 := x15) (x16 := x16) (x17 := x17) (x18 := x18) (x19 := x19) (x20 := x20) (x21 := x21) (x22 := x22) (x23 := x23) (x24 := x24) (h := h) hz fun c hc => by
    obtain ⟨h1, h2, h3, h4, h5, h6⟩ := H.mem hc
    omega
  obtain ⟨y11, lp1⟩ := law1_loop (d0 := .fl (ns.map .int)) (d1 := NI k) (d2 := .int more) (K := K) (L := L) (B := B) (x8 := some (.vl ((cs.map (shift L)).map clD))) (x9 := some (.vl ((cs.map (scale B)).map clD))) (x10 := some (.vl ((cs.map turned).map clD))) (x11 := x11) (x12 := x12) (x13 := x13) (x14 := x14) (x15 := x15) (x16 := x16) (x17 := x17) (x18 := x18) (x19 := x19) (x20 := x20) (x21 := x21) (x22 := x22) (x23 := x23) (x24 := x24) _ hd f3 (seqV (lstE false (consA (varE 8) (consA (varE 9) (consA (varE 10) (nilA)))))) (r_seqV (r_lst (r_consA (r_var rfl) (r_consA (r_var rfl) (r_consA (r_var rfl) r_nilA))) (len_le rfl)) rfl)
  have p1 : lstAt (h ++ [O.lst ((List.range cs.length).map NI)] ++ [.lst []]) h.length = some ((List.range cs.length).map NI) := lstAt_app lstAt_last
  have p2 : lstAt (h ++ [O.lst ((List.range cs.length).map NI)] ++ [.lst []]) (h ++ [O.lst ((List.range cs.length).map NI)]).length = some [] := lstAt_last
  obtain ⟨y14, turn, h2, hp, hq, lp2⟩ := law2_loop (cs := cs) (n := 0) (d0 := .fl (ns.map .int)) (d1 := NI k) (more := more) (d4 := NI K) (d5 := NI L) (d6 := NI B) (d7 := .vl ((ledR K cs).map rsW)) (x8 := some (.vl ((cs.map (shift L)).map clD))) (x9 := some (.vl ((cs.map (scale B)).map clD))) (x10 := some (.vl ((cs.map turned).map clD))) (x11 := y11) (x14 := x14) (x15 := x15) (x16 := x16) (x17 := x17) (x18 := x18) (x19 := x19) (x20 := x20) (x21 := x21) (x22 := x22) (x23 := x23) (x24 := x24) (by omega) p1 p2 (by simp)
  have c2 := carried_ok (perm_valid v hp) (k := K) (by omega) h2
  rw [ledR_perm hp H.apart] at c2
  obtain ⟨M, mM, hM, hb⟩ := ex_last (h := h2) cs
  obtain ⟨g, q1, q2, q3⟩ := greatest_ok v h2
  have lg : lrg1E true (callB lenD (consA (varE 3) nilA)) [some (.fl (ns.map .int)), some (NI k), some (.int more), some (.vl (cs.map clD)), some (NI K), some (NI L), some (NI B), some (.vl ((ledR K cs).map rsW)), some (.vl ((cs.map (shift L)).map clD)), some (.vl ((cs.map (scale B)).map clD)), some (.vl ((cs.map turned).map clD)), y11, x12, x13, x14, x15, x16, x17, x18, x19, x20, x21, x22, x23, x24] h = .ok (.ref h.length) (h ++ [.lst ((List.range cs.length).map NI)]) := lrg1_ref (r_callB (r_consA (r_var rfl) r_nilA) (by rw [p_len, List.length_map])) (by omega)
  refine ⟨some (.int more), some (.vl (cs.map clD)), some (NI K), some (NI L), some (NI B), some (.vl ((ledR K cs).map rsW)), some (.vl ((cs.map (shift L)).map clD)), some (.vl ((cs.map (scale B)).map clD)), some (.vl ((cs.map turned).map clD)), y11, some (.ref h.length), some (.ref (h ++ [O.lst ((List.range cs.length).map NI)]).length), y14, some (.vl ((turn.map fun i => rFn (ledR K cs) i).map rsW)), some (NI M), some (greatD g), some (.vl (cs.map fun c => NI c.t)), x19, x20, x21, x22, x23, x24, h2, ?_⟩
  unfold b_law_0
  refine s_seq (s_name (r_callF (r_consA (r_callF (r_consA (r_var rfl) (r_consA (r_var rfl) r_nilA)) rfl k1) (r_consA (r_var rfl) r_nilA)) rfl k2) rfl) ?_
  refine s_seq (s_asg (r_tup (r_consA (r_callF (r_consA (r_callF (r_consA (r_var rfl) (r_consA r_c r_nilA)) rfl k3) r_nilA) rfl e1) (r_consA (r_op2 (r_op2 (r_var rfl) r_c d16) r_c mK) r_nilA)) (len_le rfl)) rfl) ?_
  refine s_seq (s_asg (r_tup (r_consA (r_op2 (r_op2 (r_var rfl) r_c d128) r_c mL) (r_consA (r_op2 r_c (r_op2 (r_op2 (r_var rfl) r_c d512) r_c m7) mB) r_nilA)) (len_le rfl)) rfl) ?_
  refine s_seq (s_name (r_callF (r_consA (r_var rfl) (r_consA (r_var rfl) r_nilA)) rfl c1) rfl) ?_
  refine s_seq (s_name l1 rfl) ?_
  refine s_seq (s_name l2 rfl) ?_
  refine s_seq (s_name l3 rfl) ?_
  refine s_seq lp1 ?_
  refine s_seq (s_par (r_consA lg (r_consA (r_lstT r_nilA (len_le rfl)) r_nilA)) rfl) ?_
  refine s_seq lp2 ?_
  refine s_seq (s_name (r_callF (r_consA (l_turn hq hp (by omega) rfl rfl rfl) (r_consA (r_var rfl) r_nilA)) rfl c2) rfl) ?_
  refine s_skip (r_tst (r_op2 (r_var rfl) (l_told hq hp (ledR_len K cs) (by omega) rfl rfl rfl) ne_told)) ?_
  refine s_seq (s_name (r_callB (r_consA (r_op2 (r_lst (r_consA r_c r_nilA) (len_le rfl)) (lc_calls (fun c => NI (c.t + c.z)) rfl hz fun c _ => r_op2 (r_var rfl) (r_var rfl) (p_add _ _ _ _)) (p_cat (by rw [List.length_map]; simp; omega))) r_nilA) (r_one (?mx : _ = Out.ok (NI M) h2))) rfl) ?_
  case mx =>
    rw [← mM, List.map_cons, List.map_map]
    rfl
  refine s_skip (law_v0 H (by omega) hM hb rfl rfl rfl rfl) ?_
  refine s_seq (s_name (r_callF (r_consA (r_var rfl) r_nilA) rfl q1) rfl) ?_
  refine s_seq (s_name (r_lc1 cs clD (fun c => NI c.t) (r_seqV (xs := cs.map clD) (r_var rfl) rfl) rfl (by omega) fun c _ => ⟨_, rfl, r_op2 (r_var rfl) r_c (ixCl c h2).2.2.1⟩) rfl) ?_
  refine s_skip (law_most v q2 q3 rfl rfl rfl) ?_
  refine s_skip (law_enough v rfl) ?_
  exact s_skip1 (law_v1 v rfl)
end
end HR
open HR in
theorem law_true : LawTrue F_law 63 := by
  intro ns hn _
  refine ⟨[], ?_⟩
  obtain ⟨m, hm, hlt⟩ : ∃ m : Nat, (if (if ((ns.length : Nat) : Int) < 3 then ((ns.length : Nat) : Int) else 3) > 1 then (if ((ns.length : Nat) : Int) < 3 then ((ns.length : Nat) : Int) else 3) else 1) = (m : Int) ∧ m ≤ 3 := by
    refine ⟨(if (if ((ns.length : Nat) : Int) < 3 then ((ns.length : Nat) : Int) else 3) > 1 then (if ((ns.length : Nat) : Int) < 3 then ((ns.length : Nat) : Int) else 3) else 1).toNat, ?_, ?_⟩ <;> split <;> split <;> omega
  have el : lenD [.fl (ns.map .int)] [] = .ok (.int ((ns.length : Nat) : Int)) [] := by
    have := lenD_e (h := []) (d := .fl (ns.map .int)) rfl
    rw [List.length_map] at this
    exact this
  have mn : min2 [.int 3, .int ((ns.length : Nat) : Int)] [] = .ok (.int (if ((ns.length : Nat) : Int) < 3 then ((ns.length : Nat) : Int) else 3)) [] := rfl
  have mx : max2 [.int 1, .int (if ((ns.length : Nat) : Int) < 3 then ((ns.length : Nat) : Int) else 3)] [] = .ok (NI m) [] := by
    show Out.ok (D.int _) [] = Out.ok (D.int ((m : Nat) : Int)) []
    rw [← hm]
  obtain ⟨en', h', e, rfl, y1, y2, y3, y4, y5, y6, y7, y8, y9, y10, y11, y12, y13, y14, y15, y16, y17, y18, y19, y20, y21, y22, y23, y24, rfl⟩ := for_run (fi := rng1V (consA (callB max2 (consA (cE (.int 1)) (consA (callB min2 (consA (cE (.int 3)) (consA (callB lenD (consA (varE 0) (nilA))) (nilA)))) (nilA)))) (nilA))) (gf := nameG 1) (b := cutS b_law_0) (en := [some (.fl (ns.map .int)), none, none, none, none, none, none, none, none, none, none, none, none, none, none, none, none, none, none, none, none, none, none, none, none]) (h := []) (List.range m) NI
    (fun n en hh => hh = [] ∧ ∃ y1 y2 y3 y4 y5 y6 y7 y8 y9 y10 y11 y12 y13 y14 y15 y16 y17 y18 y19 y20 y21 y22 y23 y24, en = [some (.fl (ns.map .int)), y1, y2, y3, y4, y5, y6, y7, y8, y9, y10, y11, y12, y13, y14, y15, y16, y17, y18, y19, y20, y21, y22, y23, y24])
    (r_rng (r_callB (r_consA r_c (r_consA (r_callB (r_consA r_c (r_consA (r_callB (r_consA (r_var rfl) r_nilA) el) r_nilA)) mn) r_nilA)) mx) (by omega)) (fun _ => rfl) ⟨rfl, _, _, _, _, _, _, _, _, _, _, _, _, _, _, _, _, _, _, _, _, _, _, _, _, rfl⟩ (by
      rintro n j en hh hj ⟨rfl, y1, y2, y3, y4, y5, y6, y7, y8, y9, y10, y11, y12, y13, y14, y15, y16, y17, y18, y19, y20, y21, y22, y23, y24, rfl⟩
      have hj := List.mem_range.mp (List.mem_of_getElem? hj)
      obtain ⟨z2, z3, z4, z5, z6, z7, z8, z9, z10, z11, z12, z13, z14, z15, z16, z17, z18, z19, z20, z21, z22, z23, z24, h', ef⟩ := law0 (x2 := y2) (x3 := y3) (x4 := y4) (x5 := y5) (x6 := y6) (x7 := y7) (x8 := y8) (x9 := y9) (x10 := y10) (x11 := y11) (x12 := y12) (x13 := y13) (x14 := y14) (x15 := y15) (x16 := y16) (x17 := y17) (x18 := y18) (x19 := y19) (x20 := y20) (x21 := y21) (x22 := y22) (x23 := y23) (x24 := y24) (h := []) (ns := ns) (k := j) (by omega) hn
      have := cut_nil ef
      rw [List.map_cons, clo_script] at this
      exact ⟨_, _, .inl this, rfl, _, _, _, _, _, _, _, _, _, _, _, _, _, _, _, _, _, _, _, _, _, _, _, _, rfl⟩)
  refine fnC_rt (d := .bl true) (h' := []) ?_ rfl (fz_cl rfl)
  show b_law [some (.fl (ns.map .int)), none, none, none, none, none, none, none, none, none, none, none, none, none, none, none, none, none, none, none, none, none, none, none, none] [] = _
  unfold b_law
  exact s_seq e (s_ret r_c)

end GK

set_option Elab.async false
set_option linter.all false
set_option maxRecDepth 100000
set_option maxHeartbeats 0
namespace GK
open PySem PySem.Spec PyProof.Rows L2 DL HotX L2H
abbrev R : PySem.W.OpenRow := PySem.W.OpenLaw.row PySem.Challenge.rw_cordboard_k32_whole_hours_moved
def fn : List He.DefD := [⟨("_law_cell", none), "_law_cell", "_law_cell", defArgs st__law_cell, defBody st__law_cell, defScope st__law_cell, [], []⟩, ⟨("_law_drawn", none), "_law_drawn", "_law_drawn", defArgs st__law_drawn, defBody st__law_drawn, defScope st__law_drawn, [], []⟩, ⟨("_law_hours", none), "_law_hours", "_law_hours", defArgs st__law_hours, defBody st__law_hours, defScope st__law_hours, [], []⟩, ⟨("is_count", none), "is_count", "is_count", defArgs st_is_count, defBody st_is_count, defScope st_is_count, [], []⟩, ⟨("is_call", none), "is_call", "is_call", defArgs st_is_call, defBody st_is_call, defScope st_is_call, [], []⟩, ⟨("need_calls", none), "need_calls", "need_calls", defArgs st_need_calls, defBody st_need_calls, defScope st_need_calls, [], []⟩, ⟨("led", none), "led", "led", defArgs st_led, defBody st_led, defScope st_led, [], []⟩, ⟨("carried", none), "carried", "carried", defArgs st_carried, defBody st_carried, defScope st_carried, [], []⟩, ⟨("fewest", none), "fewest", "fewest", defArgs st_fewest, defBody st_fewest, defScope st_fewest, [], []⟩, ⟨("greatest", none), "greatest", "greatest", defArgs st_greatest, defBody st_greatest, defScope st_greatest, [], []⟩, ⟨("law", none), "law", "law", defArgs st_law, defBody st_law, defScope st_law, [], []⟩]
def fa : List He.Fa := [.glo "_law_cell", .glo "_law_drawn", .glo "_law_hours", .glo "is_count", .glo "is_call", .glo "need_calls", .glo "led", .glo "carried", .glo "fewest", .glo "greatest", .glo "law", .free "all", .free "bool", .free "int", .free "isinstance", .free "len", .free "list", .free "max", .free "min", .free "range", .free "sorted", .free "tuple", .free "zip", .int "LATEST" 10000, .int "LONGEST" 1000, .int "MOST_CALLS" 60, .int "MOST_CORDS" 8, .int "MOST_LINES" 20, .glo "BadNumber", .exc "BadNumber", .glo "BadCalls", .exc "BadCalls"]
def tf : List (He.Defn × Str) := [(("led", none), "led.<locals>.<lambda>")]
def exb (K : PySem.W.Frag) : Bool := tabND K tf
abbrev hk : PySem.W.Hook := He.hookX 4 fa fn [] (tf.map (·.1)) exb
def ob (s : PySem.W.SharedT) : He.AlX := He.obsX 4 fa fn [] (tf.map (·.1)) exb (HandSHeadRun.getT s)
theorem ob_eq (s : PySem.W.SharedT) : ob s = hk.obs s.abs := He.obsX_eq (HandSHeadRun.getT_eq s)
def names0 : List PySem.Str := ["BoardError", "BadNumber", "BadCalls", "MOST_LINES", "MOST_CORDS", "is_count", "MOST_CALLS", "LATEST", "LONGEST", "is_call", "need_calls", "led", "carried", "fewest", "greatest", "_law_cell", "_law_drawn", "_law_hours"]
def names : List PySem.Str := names0
theorem run (w : World) : HandSHeadRun.RunEq R (PySem.W.view R.prog [22]) hk ob 6000 names w := by
  intro os
  kernel_rfl
theorem lamF {K : PySem.W.Frag} {h : Heap} {mg : Str → Option Value} {w : World} {base : Heap} (c : He.SaysX fa fn [] (tf.map (·.1)) exb w h K) (nd : tabND K tf = true) (hT : ∀ p ∈ tf.map (fun p => He.cT K p.1), LamX.TabB base mg p.1 p.2) {p : He.Defn × Str} (hp : p ∈ tf) {x q : Str} {ar : Arguments} {body : List Stmt} {sc : Scope} {fd : FuncData} (F : FunD K x q ar body sc [] [] (He.fAd K p.1) fd) : LamF base mg (tabL K tf) fd.code p.2 := by
  obtain ⟨oc, od, dV, kV, doc, pm, an, cdv, ct, osl, rfl, lk, hcd, _⟩ := F.ex
  obtain ⟨c0, rfl⟩ := He.codeIn_ref hcd
  have e := He.codeOf_eq lk rfl
  refine ⟨c0, (He.cT K p.1).2, rfl, ?_, List.mem_map.mpr ⟨p, hp, rfl⟩, tab_uniq (of_decide_eq_true nd) hp⟩
  have z := hT _ (List.mem_map.mpr ⟨p, hp, rfl⟩)
  have e1 : (He.cT K p.1).1 = c0 := e
  rw [e1] at z
  exact z
theorem facts {P : Program} {w : World} {K : PySem.W.Frag} {h : Heap} {mg : Str → Option Value} {base : Heap} (X : K.In h) (G : h.Ns mainGlobals mg) (c : He.SaysX fa fn [] (tf.map (·.1)) exb w h K) (hT : ∀ p ∈ tf.map (fun p => He.cT K p.1), LamX.TabB base mg p.1 p.2) : Fs P w K mg base (tabL K tf) := by
  have f := fun (i : Nat) {z : He.Fa} (q : fa[i]? = some z) => c.t.d.fact i q
  have hm := c.more
  unfold exb at hm
  exact {
    n_all := He.free_ok X G (f 11 (z := .free "all") rfl)
    n_bool := He.free_ok X G (f 12 (z := .free "bool") rfl)
    n_int := He.free_ok X G (f 13 (z := .free "int") rfl)
    n_isinstance := He.free_ok X G (f 14 (z := .free "isinstance") rfl)
    n_len := He.free_ok X G (f 15 (z := .free "len") rfl)
    n_list := He.free_ok X G (f 16 (z := .free "list") rfl)
    n_max := He.free_ok X G (f 17 (z := .free "max") rfl)
    n_min := He.free_ok X G (f 18 (z := .free "min") rfl)
    n_range := He.free_ok X G (f 19 (z := .free "range") rfl)
    n_sorted := He.free_ok X G (f 20 (z := .free "sorted") rfl)
    n_tuple := He.free_ok X G (f 21 (z := .free "tuple") rfl)
    n_zip := He.free_ok X G (f 22 (z := .free "zip") rfl)
    g_LATEST := GloIs.int (He.int_ok X G (f 23 (z := .int "LATEST" 10000) rfl))
    g_LONGEST := GloIs.int (He.int_ok X G (f 24 (z := .int "LONGEST" 1000) rfl))
    g_MOST_CALLS := GloIs.int (He.int_ok X G (f 25 (z := .int "MOST_CALLS" 60) rfl))
    g_MOST_CORDS := GloIs.int (He.int_ok X G (f 26 (z := .int "MOST_CORDS" 8) rfl))
    g_MOST_LINES := GloIs.int (He.int_ok X G (f 27 (z := .int "MOST_LINES" 20) rfl))
    e_11 := er_ok (He.glo_ok X G (f 28 (z := .glo "BadNumber") rfl)) (f 29 (z := .exc "BadNumber") rfl)
    e_16 := er_ok (He.glo_ok X G (f 30 (z := .glo "BadCalls") rfl)) (f 31 (z := .exc "BadCalls") rfl)
    d__law_cell := by
      obtain ⟨fd, F⟩ := c.t.d.def_ 0
      exact ⟨_, fd, F, He.glo_ok X G (f 0 (z := .glo "_law_cell") rfl)⟩
    d__law_drawn := by
      obtain ⟨fd, F⟩ := c.t.d.def_ 1
      exact ⟨_, fd, F, He.glo_ok X G (f 1 (z := .glo "_law_drawn") rfl)⟩
    d__law_hours := by
      obtain ⟨fd, F⟩ := c.t.d.def_ 2
      exact ⟨_, fd, F, He.glo_ok X G (f 2 (z := .glo "_law_hours") rfl)⟩
    d_is_count := by
      obtain ⟨fd, F⟩ := c.t.d.def_ 3
      exact ⟨_, fd, F, He.glo_ok X G (f 3 (z := .glo "is_count") rfl)⟩
    d_is_call := by
      obtain ⟨fd, F⟩ := c.t.d.def_ 4
      exact ⟨_, fd, F, He.glo_ok X G (f 4 (z := .glo "is_call") rfl)⟩
    d_need_calls := by
      obtain ⟨fd, F⟩ := c.t.d.def_ 5
      exact ⟨_, fd, F, He.glo_ok X G (f 5 (z := .glo "need_calls") rfl)⟩
    d_led := by
      obtain ⟨fd, F⟩ := c.t.d.def_ 6
      exact ⟨_, fd, F, He.glo_ok X G (f 6 (z := .glo "led") rfl), lamF c hm hT (p := (("led", none), "led.<locals>.<lambda>")) (List.mem_of_getElem? (i := 0) rfl) F⟩
    d_carried := by
      obtain ⟨fd, F⟩ := c.t.d.def_ 7
      exact ⟨_, fd, F, He.glo_ok X G (f 7 (z := .glo "carried") rfl)⟩
    d_fewest := by
      obtain ⟨fd, F⟩ := c.t.d.def_ 8
      exact ⟨_, fd, F, He.glo_ok X G (f 8 (z := .glo "fewest") rfl)⟩
    d_greatest := by
      obtain ⟨fd, F⟩ := c.t.d.def_ 9
      exact ⟨_, fd, F, He.glo_ok X G (f 9 (z := .glo "greatest") rfl)⟩
    d_law := by
      obtain ⟨fd, F⟩ := c.t.d.def_ 10
      exact ⟨_, fd, F, He.glo_ok X G (f 10 (z := .glo "law") rfl)⟩
  }
end GK
namespace GK
open PySem PySem.Spec PyProof.Rows L2 DL HotX L2H
theorem nd_of {w : World} {h : Heap} {K : PySem.W.Frag} (c : He.SaysX fa fn [] (tf.map (·.1)) exb w h K) : tabND K tf = true := by
  have hm := c.more
  unfold exb at hm
  exact hm
end GK

set_option Elab.async false
set_option linter.all false
set_option maxRecDepth 100000
set_option maxHeartbeats 0
open PySem PySem.W PySem.Calls PyProof.Rows
theorem PySem.Challenge.cw_cordboard_k32_whole_hours_moved_holds : PySem.Challenge.rw_cordboard_k32_whole_hours_moved.Holds := by
  w_on; o_law
  refine HandSHeadRun.head_any (r := OpenLaw.row PySem.Challenge.rw_cordboard_k32_whole_hours_moved) (q := view (OpenLaw.row PySem.Challenge.rw_cordboard_k32_whole_hours_moved).prog [22]) (H := GK.hk) (ob := GK.ob) (M := 6000) (loose := GK.names) (d := HandSHeadRun.topDef (OpenLaw.row PySem.Challenge.rw_cordboard_k32_whole_hours_moved).prog 22) (kwd := []) GK.ob_eq
    (by kernel_rfl) (fun s => by kernel_rfl) GK.run (by kernel_rfl) (by kernel_rfl) (by kernel_rfl) (by rfl) (by first | assumption | decide +kernel) (by decide +kernel) ⟨rfl, rfl, rfl, rfl, rfl, by decide +kernel⟩ ?hw ?hc
  case hw => w_witness2
  case hc =>
    refine LamX.walk_ofTsE (l := PySem.Challenge.rw_cordboard_k32_whole_hours_moved) (n := 63) (k := 5) (x := "script") (CX := fun w => L2N.CX PySem.Challenge.rw_cordboard_k32_whole_hours_moved.prog w) rfl (by decide) (by kernel_rfl) ⟨rfl, by decide, by decide⟩ ?F (fun w H s e s2 z => DL.noCX H s e s2 z)
    intro w mg fa h Y G hmg0
    obtain ⟨K, KX, c⟩ := Y
    have hmg : mg ("law" : PySem.Str) = some (.ref fa) := by
      have e : (HandSHeadRun.topDef (OpenLaw.row PySem.Challenge.rw_cordboard_k32_whole_hours_moved).prog 22).name = ("law" : PySem.Str) := by kernel_rfl
      rw [← e]
      exact hmg0
    have eg := hmg.symm.trans (He.glo_ok KX G (c.t.d.fact 10 (f := .glo "law") rfl))
    cases eg
    obtain ⟨fd, F⟩ := c.t.d.def_ 10
    have b := L2.FunD.bindsA (ps := ["script"]) F fun _ _ _ _ _ _ us hl => match us, hl with | [_], _ => rfl
    refine ⟨K, KX, fd, GK.tf.map (fun p => He.cT K p.1), DL.SpOf ⟨K, mg, DL.tabL K GK.tf⟩ 1 GK.F_law, ?_, ?_, ?_, fun s v => b s [v] rfl, ?_, ?_⟩
    · intro p hp
      obtain ⟨q, hq, rfl⟩ := List.mem_map.mp hp
      exact c.empty q.1 (List.mem_map.mpr ⟨q, hq, rfl⟩)
    · intro p hp
      obtain ⟨q, hq, rfl⟩ := List.mem_map.mp hp
      exact c.out q.1 (List.mem_map.mpr ⟨q, hq, rfl⟩)
    · intro p hp
      obtain ⟨q, hq, rfl⟩ := List.mem_map.mp hp
      exact PySem.W.codeHd_of_K KX (c.hd q.1 (List.mem_map.mpr ⟨q, hq, rfl⟩))
    · intro H a ns h1 h2 h3 h4
      refine DL.law_sp GK.law_true H a ns h1 h2 (fun p hp => ?_) h4
      obtain ⟨q, hq, rfl⟩ := List.mem_map.mp hp
      exact h3 _ (List.mem_map.mpr ⟨q, hq, rfl⟩)
    · intro base _ _ hT
      exact GK.ok_law (GK.facts KX G c hT) F
