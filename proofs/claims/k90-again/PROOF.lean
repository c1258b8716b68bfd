import PyProof.Rows.All
import Wide.All
import OpenK.AllK
import Wide.FinOn
import HandS.ForMost
import HandS.ForExc
import HandS.Lambda
import HandS.Wide
import HandS.TupAny
import HandS.IsInst
import HandS.Style
import HandS.Defaults
import HandS.ExcCtx
import HandS.Hot
import HandS.HotCalls
import HandS.ExcIs
import HandS.TryOnly
import HandS.HeadHook1
import HandS.Conv
import HandS.HeadHook4
import HandS.HeadWalk
import HandS.Words
import HandS.SortInts
import HandS.Dict
import HandS.More
import HandS.Strs
import HandS.SetFor
import HandS.ListEq
import HandS.Iter
import KE.SortData
import HandS.Finally
import PyProof.NeKinds
import HandS.Small
import KE.SortKeyHeap
import KE.DataMinMax
import HandS.Deep
import KE.KDictCopyH
import HandS.Zip
import HandS.RaiseMore
import HandS.Codes
import PySem.Challenge.RW_cordboard_k90_again_and_shared
import KE.KStateDown
import Lean
import HandS.Ends
import HandS.WordsExc
import HandS.Head0
import HandS.Head1
import HandS.Head2
import HandS.HeadEnd
set_option Elab.async false
set_option linter.all false
set_option maxRecDepth 100000
set_option autoImplicit false
/-! The ideal domain: values, objects, the ideal heap; how the abstract heap of the hand layer shows it. -/
namespace DL
open PySem PySem.Spec PyProof.Rows L2

/-! ### tables: words, classes, fields -/
def words0 : List Str := ["BadNumber", "BadWord", "Busy", "NoPlug", "InPlace", "BadCalls", "BadRows", "BadText", "Nothing", "BadRate", "NoEntry", "other", "back", "front", "hook", "plug", "pull", "listen", "ring", "tick", "undo", "dark", "lit", "winks", "busy", "no cord", "", "call", "paid", "rows"]
def words1 : List Str := ["given", "past", "ahead", "rate", "number", "truth", "end", "yes", "no", "x", "on", "off", "0", "1", "9", "5", "01", "side", "dance", "spoilt", " ", "-", "0123456789", " tick 1", "hook 0", "hook 0 True", "hook 00 yes", "plug 0 back yes", "tick -1", "undo "]
def words : List Str := words0 ++ words1
def nW : Nat := 60
def wds (n : Nat) : Str := words.getD n ""
theorem words_len : words.length = nW := by decide +kernel
theorem words_ok : words.all PyData.strOk = true := by decide +kernel
theorem words_nd : ∀ i, i < nW → ∀ j, j < nW → wds i = wds j → i = j := by decide +kernel
/-- classes by numbers: own ones below 10, errors from 10 on -/
def cnm : Nat → Str
  | 0 => "Line"
  | 1 => "Cord"
  | 2 => "Board"
  | 3 => "Hand"
  | 4 => "Accounts"
  | 10 => "BoardError"
  | 11 => "BadNumber"
  | 12 => "BadWord"
  | 13 => "Busy"
  | 14 => "NoPlug"
  | 15 => "InPlace"
  | 16 => "BadCalls"
  | 17 => "BadRows"
  | 18 => "BadText"
  | 19 => "Nothing"
  | 20 => "BadRate"
  | 21 => "NoEntry"
  | _ => ""
def flds : Nat → List Str
  | 0 => ["is_off", "since", "on_step", "off_step", "has_flashed"]
  | 1 => ["lines", "put_step", "is_heard", "is_ringing", "heard_step", "call"]
  | 2 => ["lines_here", "cords_here", "clock", "step", "done", "past"]
  | 3 => ["board", "wishes", "heard", "rung", "told_no"]
  | 4 => ["rate", "entries", "given", "past", "ahead"]
  | _ => []
/-- keys of dicts: ints and words -/
abbrev DK := Sum Int Nat
def dkey : DK → Key
  | .inl i => .inl i
  | .inr n => .inr (wds n)

inductive D where
  | non | bl (b : Bool) | int (i : Int) | str (s : Str) | wd (n : Nat) | tup (xs : List D) | vl (xs : List D) | fl (xs : List D) | ref (i : Nat)
  deriving Inhabited

inductive O where
  | lst (xs : List D) | dct (kvs : List (DK × D)) | ins (c : Nat) (fs : List D) | frz (kvs : List (DK × D)) | ext (t : Nat) (ds : List D)
  deriving Inhabited

abbrev IH := List O
abbrev En := List (Option D)

inductive Out (α : Type) where
  | ok (a : α) (h : IH) | err (c : Nat) (h : IH) | bad

inductive SO where
  | nx (en : En) (h : IH) | rt (d : D) (h : IH) | bk (en : En) (h : IH) | ct (en : En) (h : IH) | err (c : Nat) (h : IH) | bad

/-- tables of code objects; what stands around (values that are kept); what an object of a further kind is -/
structure TF where
  tb : List (Addr × Str)
  env : List (V × D)
  ot : Nat → Addr → (Heap → Prop) → Prop
  cp : Nat → Addr → (Heap → Prop) → Addr → Str → Prop
def TF.of (tb : List (Addr × Str)) : TF := ⟨tb, [], fun _ _ _ => True, fun _ _ _ _ _ => False⟩
structure G where
  K : PySem.W.Frag
  mg : Str → Option Value
  T : TF
/-- objects of further kinds: 0 a dict of one pair whose key is a truth -/
def Otr (T : TF) : Nat → Addr → (Heap → Prop) → List V → Prop
  | 0, a, φ, vs => ∃ (o : Obj) (b : Bool) (v : V) (u : Value) (e : DictEntry) (ep : Nat), vs = [.bl b, v] ∧ φ = (fun h => h.get? a = some o) ∧ (a == sysModules) = false ∧ o.ExactDict ∧ o.data = .dict #[e] ep ∧ e.key = .bool b ∧ RelV v u
  | t + 1, a, φ, _ => T.ot t a φ

/-- a list, a tuple of the written part -/
def KL (K : PySem.W.Frag) (a : Addr) (xs : List V) : Prop :=
  ∃ (o : Obj) (its : Array Value) (n : Nat), K.lookup a = some o ∧ o.cls = .type "list" ∧ o.dict = none ∧ o.data = .seq its n ∧ its.size ≤ sizeLine ∧ Vals xs its.toList
def KT (K : PySem.W.Frag) (a : Addr) (xs : List V) : Prop :=
  ∃ (o : Obj) (its : Array Value) (n : Nat), K.lookup a = some o ∧ o.cls = .type "tuple" ∧ o.data = .seq its n ∧ its.size ≤ sizeLine ∧ Vals xs its.toList

/-- where the ideal heap's objects stand; P: addresses that no value shows (a comprehension's list in the making) -/
structure Mp where
  P : Addr → Prop
  pt : Nat → Addr
  F : Addr → Option HO
instance : CoeFun Mp (fun _ => Nat → Addr) := ⟨Mp.pt⟩
def Off (m : Mp) (n : Nat) (a : Addr) : Prop := ¬ m.P a ∧ ∀ i, i < n → m i ≠ a

mutual
inductive Rv (K : PySem.W.Frag) (m : Mp) (n : Nat) (H : Hp) : V → D → Prop
  | non : Rv K m n H .non .non
  | bl (b : Bool) : Rv K m n H (.bl b) (.bl b)
  | int (i : Int) : Rv K m n H (.int i) (.int i)
  | str (x : Str) : Rv K m n H (.str x) (.str x)
  | wd {x : Str} {n0 : Nat} : n0 < nW → x = wds n0 → Rv K m n H (.str x) (.wd n0)
  | tup {a : Addr} {vs : List V} {ds : List D} : (KT K a vs ∨ (Rd H a (.tup vs) ∧ Off m n a)) → Rvs K m n H vs ds → Rv K m n H (.ref a) (.tup ds)
  | vl {a : Addr} {vs : List V} {ds : List D} : H a = some (.lst vs) → Off m n a → Rvs K m n H vs ds → Rv K m n H (.ref a) (.vl ds)
  | fl {a : Addr} {vs : List V} {ds : List D} : (KL K a vs ∨ (Rd H a (.lst vs) ∧ Off m n a)) → Rvs K m n H vs ds → Rv K m n H (.ref a) (.fl ds)
  | ref {i : Nat} : i < n → Rv K m n H (.ref (m i)) (.ref i)
inductive Rvs (K : PySem.W.Frag) (m : Mp) (n : Nat) (H : Hp) : List V → List D → Prop
  | nil : Rvs K m n H [] []
  | cons {v : V} {vs : List V} {d : D} {ds : List D} : Rv K m n H v d → Rvs K m n H vs ds → Rvs K m n H (v :: vs) (d :: ds)
end

def NT (o : HO) : Prop := ∀ ps, o ≠ .tbl ps

/-- the ideal heap has grown, what is not shown by it stands -/
structure Ex (m : Mp) (n : Nat) (H : Hp) (m' : Mp) (n' : Nat) (H' : Hp) : Prop where
  le : n ≤ n'
  prot : (∀ a, m.P a → m'.P a) ∧ ∀ a, m'.P a → m.P a ∨ ∀ o, H a = some o → ¬ NT o
  same : ∀ i, i < n → m' i = m i
  new : ∀ i, n ≤ i → i < n' → ∀ o, H (m' i) = some o → ¬ NT o
  keep : ∀ a o, H a = some o → (∀ i, i < n → m i ≠ a) → NT o → H' a = some o
  dom : ∀ a o, H a = some o → NT o → ∃ o', H' a = some o' ∧ NT o'
  fz : ∀ a u, m.F a = some u → m'.F a = some u

theorem Ex.refl (m : Mp) (n : Nat) (H : Hp) : Ex m n H m n H :=
  ⟨Nat.le_refl _, ⟨fun _ z => z, fun _ z => .inl z⟩, fun _ _ => rfl, fun i h1 h2 => absurd (Nat.lt_of_lt_of_le h2 h1) (Nat.lt_irrefl _), fun _ _ h _ _ => h, fun _ o h k => ⟨o, h, k⟩, fun _ _ z => z⟩

theorem Ex.offI {m m' : Mp} {n n' : Nat} {H H' : Hp} (e : Ex m n H m' n' H') {a : Addr} {o : HO} (h : H a = some o) (k : NT o) (q : ∀ i, i < n → m i ≠ a) : ∀ i, i < n' → m' i ≠ a := fun i hi z => by
  by_cases hn : i < n
  · rw [e.same i hn] at z
    exact q i hn z
  · rw [← z] at h
    exact e.new i (by omega) hi o h k
theorem Ex.off {m m' : Mp} {n n' : Nat} {H H' : Hp} (e : Ex m n H m' n' H') {a : Addr} {o : HO} (h : H a = some o) (k : NT o) (q : Off m n a) : Off m' n' a := ⟨fun z => (e.prot.2 a z).elim q.1 fun y => y o h k, e.offI h k q.2⟩

theorem Ex.trans {m m1 m2 : Mp} {n n1 n2 : Nat} {H H1 H2 : Hp} (a : Ex m n H m1 n1 H1) (b : Ex m1 n1 H1 m2 n2 H2) : Ex m n H m2 n2 H2 where
  le := Nat.le_trans a.le b.le
  prot := ⟨fun c z => b.prot.1 c (a.prot.1 c z), fun c z => (b.prot.2 c z).elim (a.prot.2 c) fun y => .inr fun o ho k => by
    obtain ⟨o', h', k'⟩ := a.dom c o ho k
    exact y o' h' k'⟩
  same := fun i hi => (b.same i (Nat.lt_of_lt_of_le hi a.le)).trans (a.same i hi)
  new := fun i h1 h2 o ho k => by
    by_cases hn : i < n1
    · rw [b.same i hn] at ho
      exact a.new i h1 hn o ho k
    · obtain ⟨o', h', k'⟩ := a.dom _ _ ho k
      exact b.new i (by omega) h2 o' h' k'
  keep := fun c o h q k => b.keep c o (a.keep c o h q k) (a.offI h k q) k
  dom := fun c o h k => by
    obtain ⟨o', h', k'⟩ := a.dom c o h k
    exact b.dom c o' h' k'
  fz := fun c u z => b.fz c u (a.fz c u z)

theorem NT.lst {xs : List V} : NT (.lst xs) := fun _ z => by cases z
theorem NT.tup {xs : List V} : NT (.tup xs) := fun _ z => by cases z
theorem NT.dK {xs : List (Key × V)} : NT (.dK xs) := fun _ z => by cases z
theorem NT.ins {C dx : Addr} {fs : List (Str × V)} : NT (.ins C dx fs) := fun _ z => by cases z
theorem NT.own {x : Addr} : NT (.own x) := fun _ z => by cases z
theorem NT.frz {o : Obj} {u : HO} : NT (.frz o u) := fun _ z => by cases z
theorem NT.ext {φ : Heap → Prop} : NT (.ext φ) := fun _ z => by cases z

theorem Rd.off {m m' : Mp} {n n' : Nat} {H H' : Hp} (e : Ex m n H m' n' H') {a : Addr} {u : HO} (hu : NT u) (r : Rd H a u) (q : Off m n a) : Rd H' a u ∧ Off m' n' a := by
  rcases r with h | ⟨o, h⟩
  · exact ⟨.inl (e.keep _ _ h q.2 hu), e.off h hu q⟩
  · exact ⟨.inr ⟨o, e.keep _ _ h q.2 NT.frz⟩, e.off h NT.frz q⟩

section
variable {K : PySem.W.Frag} {m m' : Mp} {n n' : Nat} {H H' : Hp}
mutual
theorem Rv.mono (e : Ex m n H m' n' H') : ∀ {v : V} {d : D}, Rv K m n H v d → Rv K m' n' H' v d
  | _, _, .non => .non
  | _, _, .bl b => .bl b
  | _, _, .int i => .int i
  | _, _, .str x => .str x
  | _, _, .wd h1 h2 => .wd h1 h2
  | _, _, .tup (.inl h) r => .tup (.inl h) (Rvs.mono e r)
  | _, _, .tup (.inr h) r => .tup (.inr (Rd.off e NT.tup h.1 h.2)) (Rvs.mono e r)
  | _, _, .vl h q r => .vl (e.keep _ _ h q.2 NT.lst) (e.off h NT.lst q) (Rvs.mono e r)
  | _, _, .fl (.inl h) r => .fl (.inl h) (Rvs.mono e r)
  | _, _, .fl (.inr h) r => .fl (.inr (Rd.off e NT.lst h.1 h.2)) (Rvs.mono e r)
  | _, _, .ref (i := i) hi => by
    rw [← e.same i hi]
    exact .ref (Nat.lt_of_lt_of_le hi e.le)
theorem Rvs.mono (e : Ex m n H m' n' H') : ∀ {vs : List V} {ds : List D}, Rvs K m n H vs ds → Rvs K m' n' H' vs ds
  | _, _, .nil => .nil
  | _, _, .cons a b => .cons (Rv.mono e a) (Rvs.mono e b)
end
theorem Rvs.length : ∀ {vs : List V} {ds : List D}, Rvs K m n H vs ds → vs.length = ds.length
  | _, _, .nil => rfl
  | _, _, .cons _ b => by simp [Rvs.length b]
theorem Rvs.get : ∀ {vs : List V} {ds : List D} {i : Nat} {d : D}, Rvs K m n H vs ds → ds[i]? = some d → ∃ v, vs[i]? = some v ∧ Rv K m n H v d
  | _, _, _, _, .nil, e => by simp at e
  | _, _, 0, _, .cons r _, e => by simp at e; subst e; exact ⟨_, rfl, r⟩
  | _, _, i + 1, d, .cons _ t, e => by
    obtain ⟨v, h1, h2⟩ := Rvs.get (i := i) (d := d) t (by simpa using e)
    exact ⟨v, by simpa using h1, h2⟩
theorem Rvs.get' : ∀ {vs : List V} {ds : List D} {i : Nat} {v : V}, Rvs K m n H vs ds → vs[i]? = some v → ∃ d, ds[i]? = some d ∧ Rv K m n H v d
  | _, _, _, _, .nil, e => by simp at e
  | _, _, 0, _, .cons r _, e => by simp at e; subst e; exact ⟨_, rfl, r⟩
  | _, _, i + 1, d, .cons _ t, e => by
    obtain ⟨v, h1, h2⟩ := Rvs.get' (i := i) (v := d) t (by simpa using e)
    exact ⟨v, by simpa using h1, h2⟩
theorem Rvs.append : ∀ {vs ws : List V} {ds es : List D}, Rvs K m n H vs ds → Rvs K m n H ws es → Rvs K m n H (vs ++ ws) (ds ++ es)
  | _, _, _, _, .nil, s => s
  | _, _, _, _, .cons r t, s => .cons r (Rvs.append t s)
theorem Rvs.set {v : V} {d : D} (r : Rv K m n H v d) : ∀ {vs : List V} {ds : List D} (i : Nat), Rvs K m n H vs ds → Rvs K m n H (vs.set i v) (ds.set i d)
  | _, _, _, .nil => .nil
  | _, _, 0, .cons _ t => .cons r t
  | _, _, i + 1, .cons q t => .cons q (Rvs.set r i t)
theorem Rvs.take : ∀ {vs : List V} {ds : List D} (k : Nat), Rvs K m n H vs ds → Rvs K m n H (vs.take k) (ds.take k)
  | _, _, 0, _ => .nil
  | _, _, _ + 1, .nil => .nil
  | _, _, k + 1, .cons r t => .cons r (Rvs.take k t)
theorem Rvs.drop : ∀ {vs : List V} {ds : List D} (k : Nat), Rvs K m n H vs ds → Rvs K m n H (vs.drop k) (ds.drop k)
  | _, _, 0, r => r
  | _, _, _ + 1, .nil => .nil
  | _, _, k + 1, .cons _ t => Rvs.drop k t
theorem Rvs.erase : ∀ {vs : List V} {ds : List D} (k : Nat), Rvs K m n H vs ds → Rvs K m n H (vs.eraseIdx k) (ds.eraseIdx k)
  | _, _, _, .nil => .nil
  | _, _, 0, .cons _ t => t
  | _, _, k + 1, .cons r t => .cons r (Rvs.erase k t)
theorem Rvs.dropLast {vs : List V} {ds : List D} (r : Rvs K m n H vs ds) : Rvs K m n H vs.dropLast ds.dropLast := by
  rw [List.dropLast_eq_take, List.dropLast_eq_take, r.length]
  exact r.take _
theorem Rvs.reverse : ∀ {vs : List V} {ds : List D}, Rvs K m n H vs ds → Rvs K m n H vs.reverse ds.reverse
  | _, _, .nil => .nil
  | _, _, .cons r t => by
    rw [List.reverse_cons, List.reverse_cons]
    exact Rvs.append (Rvs.reverse t) (.cons r .nil)
theorem Rvs.ints : ∀ {vs : List V} {ns : List Int}, Rvs K m n H vs (ns.map D.int) → vs = ns.map V.int
  | _, [], r => by cases r; rfl
  | _, i :: ns, r => by
    cases r with
    | cons a b =>
      cases a
      rw [Rvs.ints b]
      rfl
theorem Rvs.of_ints : ∀ (ns : List Int), Rvs K m n H (ns.map V.int) (ns.map D.int)
  | [] => .nil
  | i :: ns => .cons (.int i) (Rvs.of_ints ns)
theorem Rvs.bls : ∀ {vs : List V} {bs : List Bool}, Rvs K m n H vs (bs.map D.bl) → vs = bs.map V.bl
  | _, [], r => by cases r; rfl
  | _, i :: ns, r => by
    cases r with
    | cons a b =>
      cases a
      rw [Rvs.bls b]
      rfl
theorem Rvs.strs : ∀ {vs : List V} {bs : List Str}, Rvs K m n H vs (bs.map D.str) → vs = bs.map V.str
  | _, [], r => by cases r; rfl
  | _, i :: ns, r => by
    cases r with
    | cons a b =>
      cases a
      rw [Rvs.strs b]
      rfl
end

/-- a dict's pairs -/
def RPs (K : PySem.W.Frag) (m : Mp) (n : Nat) (H : Hp) (l : List (Key × V)) (l' : List (DK × D)) : Prop := Paired (fun (p : Key × V) (q : DK × D) => p.1 = dkey q.1 ∧ (∀ w, q.1 = .inr w → w < nW) ∧ Rv K m n H p.2 q.2) l l'
theorem RPs.mono {K : PySem.W.Frag} {m m' : Mp} {n n' : Nat} {H H' : Hp} (e : Ex m n H m' n' H') {l : List (Key × V)} {l' : List (DK × D)} (r : RPs K m n H l l') : RPs K m' n' H' l l' := Paired.mapP r fun _ _ z => ⟨z.1, z.2.1, z.2.2.mono e⟩

/-- the code object that a thing of a further kind leans on stands, and is none of the ideal heap's -/
def Cmp (T : TF) (m : Mp) (n : Nat) (H : Hp) : Nat → Addr → (Heap → Prop) → Prop
  | 0, _, _ => True
  | t + 1, a, φ => ∀ c q, T.cp t a φ c q → H c = some (LamX.CodeO c q) ∧ ∀ i, i < n → m i ≠ c
theorem NT.cod {c : Addr} {q : Str} : NT (LamX.CodeO c q) := fun ps => LamX.codeO_ne ps
theorem Cmp.mono {T : TF} {m m' : Mp} {n n' : Nat} {H H' : Hp} (e : Ex m n H m' n' H') : ∀ {t : Nat} {a : Addr} {φ : Heap → Prop}, Cmp T m n H t a φ → Cmp T m' n' H' t a φ
  | 0, _, _, _ => trivial
  | _ + 1, _, _, r => fun c q z => let ⟨h1, h2⟩ := r c q z; ⟨e.keep _ _ h1 h2 NT.cod, e.offI h1 NT.cod h2⟩
theorem Cmp.as {T : TF} {m m' : Mp} {n n' : Nat} {H H' : Hp} (e1 : ∀ c q, H c = some (LamX.CodeO c q) → (∀ i, i < n → m i ≠ c) → H' c = some (LamX.CodeO c q)) (e2 : ∀ c q, H c = some (LamX.CodeO c q) → (∀ i, i < n → m i ≠ c) → ∀ i, i < n' → m' i ≠ c) : ∀ {t : Nat} {a : Addr} {φ : Heap → Prop}, Cmp T m n H t a φ → Cmp T m' n' H' t a φ
  | 0, _, _, _ => trivial
  | _ + 1, _, _, r => fun c q z => let ⟨h1, h2⟩ := r c q z; ⟨e1 _ _ h1 h2, e2 _ _ h1 h2⟩
/-- an ideal object shown at an address -/
def RO (g : G) (m : Mp) (n : Nat) (H : Hp) (a : Addr) : O → Prop
  | .lst ds => ∃ vs, H a = some (.lst vs) ∧ Rvs g.K m n H vs ds
  | .dct kvs => ∃ kws, H a = some (.dK kws) ∧ RPs g.K m n H kws kvs
  | .ins c fs => ∃ C dx fvs, H a = some (.ins C dx fvs) ∧ g.mg (cnm c) = some (.ref C) ∧ fvs.map (·.1) = (flds c).take fs.length ∧ Rvs g.K m n H (fvs.map (·.2)) fs
  | .frz kvs => ∃ od kws, H a = some (.frz od (.dK kws)) ∧ m.F a = some (.frz od (.dK kws)) ∧ RPs g.K m n H kws kvs
  | .ext t ds => ∃ φ vs, H a = some (.ext φ) ∧ m.F a = some (.ext φ) ∧ Otr g.T t a φ vs ∧ Cmp g.T m n H t a φ ∧ Rvs g.K m n H vs ds

structure RH (g : G) (m : Mp) (h : IH) (H : Hp) : Prop where
  obj : ∀ (i : Nat) (o : O), h[i]? = some o → RO g m h.length H (m i) o
  inj : ∀ i j, i < h.length → j < h.length → m i = m j → i = j
  tab : LamX.Tabs g.T.tb H
  frm : ∀ p ∈ g.T.env, Rv g.K m h.length H p.1 p.2
  prt : ∀ a, m.P a → ∃ o, H a = some o ∧ NT o
  npr : ∀ i, i < h.length → ¬ m.P (m i)
  fz1 : ∀ (i : Nat) (o : O), h[i]? = some o → (∀ kvs, o ≠ .frz kvs) → (∀ t ds, o ≠ .ext t ds) → m.F (m i) = none
  fz2 : ∀ a u, m.F a = some u → ∃ o, H a = some o ∧ NT o
  fz3 : ∀ a, m.P a → m.F a = none

theorem RO.is {g : G} {m : Mp} {n : Nat} {H : Hp} {a : Addr} {o : O} (r : RO g m n H a o) : ∃ u, H a = some u ∧ NT u := by
  cases o with
  | lst ds => obtain ⟨vs, h, _⟩ := r; exact ⟨_, h, NT.lst⟩
  | dct kvs => obtain ⟨vs, h, _⟩ := r; exact ⟨_, h, NT.dK⟩
  | ins c fs => obtain ⟨C, dx, fvs, h, _⟩ := r; exact ⟨_, h, NT.ins⟩
  | frz kvs => obtain ⟨od, vs, h, _⟩ := r; exact ⟨_, h, NT.frz⟩
  | ext t ds => obtain ⟨φ, vs, h, _⟩ := r; exact ⟨_, h, NT.ext⟩
theorem RH.is {g : G} {m : Mp} {h : IH} {H : Hp} (r : RH g m h H) {i : Nat} (hi : i < h.length) : ∃ u, H (m i) = some u ∧ NT u := (r.obj i h[i] (List.getElem?_eq_getElem hi)).is
theorem RH.off {g : G} {m : Mp} {h : IH} {H : Hp} (r : RH g m h H) {p : Addr} (hp : H p = none) : Off m h.length p := by
  refine ⟨fun z => ?_, fun i hi z => ?_⟩
  · obtain ⟨u, e, _⟩ := r.prt p z
    rw [hp] at e
    cases e
  · obtain ⟨u, e, _⟩ := r.is hi
    rw [z, hp] at e
    cases e
/-- the object's row of the heap is the same, the rest has moved on -/
theorem RO.mono {g : G} {m m' : Mp} {n n' : Nat} {H H' : Hp} (e : Ex m n H m' n' H') {a : Addr} {o : O} (r : RO g m n H a o) (q : H' a = H a) : RO g m' n' H' a o := by
  cases o with
  | lst ds => obtain ⟨vs, h, k⟩ := r; exact ⟨vs, q.trans h, k.mono e⟩
  | dct kvs => obtain ⟨vs, h, k⟩ := r; exact ⟨vs, q.trans h, k.mono e⟩
  | ins c fs => obtain ⟨C, dx, fvs, h, k, l, l2⟩ := r; exact ⟨C, dx, fvs, q.trans h, k, l, l2.mono e⟩
  | frz kvs => obtain ⟨od, vs, h, k0, k⟩ := r; exact ⟨od, vs, q.trans h, e.fz _ _ k0, k.mono e⟩
  | ext t ds => obtain ⟨φ, vs, h, kf, k0, kc, k⟩ := r; exact ⟨φ, vs, q.trans h, e.fz _ _ kf, k0, kc.mono e, k.mono e⟩

/-! ### a new object that is not of the ideal heap -/
theorem Ex.fresh {m : Mp} {n : Nat} {H : Hp} {p : Addr} {o : HO} (hp : H p = none) (ho : NT o) : Ex m n H m n (upd H p o) where
  le := Nat.le_refl _
  prot := ⟨fun _ z => z, fun _ z => .inl z⟩
  same := fun _ _ => rfl
  new := fun i h1 h2 => absurd (Nat.lt_of_lt_of_le h2 h1) (Nat.lt_irrefl _)
  keep := fun a u h _ _ => by rw [upd_ne (ne_of_none h hp)]; exact h
  dom := fun a u h k => ⟨u, by rw [upd_ne (ne_of_none h hp)]; exact h, k⟩
  fz := fun _ _ z => z
theorem RH.fresh {g : G} {m : Mp} {h : IH} {H : Hp} {p : Addr} {o : HO} (r : RH g m h H) (hp : H p = none) (ho : NT o) : RH g m h (upd H p o) where
  obj := fun i u hi => by
    have q := r.obj i u hi
    obtain ⟨z, e, _⟩ := q.is
    exact q.mono (Ex.fresh hp ho) (by rw [upd_ne (ne_of_none e hp)])
  inj := r.inj
  tab := r.tab.ext fun b u e => by rw [upd_ne (ne_of_none e hp)]; exact e
  frm := fun q hq => (r.frm q hq).mono (Ex.fresh hp ho)
  prt := fun a z => by
    obtain ⟨u, e, k⟩ := r.prt a z
    exact ⟨u, by rw [upd_ne (ne_of_none e hp)]; exact e, k⟩
  npr := r.npr
  fz1 := r.fz1
  fz2 := fun a u z => by
    obtain ⟨o, e, k⟩ := r.fz2 a u z
    exact ⟨o, by rw [upd_ne (ne_of_none e hp)]; exact e, k⟩
  fz3 := r.fz3
/-! ### a new object of the ideal heap -/
def put (m : Mp) (n : Nat) (p : Addr) : Mp := ⟨m.P, fun i => if i = n then p else m i, m.F⟩
theorem put_same {m : Mp} {n : Nat} {p : Addr} : put m n p n = p := if_pos rfl
theorem put_ne {m : Mp} {n i : Nat} {p : Addr} (h : i ≠ n) : put m n p i = m i := if_neg h
theorem Ex.alloc {m : Mp} {n : Nat} {H H' : Hp} {p : Addr} (hp : H p = none) (hk : ∀ a o, H a = some o → H' a = some o) : Ex m n H (put m n p) (n + 1) H' where
  le := Nat.le_succ _
  prot := ⟨fun _ z => z, fun _ z => .inl z⟩
  same := fun i hi => put_ne (Nat.ne_of_lt hi)
  new := fun i h1 h2 o e => by
    have : i = n := by omega
    subst this
    rw [put_same, hp] at e
    cases e
  keep := fun a u h _ _ => hk _ _ h
  dom := fun a u h k => ⟨u, hk _ _ h, k⟩
  fz := fun _ _ z => z
theorem RH.alloc {g : G} {m : Mp} {h : IH} {H H' : Hp} {p : Addr} {o : O} (r : RH g m h H) (hp : H p = none) (hk : ∀ a o, H a = some o → H' a = some o) (ho : RO g (put m h.length p) (h.length + 1) H' p o) :
    RH g (put m h.length p) (h ++ [o]) H' where
  obj := fun i u hi => by
    rw [List.length_append, List.length_singleton]
    by_cases hl : i < h.length
    · rw [List.getElem?_append_left hl] at hi
      have q := r.obj i u hi
      obtain ⟨z, e, _⟩ := q.is
      rw [put_ne (Nat.ne_of_lt hl)]
      exact q.mono (Ex.alloc hp hk) (by rw [hk _ _ e, e])
    · have : i = h.length := by
        have := (List.getElem?_eq_some_iff.mp hi).1
        rw [List.length_append, List.length_singleton] at this
        omega
      subst this
      simp at hi
      subst hi
      rw [put_same]
      exact ho
  inj := fun i j hi hj e => by
    rw [List.length_append, List.length_singleton] at hi hj
    by_cases h1 : i = h.length
    · by_cases h2 : j = h.length
      · rw [h1, h2]
      · rw [h1, put_same, put_ne h2] at e
        exact absurd e.symm ((r.off hp).2 j (by omega))
    · by_cases h2 : j = h.length
      · rw [h2, put_same, put_ne h1] at e
        exact absurd e ((r.off hp).2 i (by omega))
      · rw [put_ne h1, put_ne h2] at e
        exact r.inj i j (by omega) (by omega) e
  tab := r.tab.ext hk
  frm := fun q hq => by
    rw [List.length_append, List.length_singleton]
    exact (r.frm q hq).mono (Ex.alloc hp hk)
  prt := fun a z => by
    obtain ⟨u, e, k⟩ := r.prt a z
    exact ⟨u, hk _ _ e, k⟩
  npr := fun i hi => by
    rw [List.length_append, List.length_singleton] at hi
    by_cases h1 : i = h.length
    · rw [h1, put_same]
      exact (r.off hp).1
    · rw [put_ne h1]
      exact r.npr i (by omega)
  fz1 := fun i u hi nf nx => by
    show m.F (put m h.length p i) = none
    by_cases hl : i < h.length
    · rw [List.getElem?_append_left hl] at hi
      rw [put_ne (Nat.ne_of_lt hl)]
      exact r.fz1 i u hi nf nx
    · have : i = h.length := by
        have := (List.getElem?_eq_some_iff.mp hi).1
        rw [List.length_append, List.length_singleton] at this
        omega
      subst this
      rw [put_same]
      cases z : m.F p with
      | none => rfl
      | some u =>
        obtain ⟨o, e, _⟩ := r.fz2 p u z
        rw [hp] at e
        cases e
  fz2 := fun a u z => by
    obtain ⟨o, e, k⟩ := r.fz2 a u z
    exact ⟨o, hk _ _ e, k⟩
  fz3 := r.fz3
/-! ### an object of the ideal heap is changed -/
theorem Ex.store {g : G} {m : Mp} {h : IH} {H : Hp} {i : Nat} {o : HO} (r : RH g m h H) (hi : i < h.length) (ho : NT o) : Ex m h.length H m h.length (upd H (m i) o) where
  le := Nat.le_refl _
  prot := ⟨fun _ z => z, fun _ z => .inl z⟩
  same := fun _ _ => rfl
  new := fun i h1 h2 => absurd (Nat.lt_of_lt_of_le h2 h1) (Nat.lt_irrefl _)
  keep := fun a u h q _ => by rw [upd_ne (Ne.symm (q i hi))]; exact h
  dom := fun a u h k => by
    by_cases ha : a = m i
    · exact ⟨o, by rw [ha, upd_same], ho⟩
    · exact ⟨u, by rw [upd_ne ha]; exact h, k⟩
  fz := fun _ _ z => z
theorem tabs_store {T : List (Addr × Str)} {H : Hp} {a : Addr} {o u : HO} (t : LamX.Tabs T H) (ha : H a = some u) (h1 : NT u) (h2 : ∀ φ, u ≠ .ext φ) : LamX.Tabs T (upd H a o) := fun p hp => by
  obtain ⟨ps, e1, e2, e3⟩ := t p hp
  refine ⟨ps, ?_, e2, fun pos cv hc => ?_⟩
  · rw [upd_ne (fun z => by rw [z, ha] at e1; exact h1 _ (Option.some.inj e1))]
    exact e1
  · obtain ⟨c, q1, q2⟩ := e3 pos cv hc
    refine ⟨c, q1, ?_⟩
    rw [upd_ne (fun z => by rw [z, ha] at q2; exact h2 _ (Option.some.inj q2))]
    exact q2
theorem RH.store {g : G} {m : Mp} {h : IH} {H : Hp} {i : Nat} {o : HO} {u : O} (r : RH g m h H) (hi : i < h.length) (ho : NT o) (hf : (∀ kvs, u ≠ .frz kvs) → m.F (m i) = none) (hu : RO g m h.length (upd H (m i) o) (m i) u) (hx : ∀ t ds, h[i]? ≠ some (.ext t ds)) : RH g m (h.set i u) (upd H (m i) o) where
  obj := fun j w hj => by
    rw [List.length_set]
    by_cases hij : j = i
    · subst hij
      rw [List.getElem?_set_self hi] at hj
      cases hj
      exact hu
    · rw [List.getElem?_set_ne (Ne.symm hij)] at hj
      have q := r.obj j w hj
      have hjl : j < h.length := (List.getElem?_eq_some_iff.mp hj).1
      exact q.mono (Ex.store r hi ho) (by rw [upd_ne (fun z => hij (r.inj j i hjl hi z))])
  inj := fun a b ha hb => r.inj a b (by rwa [List.length_set] at ha) (by rwa [List.length_set] at hb)
  tab := by
    have q := r.obj i h[i] (List.getElem?_eq_getElem hi)
    cases e : h[i] with
    | lst ds => rw [e] at q; obtain ⟨vs, z, _⟩ := q; exact tabs_store r.tab z NT.lst (fun _ y => by cases y)
    | dct kvs => rw [e] at q; obtain ⟨vs, z, _⟩ := q; exact tabs_store r.tab z NT.dK (fun _ y => by cases y)
    | ins c fs => rw [e] at q; obtain ⟨C, dx, fvs, z, _⟩ := q; exact tabs_store r.tab z NT.ins (fun _ y => by cases y)
    | frz kvs => rw [e] at q; obtain ⟨od, vs, z, _⟩ := q; exact tabs_store r.tab z NT.frz (fun _ y => by cases y)
    | ext t ds => exact absurd (by rw [List.getElem?_eq_getElem hi, e]) (hx t ds)
  frm := fun q hq => by
    rw [List.length_set]
    exact (r.frm q hq).mono (Ex.store r hi ho)
  prt := fun a z => by
    obtain ⟨v, e, k⟩ := r.prt a z
    by_cases ha : a = m i
    · exact ⟨o, by rw [ha, upd_same], ho⟩
    · exact ⟨v, by rw [upd_ne ha]; exact e, k⟩
  npr := fun j hj => r.npr j (by rwa [List.length_set] at hj)
  fz1 := fun j w hj nf nx => by
    by_cases hij : j = i
    · subst hij
      rw [List.getElem?_set_self hi] at hj
      cases hj
      exact hf nf
    · rw [List.getElem?_set_ne (Ne.symm hij)] at hj
      exact r.fz1 j w hj nf nx
  fz2 := fun a v z => by
    obtain ⟨w, e, k⟩ := r.fz2 a v z
    by_cases ha : a = m i
    · exact ⟨o, by rw [ha, upd_same], ho⟩
    · exact ⟨w, by rw [upd_ne ha]; exact e, k⟩
  fz3 := r.fz3

/-! ### the state -/
structure Rel (g : G) (m : Mp) (h : IH) (σ : L2.St) (en : En) (H : Hp) : Prop where
  rh : RH g m h H
  len : σ.length = en.length
  env : ∀ (i : Nat) (d : D), en[i]? = some (some d) → ∃ v, σ[i]? = some (some v) ∧ Rv g.K m h.length H v d
theorem Rel.next {g : G} {m m' : Mp} {h h' : IH} {σ : L2.St} {en : En} {H H' : Hp} (r : Rel g m h σ en H) (e : Ex m h.length H m' h'.length H') (q : RH g m' h' H') : Rel g m' h' σ en H' :=
  ⟨q, r.len, fun i d hd => let ⟨v, h1, h2⟩ := r.env i d hd; ⟨v, h1, h2.mono e⟩⟩
theorem Rel.set {g : G} {m : Mp} {h : IH} {σ : L2.St} {en : En} {H : Hp} (r : Rel g m h σ en H) (i : Nat) {v : V} {d : D} (q : Rv g.K m h.length H v d) : Rel g m h (σ.set i (some v)) (en.set i (some d)) H :=
  ⟨r.rh, by rw [List.length_set, List.length_set, r.len], fun j w hj => by
    by_cases hij : j = i
    · subst hij
      have hl : j < en.length := by
        have := (List.getElem?_eq_some_iff.mp hj).1
        rwa [List.length_set] at this
      rw [List.getElem?_set_self hl] at hj
      cases hj
      exact ⟨v, by rw [List.getElem?_set_self (by rw [r.len]; exact hl)], q⟩
    · rw [List.getElem?_set_ne (Ne.symm hij)] at hj
      obtain ⟨w', h1, h2⟩ := r.env j w hj
      exact ⟨w', by rw [List.getElem?_set_ne (Ne.symm hij)]; exact h1, h2⟩⟩

/-! ### readings from functions -/
abbrev MK (α : Type) := En → IH → Out α
abbrev ME := En → IH → Out D
abbrev MT := En → IH → Out Bool
abbrev MA := En → IH → Out (List D)
abbrev MS := En → IH → SO

/-- what is wanted behind a run -/
def Post {α β : Type} (R : (Mp) → Nat → Hp → β → α → Prop) (g : G) (m : Mp) (n : Nat) (H : Hp) (E : XK) (Q : β → Hp → Prop) : Out α → Prop
  | .ok d h' => ∀ m' H' v, Ex m n H m' h'.length H' → RH g m' h' H' → R m' h'.length H' v d → Q v H'
  | .err c h' => ∀ m' H' C, Ex m n H m' h'.length H' → RH g m' h' H' → g.mg (cnm c) = some (.ref C) → E (.ref C) none H'
  | .bad => False
def LX {α β : Type} (R : (Mp) → Nat → Hp → β → α → Prop) (g : G) (E : XK) (f : En → IH → Out α) : L2.St → Hp → (β → Hp → Prop) → Prop := fun σ H Q =>
  ∃ m h en, Rel g m h σ en H ∧ Post R g m h.length H E Q (f en h)
abbrev RB : (Mp) → Nat → Hp → Bool → Bool → Prop := fun _ _ _ a b => a = b
abbrev LE (g : G) (E : XK) (f : ME) : TE := LX (Rv g.K) g E f
abbrev LT (g : G) (E : XK) (f : MT) : TT := LX RB g E f
abbrev LA (g : G) (E : XK) (f : MA) : TA := LX (Rvs g.K) g E f

theorem LX.mk {α β : Type} {R : (Mp) → Nat → Hp → β → α → Prop} {g : G} {E : XK} {f : En → IH → Out α} {σ : L2.St} {H : Hp} {Q : β → Hp → Prop} {m : Mp} {h : IH} {en : En} (r : Rel g m h σ en H)
    (ok : ∀ d h', f en h = .ok d h' → ∀ m' H' v, Ex m h.length H m' h'.length H' → Rel g m' h' σ en H' → R m' h'.length H' v d → Q v H')
    (er : ∀ c h', f en h = .err c h' → ∀ m' H' C, Ex m h.length H m' h'.length H' → RH g m' h' H' → g.mg (cnm c) = some (.ref C) → E (.ref C) none H')
    (nb : f en h ≠ .bad) : LX R g E f σ H Q := by
  refine ⟨m, h, en, r, ?_⟩
  cases e : f en h with
  | ok d h' => exact fun m' H' v a b c => ok d h' e m' H' v a (r.next a b) c
  | err c h' => exact er c h' e
  | bad => exact nb e

def Out.bind {α β : Type} (o : Out α) (k : α → IH → Out β) : Out β := match o with
  | .ok a h => k a h
  | .err c h => .err c h
  | .bad => .bad
@[simp] theorem Out.bind_ok {α β : Type} (a : α) (h : IH) (k : α → IH → Out β) : (Out.ok a h).bind k = k a h := rfl
@[simp] theorem Out.bind_err {α β : Type} (c : Nat) (h : IH) (k : α → IH → Out β) : (Out.err c h : Out α).bind k = .err c h := rfl
@[simp] theorem Out.bind_bad {α β : Type} (k : α → IH → Out β) : (Out.bad : Out α).bind k = .bad := rfl

/-- THE CHAIN: a part is run, then the rest from where it ends -/
theorem chain {α β γ δ : Type} {R : (Mp) → Nat → Hp → β → α → Prop} {R2 : (Mp) → Nat → Hp → δ → γ → Prop} {g : G} {E : XK} {f : En → IH → Out α} {k : α → IH → Out γ} {σ : L2.St} {H : Hp} {Q : δ → Hp → Prop} {m : Mp} {h : IH} {en : En}
    {P : β → Hp → Prop} (r : Rel g m h σ en H) (p : Post R2 g m h.length H E Q ((f en h).bind k))
    (ok : ∀ m' h' H' v d, Ex m h.length H m' h'.length H' → Rel g m' h' σ en H' → R m' h'.length H' v d → Post R2 g m' h'.length H' E Q (k d h') → P v H') : LX R g E f σ H P := by
  refine ⟨m, h, en, r, ?_⟩
  cases e : f en h with
  | ok d h' =>
    intro m' H' v a b c
    refine ok m' h' H' v d a (r.next a b) c ?_
    rw [e] at p
    have p : Post R2 g m h.length H E Q (k d h') := p
    cases e2 : k d h' with
    | ok d2 h2 =>
      rw [e2] at p
      exact fun m2 H2 v2 a2 b2 c2 => p m2 H2 v2 (a.trans a2) b2 c2
    | err c2 h2 =>
      rw [e2] at p
      exact fun m2 H2 C2 a2 b2 c2 => p m2 H2 C2 (a.trans a2) b2 c2
    | bad =>
      rw [e2] at p
      exact p
  | err c h' =>
    rw [e] at p
    exact p
  | bad =>
    rw [e] at p
    exact p

theorem PE.imp {X : Cx} {e : Expr} {t t' : TE} (h : PE X e t) (q : ∀ σ H Q, t' σ H Q → t σ H Q) : PE X e t' := ⟨fun pins s σ H Q I w => h.run pins s σ H Q I (q σ H Q w)⟩
theorem PT.imp {X : Cx} {e : Expr} {t t' : TT} (h : PT X e t) (q : ∀ σ H Q, t' σ H Q → t σ H Q) : PT X e t' := ⟨fun pins s σ H Q I w => h.run pins s σ H Q I (q σ H Q w)⟩
theorem PA.imp {X : Cx} {e : List Expr} {t t' : TA} (h : PA X e t) (q : ∀ σ H Q, t' σ H Q → t σ H Q) : PA X e t' := ⟨fun pos pins s σ H Q I w => h.run pos pins s σ H Q I (q σ H Q w)⟩
theorem PS.imp {X : Cx} {e : Stmt} {t t' : TS} (h : PS X e t) (q : ∀ D σ H, t' D σ H → t D σ H) : PS X e t' := ⟨fun pins s σ H D I w => h.run pins s σ H D I (q D σ H w)⟩
theorem PSs.imp {X : Cx} {e : List Stmt} {t t' : TS} (h : PSs X e t) (q : ∀ D σ H, t' D σ H → t D σ H) : PSs X e t' := ⟨fun pins s σ H D I w => h.run pins s σ H D I (q D σ H w)⟩

abbrev gX (X : Cx) (T : TF) : G := ⟨X.K, X.mg, T⟩
/-- an expression, a test, arguments, a statement, a block do what the function says -/
def DE (X : Cx) (T : TF) (E : XK) (e : Expr) (f : ME) : Prop := PE X e (LE (gX X T) E f)
def DT (X : Cx) (T : TF) (E : XK) (e : Expr) (f : MT) : Prop := PT X e (LT (gX X T) E f)
def DA (X : Cx) (T : TF) (E : XK) (e : List Expr) (f : MA) : Prop := PA X e (LA (gX X T) E f)
end DL

set_option Elab.async false
set_option linter.all false
set_option maxRecDepth 100000
set_option autoImplicit false
/-! Expressions. -/
namespace DL
open PySem PySem.Spec PyProof.Rows L2

section
variable {g : G} {m : Mp} {h : IH} {H : Hp} {E : XK} {Q : VK}
theorem Post.val {v : V} {d : D} (p : Post (Rv g.K) g m h.length H E Q (.ok d h)) (rh : RH g m h H) (rv : Rv g.K m h.length H v d) : Q v H := p m H v (Ex.refl _ _ _) rh rv
theorem Post.vl {q : Addr} {vs : List V} {ds : List D} (p : Post (Rv g.K) g m h.length H E Q (.ok (.vl ds) h)) (rh : RH g m h H) (rv : Rvs g.K m h.length H vs ds) (hq : H q = none) : Q (.ref q) (upd H q (.lst vs)) :=
  p m _ _ (Ex.fresh hq NT.lst) (rh.fresh hq NT.lst) (.vl upd_same (rh.off hq) (rv.mono (Ex.fresh hq NT.lst)))
theorem Post.tup {q : Addr} {vs : List V} {ds : List D} (p : Post (Rv g.K) g m h.length H E Q (.ok (.tup ds) h)) (rh : RH g m h H) (rv : Rvs g.K m h.length H vs ds) (hq : H q = none) : Q (.ref q) (upd H q (.tup vs)) :=
  p m _ _ (Ex.fresh hq NT.tup) (rh.fresh hq NT.tup) (.tup (.inr ⟨.inl upd_same, rh.off hq⟩) (rv.mono (Ex.fresh hq NT.tup)))
/-- a list comes out: a value, or an object of the ideal heap -/
def outL (r : Bool) (xs : List D) (h : IH) : Out D := if r then .ok (.ref h.length) (h ++ [.lst xs]) else .ok (.vl xs) h
theorem upd_keeps {H : Hp} {q : Addr} {o : HO} (hq : H q = none) : ∀ a u, H a = some u → upd H q o a = some u := fun a u e => by rw [upd_ne (ne_of_none e hq)]; exact e
theorem Post.lref {q : Addr} {vs : List V} {ds : List D} (p : Post (Rv g.K) g m h.length H E Q (.ok (.ref h.length) (h ++ [.lst ds]))) (rh : RH g m h H) (rv : Rvs g.K m h.length H vs ds) (hq : H q = none) : Q (.ref q) (upd H q (.lst vs)) := by
  have hl : (h ++ [O.lst ds]).length = h.length + 1 := by simp
  have ex : Ex m h.length H (put m h.length q) (h.length + 1) (upd H q (.lst vs)) := Ex.alloc hq (upd_keeps hq)
  refine p (put m h.length q) _ _ (by rw [hl]; exact ex) (rh.alloc hq (upd_keeps hq) ⟨vs, upd_same, rv.mono ex⟩) ?_
  rw [hl]
  have z := Rv.ref (K := g.K) (m := put m h.length q) (n := h.length + 1) (H := upd H q (.lst vs)) (Nat.lt_succ_self h.length)
  rw [put_same] at z
  exact z
theorem Post.outL {r : Bool} {q : Addr} {vs : List V} {ds : List D} (p : Post (Rv g.K) g m h.length H E Q (outL r ds h)) (rh : RH g m h H) (rv : Rvs g.K m h.length H vs ds) (hq : H q = none) : Q (.ref q) (upd H q (.lst vs)) := by
  cases r with
  | true => exact Post.lref p rh rv hq
  | false => exact Post.vl p rh rv hq
/-- a list is read -/
def lstAt (h : IH) (i : Nat) : Option (List D) := match h[i]? with
  | some (.lst xs) => some xs
  | _ => none
theorem lstAt_ok {i : Nat} {xs : List D} (e : lstAt h i = some xs) : h[i]? = some (.lst xs) := by
  unfold lstAt at e
  split at e
  · rename_i q
    cases e
    exact q
  · cases e
theorem lstAt_of {i : Nat} {xs : List D} (e : h[i]? = some (.lst xs)) : lstAt h i = some xs := by
  unfold lstAt
  rw [e]
def getL (h : IH) : D → Option (List D)
  | .vl xs => some xs
  | .fl xs => some xs
  | .ref i => lstAt h i
  | _ => none
def getT : D → Option (List D)
  | .tup xs => some xs
  | _ => none
theorem RH.lst {i : Nat} {ds : List D} (rh : RH g m h H) (e : h[i]? = some (.lst ds)) : ∃ vs, H (m i) = some (.lst vs) ∧ Rvs g.K m h.length H vs ds := rh.obj i _ e
theorem getL_ok {v : V} {d : D} {xs : List D} (rh : RH g m h H) (rv : Rv g.K m h.length H v d) (e : getL h d = some xs) : ∃ a vs, v = .ref a ∧ SqL g.K H a vs ∧ Rvs g.K m h.length H vs xs := by
  cases rv with
  | vl h1 _ r =>
    cases e
    exact ⟨_, _, rfl, SqL.of h1, r⟩
  | fl h1 r =>
    cases e
    rcases h1 with h1 | ⟨h1, _⟩
    · exact ⟨_, _, rfl, .inr h1, r⟩
    · exact ⟨_, _, rfl, .inl h1, r⟩
  | ref hi =>
    rename_i i
    obtain ⟨vs, h1, h2⟩ := rh.lst (lstAt_ok (show lstAt h i = some xs from e))
    exact ⟨_, _, rfl, SqL.of h1, h2⟩
  | _ => cases e
theorem getT_ok {v : V} {d : D} {xs : List D} (rv : Rv g.K m h.length H v d) (e : getT d = some xs) : ∃ a vs, v = .ref a ∧ SqT g.K H a vs ∧ Rvs g.K m h.length H vs xs := by
  cases rv with
  | tup h1 r =>
    cases e
    rcases h1 with h1 | ⟨h1, _⟩
    · exact ⟨_, _, rfl, .inr h1, r⟩
    · exact ⟨_, _, rfl, .inl h1, r⟩
  | _ => cases e
/-- one that is tracked and not locked -/
def getM (h : IH) : D → Option (List D)
  | .vl xs => some xs
  | .ref i => lstAt h i
  | _ => none
theorem getM_ok {v : V} {d : D} {xs : List D} (rh : RH g m h H) (rv : Rv g.K m h.length H v d) (e : getM h d = some xs) : ∃ a vs, v = .ref a ∧ H a = some (.lst vs) ∧ Rvs g.K m h.length H vs xs := by
  cases rv with
  | vl h1 _ r =>
    cases e
    exact ⟨_, _, rfl, h1, r⟩
  | ref hi =>
    rename_i i
    obtain ⟨vs, h1, h2⟩ := rh.lst (lstAt_ok (show lstAt h i = some xs from e))
    exact ⟨_, _, rfl, h1, h2⟩
  | _ => cases e
end

section
variable {X : Cx} {T : TF} {E : XK} {a b c e : Expr} {es : List Expr} {pos : Pos} {f k f2 : ME}

/-! ### names and constants -/
def cE (d : D) : ME := fun _ h => .ok d h
def varE (i : Nat) : ME := fun en h => match en[i]? with
  | some (some d) => .ok d h
  | _ => .bad
theorem de_var (i : Nat) {x : Str} (hN : X.N[i]? = some x := by rfl) (hv : Vis X.env.scope x := by first | exact Or.inl rfl | exact Or.inr (Or.inl rfl) | exact Or.inr (Or.inr rfl)) (hd : (x == ("__debug__" : Str)) = false := by decide)
    (hcd : (x == ("__classdict__" : Str)) = false := by decide) : DE X T E (.Name x pos) (varE i) := by
  refine PE.imp (pe_var hN hv hd hcd) fun σ H Q ⟨m, h, en, r, p⟩ => ?_
  unfold varE at p
  cases q : en[i]? with
  | none => rw [q] at p; exact p.elim
  | some o =>
    cases o with
    | none => rw [q] at p; exact p.elim
    | some d =>
      rw [q] at p
      obtain ⟨v, h1, h2⟩ := r.env i d q
      exact ⟨v, h1, p.val r.rh h2⟩
theorem de_int {i : Int} {j : Nat} : DE X T E (.Constant (.int i) j pos) (cE (.int i)) := PE.imp pe_int fun _ _ _ ⟨_, _, _, r, p⟩ => Post.val p r.rh (.int i)
theorem de_bl {i : Bool} {j : Nat} : DE X T E (.Constant (.bool i) j pos) (cE (.bl i)) := PE.imp pe_bl fun _ _ _ ⟨_, _, _, r, p⟩ => Post.val p r.rh (.bl i)
theorem de_non {j : Nat} : DE X T E (.Constant .none j pos) (cE .non) := PE.imp pe_non fun _ _ _ ⟨_, _, _, r, p⟩ => Post.val p r.rh .non
theorem de_str {i : Str} {j : Nat} : DE X T E (.Constant (.str i) j pos) (cE (.str i)) := PE.imp pe_str fun _ _ _ ⟨_, _, _, r, p⟩ => Post.val p r.rh (.str i)
/-- what the module's name x stands for -/
def GloIs (K : PySem.W.Frag) (mg : Str → Option Value) (x : Str) (d : D) : Prop := ∃ (v : V) (u : Value), mg x = some u ∧ RelV v u ∧ ∀ m n H, Rv K m n H v d
theorem de_glob {x : Str} {d : D} (hg : Gl X x) (hm : GloIs X.K X.mg x d) (hd : (x == ("__debug__" : Str)) = false := by decide) : DE X T E (.Name x pos) (cE d) := by
  obtain ⟨v, u, h1, h2, h3⟩ := hm
  exact PE.imp (pe_glob hg h1 h2 hd) fun _ _ _ ⟨_, _, _, r, p⟩ => Post.val p r.rh (h3 _ _ _)
theorem GloIs.int {K : PySem.W.Frag} {mg : Str → Option Value} {x : Str} {i : Int} (h : ∃ t, mg x = some (.int i t)) : GloIs K mg x (.int i) := by
  obtain ⟨t, h⟩ := h
  exact ⟨.int i, _, h, ⟨t, rfl⟩, fun _ _ _ => .int i⟩

/-! ### operators -/
def op2 (o : D → D → IH → Out D) (f k : ME) : ME := fun en h => (f en h).bind fun x h1 => (k en h1).bind fun y h2 => o x y h2
def op1 (o : D → IH → Out D) (f : ME) : ME := fun en h => (f en h).bind o
def OpS (g : G) (r : R2) (o : D → D → IH → Out D) : Prop := ∀ (m : Mp) (h : IH) (H : Hp) (x y : V) (dx dy : D) (E : XK) (Q : VK), RH g m h H → Rv g.K m h.length H x dx → Rv g.K m h.length H y dy →
  Post (Rv g.K) g m h.length H E Q (o dx dy h) → r x y H Q
def UnS (g : G) (r : V → Hp → VK → Prop) (o : D → IH → Out D) : Prop := ∀ (m : Mp) (h : IH) (H : Hp) (x : V) (dx : D) (E : XK) (Q : VK), RH g m h H → Rv g.K m h.length H x dx →
  Post (Rv g.K) g m h.length H E Q (o dx h) → r x H Q
theorem red2 {r : R2} {o : D → D → IH → Out D} {σ : L2.St} {H : Hp} {Q : VK} (hs : OpS (gX X T) r o) (q : LE (gX X T) E (op2 o f k) σ H Q) : tOp r (LE (gX X T) E f) (LE (gX X T) E k) σ H Q := by
  obtain ⟨m, h, en, rel, p⟩ := q
  exact chain rel p fun m1 h1 H1 v d e1 rel1 rv1 p1 => chain rel1 p1 fun m2 h2 H2 w d2 e2 rel2 rv2 p2 => hs m2 h2 H2 v w d d2 E Q rel2.rh (rv1.mono e2) rv2 p2
theorem de_op {op : Operator} {r : R2} {o : D → D → IH → Out D} (ho : OpR X (binaryOp op) r) (hs : OpS (gX X T) r o) (ha : DE X T E a f) (hb : DE X T E b k) : DE X T E (.BinOp a op b pos) (op2 o f k) :=
  PE.imp (pe_op ho ha hb) fun _ _ _ q => red2 hs q
/-- a comparison by its rule -/
def CmpRule (X : Cx) (T : TF) (op : CmpOp) (o : D → D → IH → Out D) : Prop := ∃ r, OpR X (compareOp op) r ∧ OpS (gX X T) r o
theorem de_cmp {op : CmpOp} {o : D → D → IH → Out D} (c : CmpRule X T op o) (ha : DE X T E a f) (hb : DE X T E b k) (hm : behindInMarks op b = false := by first | exact nomark _ | rfl) : DE X T E (.Compare a [op] [b] pos) (op2 o f k) := by
  obtain ⟨r, ho, hs⟩ := c
  exact PE.imp (pe_cmpR ho ha hb hm) fun _ _ _ q => red2 hs q
theorem de_ix {r : R2} {o : D → D → IH → Out D} (ho : IxR X r) (hs : OpS (gX X T) r o) (ha : DE X T E a f) (hb : DE X T E b k) (hp : PlainIx b) : DE X T E (.Subscript a b pos) (op2 o f k) :=
  PE.imp (pe_ix ho ha hb hp) fun _ _ _ q => red2 hs q
theorem de_un {op : UnaryOp} {r : V → Hp → VK → Prop} {o : D → IH → Out D} (ho : UnR X (unaryOp op) r) (hs : UnS (gX X T) r o) (ha : DE X T E a f) : DE X T E (.UnaryOp op a pos) (op1 o f) :=
  PE.imp (pe_un ho ha) fun σ H Q ⟨m, h, en, rel, p⟩ => chain rel p fun m1 h1 H1 v d e1 rel1 rv1 p1 => hs m1 h1 H1 v d E Q rel1.rh rv1 p1

/-- under a condition -/
def grd {α : Type} (c : Bool) (o : Out α) : Out α := match c with
  | true => o
  | false => .bad
@[simp] theorem grd_true {α : Type} (o : Out α) : grd true o = o := rfl
theorem grd_of {α : Type} {c : Bool} (o : Out α) (h : c = true) : grd c o = o := by rw [h]; rfl
theorem Post.grd {α β : Type} {R : (Mp) → Nat → Hp → β → α → Prop} {g : G} {m : Mp} {n : Nat} {H : Hp} {E : XK} {Q : β → Hp → Prop} {c : Bool} {a : Out α} (p : Post R g m n H E Q (grd c a)) : c = true ∧ Post R g m n H E Q a := by
  cases c with
  | true => exact ⟨rfl, p⟩
  | false => exact p.elim
/-- two rules: the first where it has an answer -/
def Out.or {α : Type} (a b : Out α) : Out α := match a with
  | .bad => b
  | z => z
theorem Post.or {α β : Type} {R : (Mp) → Nat → Hp → β → α → Prop} {g : G} {m : Mp} {n : Nat} {H : Hp} {E : XK} {Q : β → Hp → Prop} {a b : Out α} (p : Post R g m n H E Q (a.or b)) : Post R g m n H E Q a ∨ Post R g m n H E Q b := by
  cases a with
  | bad => exact .inr p
  | ok d h => exact .inl p
  | err c h => exact .inl p
theorem OpS.or {g : G} {r r' : R2} {o o' : D → D → IH → Out D} (s : OpS g r o) (s' : OpS g r' o') : OpS g (fun x y H Q => r x y H Q ∨ r' x y H Q) (fun x y h => (o x y h).or (o' x y h)) := by
  intro m h H x y dx dy E Q rh rx ry p
  rcases Post.or p with p | p
  · exact .inl (s m h H x y dx dy E Q rh rx ry p)
  · exact .inr (s' m h H x y dx dy E Q rh rx ry p)

/-! ### ints -/
def i2 (c : Int → Int → Bool) (w : Int → Int → D) : D → D → IH → Out D
  | .int i, .int j, h => grd (c i j) (.ok (w i j) h)
  | _, _, _ => .bad
theorem i2_ok {g : G} {C : Int → Int → Prop} {c : Int → Int → Bool} {z : Int → Int → V} {w : Int → Int → D} (hc : ∀ i j, c i j = true → C i j) (hz : ∀ K m n H i j, Rv K m n H (z i j) (w i j)) : OpS g (rI C z) (i2 c w) := by
  intro m h H x y dx dy E Q rh rx ry p
  cases dx with
  | int i =>
    cases dy with
    | int j =>
      cases rx
      cases ry
      obtain ⟨e, p⟩ := Post.grd (show Post (Rv g.K) g m h.length H E Q (grd (c i j) (.ok (w i j) h)) from p)
      exact ⟨i, j, rfl, rfl, hc i j e, p.val rh (hz _ _ _ _ i j)⟩
    | _ => exact p.elim
  | _ => exact p.elim
def i20 (w : Int → Int → D) : D → D → IH → Out D
  | .int i, .int j, h => .ok (w i j) h
  | _, _, _ => .bad
theorem i20_ok {g : G} {z : Int → Int → V} {w : Int → Int → D} (hz : ∀ K m n H i j, Rv K m n H (z i j) (w i j)) : OpS g (rI0 z) (i20 w) := by
  intro m h H x y dx dy E Q rh rx ry p
  cases dx with
  | int i =>
    cases dy with
    | int j =>
      cases rx
      cases ry
      exact ⟨i, j, rfl, rfl, p.val rh (hz _ _ _ _ i j)⟩
    | _ => exact p.elim
  | _ => exact p.elim
def subD : D → D → IH → Out D := i20 fun i j => .int (i - j)
theorem de_sub (ha : DE X T E a f) (hb : DE X T E b k) : DE X T E (.BinOp a .Sub b pos) (op2 subD f k) := de_op op_sub (i20_ok fun _ _ _ _ _ _ => .int _) ha hb
/-- a size that is sure -/
def mulOk (i j : Int) : Bool := decide (i.natAbs < 2 ^ 64) || decide (j.natAbs < 2 ^ 64) || decide (i.natAbs.log2 + j.natAbs.log2 < 1000000)
theorem op_mulX : OpR X (binaryOp .Mult) (rI (fun i j => mulOk i j = true) fun i j => .int (i * j)) := opI fun i j _ _ _ _ _ hc q => by
  refine mul_int q ?_
  unfold mulOk at hc
  simp only [Bool.or_eq_true, decide_eq_true_eq] at hc
  rcases hc with (hc | hc) | hc
  · exact CMul.ok (.inl (by omega))
  · exact CMul.ok (.inr (by omega))
  · exact CMulW.ok hc
def mulI : D → D → IH → Out D := i2 mulOk fun i j => .int (i * j)
/-- a list so many times -/
def repD (r : Bool) : D → D → IH → Out D := fun x y h => match getM h x, y with
  | some xs, .int k => grd (decide (-(2 ^ 63) ≤ k) && decide (k < 2 ^ 63) && decide (xs.length * k.toNat ≤ sizeLine)) (outL r (List.replicate k.toNat xs).flatten h)
  | _, _ => .bad
theorem Rvs.rep {K : PySem.W.Frag} {m : Mp} {n : Nat} {H : Hp} {vs : List V} {ds : List D} (r : Rvs K m n H vs ds) : ∀ k : Nat, Rvs K m n H (List.replicate k vs).flatten (List.replicate k ds).flatten
  | 0 => .nil
  | k + 1 => by
    rw [List.replicate_succ, List.replicate_succ, List.flatten_cons, List.flatten_cons]
    exact r.append (Rvs.rep r k)
theorem repD_ok {g : G} {r : Bool} : OpS g rRep (repD r) := by
  intro m h H x y dx dy E Q rh rx ry p
  unfold repD at p
  cases e : getM h dx with
  | none => rw [e] at p; exact p.elim
  | some xs =>
    rw [e] at p
    obtain ⟨l, vs, rfl, h1, h2⟩ := getM_ok rh rx e
    cases dy with
    | int j =>
      cases ry
      · obtain ⟨hc, p⟩ := Post.grd p
        simp only [Bool.and_eq_true, decide_eq_true_eq] at hc
        refine ⟨l, j, vs, rfl, rfl, h1, hc.1.1, hc.1.2, by rw [h2.length]; exact hc.2, fun q hq => p.outL rh (h2.rep _) hq⟩
    | _ => exact p.elim
def mulD (r : Bool) : D → D → IH → Out D := fun x y h => (mulI x y h).or (repD r x y h)
theorem de_mul (r : Bool) (ha : DE X T E a f) (hb : DE X T E b k) : DE X T E (.BinOp a .Mult b pos) (op2 (mulD r) f k) :=
  de_op (op_mulX.or op_rep) ((i2_ok (fun _ _ h => h) fun _ _ _ _ _ _ => .int _).or repD_ok) ha hb
def fdivD : D → D → IH → Out D := i2 (fun _ j => decide (0 < j) && decide (j.natAbs.log2 < 9000)) fun i j => .int (i / j)
theorem de_fdiv (ha : DE X T E a f) (hb : DE X T E b k) : DE X T E (.BinOp a .FloorDiv b pos) (op2 fdivD f k) :=
  de_op op_fdivW (i2_ok (fun _ _ h => by simp only [Bool.and_eq_true, decide_eq_true_eq] at h; exact h) fun _ _ _ _ _ _ => .int _) ha hb
def modD : D → D → IH → Out D := i2 (fun _ j => decide (0 < j)) fun i j => .int (i % j)
theorem de_mod (ha : DE X T E a f) (hb : DE X T E b k) : DE X T E (.BinOp a .Mod b pos) (op2 modD f k) := de_op op_mod (i2_ok (fun _ _ h => of_decide_eq_true h) fun _ _ _ _ _ _ => .int _) ha hb
def powD : D → D → IH → Out D := i2 (fun i j => decide (0 ≤ j) && decide (j ≤ 1000000) && decide (i.natAbs < 2 ^ 64)) fun i j => .int (i ^ j.toNat)
theorem de_pow (ha : DE X T E a f) (hb : DE X T E b k) : DE X T E (.BinOp a .Pow b pos) (op2 powD f k) :=
  de_op op_pow (i2_ok (fun _ _ h => by simp only [Bool.and_eq_true, decide_eq_true_eq] at h; exact ⟨h.1.1, h.1.2, h.2⟩) fun _ _ _ _ _ _ => .int _) ha hb
def negD : D → IH → Out D
  | .int i, h => .ok (.int (-i)) h
  | _, _ => .bad
theorem de_neg (ha : DE X T E a f) : DE X T E (.UnaryOp .USub a pos) (op1 negD f) := de_un un_neg (fun m h H x dx E Q rh rx p => by
  cases dx with
  | int i =>
    cases rx
    exact ⟨i, rfl, p.val rh (.int _)⟩
  | _ => exact p.elim) ha

/-! ### + -/
def addI : D → D → IH → Out D := i20 fun i j => .int (i + j)
def addS : D → D → IH → Out D
  | .str i, .str j, h => grd (decide (i.length + j.length ≤ sizeLine)) (.ok (.str (i ++ j)) h)
  | _, _, _ => .bad
def addT : D → D → IH → Out D
  | .tup xs, .tup ys, h => grd (decide (xs.length + ys.length ≤ sizeLine)) (.ok (.tup (xs ++ ys)) h)
  | _, _, _ => .bad
def addL (r : Bool) : D → D → IH → Out D := fun x y h => match getM h x, getM h y with
  | some xs, some ys => grd (decide (xs.length + ys.length ≤ sizeLine)) (outL r (xs ++ ys) h)
  | _, _ => .bad
theorem addS_ok {g : G} : OpS g (fun x y H Q => ∃ i j, x = .str i ∧ y = .str j ∧ i.length + j.length ≤ sizeLine ∧ Q (.str (i ++ j)) H) addS := by
  intro m h H x y dx dy E Q rh rx ry p
  cases dx with
  | str i =>
    cases dy with
    | str j =>
      cases rx
      cases ry
      obtain ⟨hc, p⟩ := Post.grd p
      exact ⟨i, j, rfl, rfl, of_decide_eq_true hc, p.val rh (.str _)⟩
    | _ => exact p.elim
  | _ => exact p.elim
theorem addT_ok {g : G} : OpS g (rCatA g.K) addT := by
  intro m h H x y dx dy E Q rh rx ry p
  cases dx with
  | tup xs =>
    cases dy with
    | tup ys =>
      obtain ⟨a, vs, rfl, s1, r1⟩ := getT_ok rx (show getT (.tup xs) = some xs from rfl)
      obtain ⟨b, ws, rfl, s2, r2⟩ := getT_ok ry (show getT (.tup ys) = some ys from rfl)
      obtain ⟨hc, p⟩ := Post.grd p
      have hc := of_decide_eq_true hc
      refine ⟨a, b, vs, ws, rfl, rfl, s1, s2, by rw [r1.length, r2.length]; exact hc, ?_, ?_, ?_⟩
      · intro z
        rw [z] at r1
        cases r1
        rw [List.nil_append] at p
        exact p.val rh ry
      · intro _ z
        rw [z] at r2
        cases r2
        rw [List.append_nil] at p
        exact p.val rh rx
      · intro _ _ q hq
        exact p.tup rh (r1.append r2) hq
    | _ => exact p.elim
  | _ => exact p.elim
theorem addL_ok {g : G} {r : Bool} : OpS g rCat (addL r) := by
  intro m h H x y dx dy E Q rh rx ry p
  unfold addL at p
  cases e : getM h dx with
  | none => rw [e] at p; exact p.elim
  | some xs =>
    cases e2 : getM h dy with
    | none => rw [e, e2] at p; exact p.elim
    | some ys =>
      rw [e, e2] at p
      obtain ⟨l, vs, rfl, h1, r1⟩ := getM_ok rh rx e
      obtain ⟨l2, ws, rfl, h2, r2⟩ := getM_ok rh ry e2
      obtain ⟨hc, p⟩ := Post.grd p
      exact ⟨l, l2, vs, ws, rfl, rfl, h1, h2, by rw [r1.length, r2.length]; exact of_decide_eq_true hc, fun q hq => p.outL rh (r1.append r2) hq⟩
def addD (r : Bool) : D → D → IH → Out D := fun x y h => (addI x y h).or ((addT x y h).or ((addL r x y h).or (addS x y h)))
theorem de_add (r : Bool) (ha : DE X T E a f) (hb : DE X T E b k) : DE X T E (.BinOp a .Add b pos) (op2 (addD r) f k) :=
  de_op (op_add.or (op_catA.or (op_cat.or op_add_str))) ((i20_ok fun _ _ _ _ _ _ => .int _).or (addT_ok.or (addL_ok.or addS_ok))) ha hb

/-! ### comparisons -/
def ltD : D → D → IH → Out D := i20 fun i j => .bl (decide (i < j))
def leD : D → D → IH → Out D := i20 fun i j => .bl (decide (i ≤ j))
def gtD : D → D → IH → Out D := i20 fun i j => .bl (decide (j < i))
def geD : D → D → IH → Out D := i20 fun i j => .bl (decide (j ≤ i))
theorem cr_lt : CmpRule X T .Lt ltD := ⟨_, op_lt, i20_ok fun _ _ _ _ _ _ => .bl _⟩
theorem cr_le : CmpRule X T .LtE leD := ⟨_, op_le, i20_ok fun _ _ _ _ _ _ => .bl _⟩
theorem cr_gt : CmpRule X T .Gt gtD := ⟨_, op_gt, i20_ok fun _ _ _ _ _ _ => .bl _⟩
theorem cr_ge : CmpRule X T .GtE geD := ⟨_, op_ge, i20_ok fun _ _ _ _ _ _ => .bl _⟩
def isNoneD : D → Bool
  | .non => true
  | _ => false
def isN : D → IH → Out D := fun x h => .ok (.bl (isNoneD x)) h
def isNN : D → IH → Out D := fun x h => .ok (.bl (!isNoneD x)) h
theorem isNone_ok {K : PySem.W.Frag} {m : Mp} {n : Nat} {H : Hp} {v : V} {d : D} (r : Rv K m n H v d) : decide (v = .non) = isNoneD d := by
  cases r <;> rfl
theorem de_isN {j : Nat} {pos' : Pos} (ha : DE X T E a f) : DE X T E (.Compare a [.Is] [.Constant .none j pos'] pos) (op1 isN f) :=
  PE.imp (pe_cmp (pc_isN ha)) fun σ H Q ⟨m, h, en, rel, p⟩ => chain rel p fun m1 h1 H1 v d e1 rel1 rv1 p1 => by
    rw [isNone_ok rv1]
    exact p1.val rel1.rh (.bl _)
theorem de_isNN {j : Nat} {pos' : Pos} (ha : DE X T E a f) : DE X T E (.Compare a [.IsNot] [.Constant .none j pos'] pos) (op1 isNN f) :=
  PE.imp (pe_cmp (pc_notN ha)) fun σ H Q ⟨m, h, en, rel, p⟩ => chain rel p fun m1 h1 H1 v d e1 rel1 rv1 p1 => by
    rw [isNone_ok rv1]
    exact p1.val rel1.rh (.bl _)

/-- data as a whole -/
def optAll {α β : Type} (f : α → Option β) : List α → Option (List β)
  | [] => some []
  | x :: xs => match f x, optAll f xs with
    | some y, some ys => some (y :: ys)
    | _, _ => none
/-- data as it stands, objects that are lists read off the heap -/
def res (h : IH) : Nat → D → Option D
  | _, .non => some .non
  | _, .bl b => some (.bl b)
  | _, .int i => some (.int i)
  | _, .str x => if PyData.strOk x then some (.str x) else none
  | _, .wd n => some (.wd n)
  | n + 1, .tup xs => (optAll (res h n) xs).map .tup
  | n + 1, .vl xs => (optAll (res h n) xs).map .vl
  | n + 1, .fl xs => (optAll (res h n) xs).map .vl
  | n + 1, .ref i => match lstAt h i with
    | some xs => (optAll (res h n) xs).map .vl
    | none => none
  | 0, _ => none
mutual
def py : D → PyData
  | .non => .none
  | .bl b => .bool b
  | .int i => .int i
  | .str x => .str x
  | .wd n => .str (wds n)
  | .tup xs => .tuple (pys xs)
  | .vl xs => .list (pys xs)
  | .fl xs => .list (pys xs)
  | .ref _ => .none
def pys : List D → List PyData
  | [] => []
  | x :: xs => py x :: pys xs
end
mutual
def eqW : D → D → Bool
  | .non, y => match y with
    | .non => true
    | _ => false
  | .bl a, y => match y with
    | .bl b => a == b
    | .int j => (if a then 1 else 0) == j
    | _ => false
  | .int i, y => match y with
    | .int j => i == j
    | .bl b => i == (if b then 1 else 0)
    | _ => false
  | .str x, y => match y with
    | .str z => x == z
    | .wd n => x == wds n
    | _ => false
  | .wd n, y => match y with
    | .wd k => n == k
    | .str z => wds n == z
    | _ => false
  | .tup xs, y => match y with
    | .tup ys => eqWs xs ys
    | _ => false
  | .vl xs, y => match y with
    | .vl ys => eqWs xs ys
    | _ => false
  | .fl _, _ => false
  | .ref _, _ => false
def eqWs : List D → List D → Bool
  | [], ys => match ys with
    | [] => true
    | _ :: _ => false
  | x :: xs, ys => match ys with
    | [] => false
    | y :: ys => eqW x y && eqWs xs ys
end
mutual
inductive Good : Nat → D → Prop
  | non (k : Nat) : Good k .non
  | bl (k : Nat) (b : Bool) : Good k (.bl b)
  | int (k : Nat) (i : Int) : Good k (.int i)
  | str (k : Nat) {x : Str} : PyData.strOk x = true → Good k (.str x)
  | wd (k : Nat) {n : Nat} : n < nW → Good k (.wd n)
  | tup {k : Nat} {xs : List D} : Goods k xs → Good (k + 1) (.tup xs)
  | vl {k : Nat} {xs : List D} : Goods k xs → Good (k + 1) (.vl xs)
inductive Goods : Nat → List D → Prop
  | nil (k : Nat) : Goods k []
  | cons {k : Nat} {x : D} {xs : List D} : Good k x → Goods k xs → Goods k (x :: xs)
end
theorem strOk_wds {n : Nat} (h : n < nW) : PyData.strOk (wds n) = true := by
  have hl : n < words.length := by rw [words_len]; exact h
  have e : wds n = words[n] := by unfold wds; rw [List.getD_eq_getElem?_getD, List.getElem?_eq_getElem hl]; rfl
  rw [e]
  exact List.all_eq_true.mp words_ok _ (List.getElem_mem hl)
mutual
theorem Good.lay : ∀ {k : Nat} {d : D}, Good k d → (py d).canLay0 = true ∧ (py d).depth ≤ k
  | _, _, .non k => by simp [py, PyData.canLay0, PyData.depth]
  | _, _, .bl k b => by simp [py, PyData.canLay0, PyData.depth]
  | _, _, .int k i => by simp [py, PyData.canLay0, PyData.depth]
  | _, _, .str k h => by simp [py, PyData.canLay0, PyData.depth, h]
  | _, _, .wd k h => by simp [py, PyData.canLay0, PyData.depth, strOk_wds h]
  | _, _, .tup h => by
    have := Goods.lay h
    simp only [py, PyData.canLay0, PyData.depth]
    exact ⟨this.1, by omega⟩
  | _, _, .vl h => by
    have := Goods.lay h
    simp only [py, PyData.canLay0, PyData.depth]
    exact ⟨this.1, by omega⟩
theorem Goods.lay : ∀ {k : Nat} {ds : List D}, Goods k ds → PyData.canLayAll0 (pys ds) = true ∧ PyData.depthAll (pys ds) ≤ k
  | _, _, .nil k => by simp [pys, PyData.canLayAll0, PyData.depthAll]
  | _, _, .cons a b => by
    have h1 := Good.lay a
    have h2 := Goods.lay b
    simp only [pys, PyData.canLayAll0, PyData.depthAll, Bool.and_eq_true]
    exact ⟨⟨h1.1, h2.1⟩, by omega⟩
end
theorem beq_wds {n k : Nat} (hn : n < nW) (hk : k < nW) : (n == k) = (wds n == wds k) := by
  by_cases e : n = k
  · subst e; simp
  · have : wds n ≠ wds k := fun z => e (words_nd n hn k hk z)
    rw [beq_eq_false_iff_ne.mpr e, beq_eq_false_iff_ne.mpr this]
mutual
theorem Good.eqv : ∀ {k j : Nat} {d e : D}, Good k d → Good j e → eqW d e = PyData.eqv (py d) (py e)
  | _, _, _, _, .non _, b => by cases b <;> simp [eqW, py, PyData.eqv]
  | _, _, _, _, .bl _ _, b => by cases b <;> simp [eqW, py, PyData.eqv]
  | _, _, _, _, .int _ _, b => by cases b <;> simp [eqW, py, PyData.eqv]
  | _, _, _, _, .str _ _, b => by cases b <;> simp [eqW, py, PyData.eqv]
  | _, _, _, _, .wd _ h, b => by
    cases b with
    | wd _ h2 => simp only [eqW, py, PyData.eqv]; exact beq_wds h h2
    | _ => simp [eqW, py, PyData.eqv]
  | _, _, _, _, .tup h, b => by
    cases b with
    | tup h2 => simp only [eqW, py, PyData.eqv]; exact Goods.eqv h h2
    | _ => simp [eqW, py, PyData.eqv]
  | _, _, _, _, .vl h, b => by
    cases b with
    | vl h2 => simp only [eqW, py, PyData.eqv]; exact Goods.eqv h h2
    | _ => simp [eqW, py, PyData.eqv]
theorem Goods.eqv : ∀ {k j : Nat} {d e : List D}, Goods k d → Goods j e → eqWs d e = PyData.eqvAll (pys d) (pys e)
  | _, _, _, _, .nil _, b => by cases b <;> simp [eqWs, pys, PyData.eqvAll]
  | _, _, _, _, .cons h1 h2, b => by
    cases b with
    | nil => simp [eqWs, pys, PyData.eqvAll]
    | cons g1 g2 => simp only [eqWs, pys, PyData.eqvAll]; rw [Good.eqv h1 g1, Goods.eqv h2 g2]
end
theorem optAll_ok {α β : Type} {f : α → Option β} : ∀ {xs : List α} {ys : List β}, optAll f xs = some ys → Paired (fun x y => f x = some y) xs ys
  | [], ys, h => by cases h; exact .nil
  | x :: xs, ys, h => by
    unfold optAll at h
    split at h
    · rename_i y ys' h1 h2
      cases h
      exact .cons h1 (optAll_ok h2)
    · cases h
theorem res_ok {g : G} {m : Mp} {h : IH} {H : Hp} (rh : RH g m h H) : ∀ (k : Nat) {v : V} {d x : D}, Rv g.K m h.length H v d → res h k d = some x → Good k x ∧ Dp g.K H v (py x) := by
  have lists : ∀ (k : Nat), (∀ {v : V} {d x : D}, Rv g.K m h.length H v d → res h k d = some x → Good k x ∧ Dp g.K H v (py x)) → ∀ {vs : List V} {ds xs : List D}, Rvs g.K m h.length H vs ds → optAll (res h k) ds = some xs → Goods k xs ∧ DpAll g.K H vs (pys xs) := by
    intro k ih vs ds xs r e
    have q := optAll_ok e
    clear e
    induction q generalizing vs with
    | nil => cases r; exact ⟨.nil k, .nil⟩
    | cons h1 _ ih2 =>
      cases r with
      | cons r1 r2 =>
        have a := ih r1 h1
        have b := ih2 r2
        exact ⟨.cons a.1 b.1, .cons a.2 b.2⟩
  intro k
  induction k with
  | zero =>
    intro v d x r e
    cases r with
    | non => cases e; exact ⟨.non _, .non⟩
    | bl b => cases e; exact ⟨.bl _ _, .bl _⟩
    | int i => cases e; exact ⟨.int _ _, .int _⟩
    | str y =>
      unfold res at e
      split at e
      · cases e; exact ⟨.str _ (by assumption), .str _⟩
      · cases e
    | wd h1 h2 => cases e; rw [h2]; exact ⟨.wd _ h1, .str _⟩
    | _ => cases e
  | succ k ih =>
    intro v d x r e
    cases r with
    | non => cases e; exact ⟨.non _, .non⟩
    | bl b => cases e; exact ⟨.bl _ _, .bl _⟩
    | int i => cases e; exact ⟨.int _ _, .int _⟩
    | str y =>
      unfold res at e
      split at e
      · cases e; exact ⟨.str _ (by assumption), .str _⟩
      · cases e
    | wd h1 h2 => cases e; rw [h2]; exact ⟨.wd _ h1, .str _⟩
    | tup h1 r =>
      obtain ⟨ys, e1, rfl⟩ := Option.map_eq_some_iff.mp (show (optAll (res h k) _).map D.tup = some x from e)
      have q := lists k ih r e1
      refine ⟨.tup q.1, .tup ?_ q.2⟩
      rcases h1 with h1 | h1
      · exact .inr h1
      · exact .inl h1.1
    | vl h1 h2 r =>
      obtain ⟨ys, e1, rfl⟩ := Option.map_eq_some_iff.mp (show (optAll (res h k) _).map D.vl = some x from e)
      have q := lists k ih r e1
      exact ⟨.vl q.1, .lst (SqL.of h1) q.2⟩
    | fl h1 r =>
      obtain ⟨ys, e1, rfl⟩ := Option.map_eq_some_iff.mp (show (optAll (res h k) _).map D.vl = some x from e)
      have q := lists k ih r e1
      refine ⟨.vl q.1, .lst ?_ q.2⟩
      rcases h1 with h1 | h1
      · exact .inr h1
      · exact .inl h1.1
    | ref hi =>
      rename_i i
      unfold res at e
      split at e
      · rename_i ys h1
        obtain ⟨zs, e1, rfl⟩ := Option.map_eq_some_iff.mp e
        obtain ⟨vs, q1, q2⟩ := rh.lst (lstAt_ok h1)
        have q := lists k ih q2 e1
        exact ⟨.vl q.1, .lst (SqL.of q1) q.2⟩
      · cases e
/-- how deep data is looked at -/
def dp : Nat := 8
def eqD : D → D → IH → Out D := fun x y h => match res h dp x, res h dp y with
  | some a, some b => .ok (.bl (eqW a b)) h
  | _, _ => .bad
def neD : D → D → IH → Out D := fun x y h => match res h dp x, res h dp y with
  | some a, some b => .ok (.bl (!eqW a b)) h
  | _, _ => .bad
theorem Good.shaped {k : Nat} {d : D} (q : Good k d) (hk : k ≤ 64) : SeqAt.shaped (py d) = true := by
  have := q.lay
  unfold SeqAt.shaped
  rw [Bool.and_eq_true]
  exact ⟨this.1, decide_eq_true (by omega)⟩
theorem eqD_ok {g : G} : OpS g (rEqD g.K) eqD := by
  intro m h H x y dx dy E Q rh rx ry p
  unfold eqD at p
  cases e1 : res h dp dx with
  | none => rw [e1] at p; exact p.elim
  | some a =>
    cases e2 : res h dp dy with
    | none => rw [e1, e2] at p; exact p.elim
    | some b =>
      rw [e1, e2] at p
      obtain ⟨g1, d1⟩ := res_ok rh dp rx e1
      obtain ⟨g2, d2⟩ := res_ok rh dp ry e2
      refine ⟨py a, py b, d1, d2, g1.shaped (by decide), g2.shaped (by decide), ?_⟩
      rw [← Good.eqv g1 g2]
      exact Post.val p rh (.bl _)
theorem neD_ok {g : G} : OpS g (rNeD g.K) neD := by
  intro m h H x y dx dy E Q rh rx ry p
  unfold neD at p
  cases e1 : res h dp dx with
  | none => rw [e1] at p; exact p.elim
  | some a =>
    cases e2 : res h dp dy with
    | none => rw [e1, e2] at p; exact p.elim
    | some b =>
      rw [e1, e2] at p
      obtain ⟨g1, d1⟩ := res_ok rh dp rx e1
      obtain ⟨g2, d2⟩ := res_ok rh dp ry e2
      refine ⟨py a, py b, d1, d2, g1.shaped (by decide), g2.shaped (by decide), ?_⟩
      rw [← Good.eqv g1 g2]
      exact Post.val p rh (.bl _)
theorem cr_eq {n : Nat} (hr : Room n X.A) : CmpRule X T .Eq eqD := ⟨_, op_eqD hr.units, eqD_ok⟩
theorem cr_ne {n : Nat} (hr : Room n X.A) : CmpRule X T .NotEq neD := ⟨_, op_neD hr.units, neD_ok⟩
end
end DL

set_option Elab.async false
set_option linter.all false
set_option maxRecDepth 100000
set_option autoImplicit false
/-! Tests, arguments, calls of built-ins, displays, subscripts, fields. -/
namespace DL
open PySem PySem.Spec PyProof.Rows L2

theorem Post.bind {α β γ δ : Type} {R : (Mp) → Nat → Hp → β → α → Prop} {R2 : (Mp) → Nat → Hp → δ → γ → Prop} {g : G} {E : XK} {o : Out α} {k : α → IH → Out γ} {H : Hp} {Q : δ → Hp → Prop} {m : Mp} {n : Nat} {P : β → Hp → Prop}
    (p : Post R2 g m n H E Q (o.bind k))
    (ok : ∀ m' h' H' v d, Ex m n H m' h'.length H' → RH g m' h' H' → R m' h'.length H' v d → Post R2 g m' h'.length H' E Q (k d h') → P v H') : Post R g m n H E P o := by
  cases o with
  | ok d h' =>
    intro m' H' v a b c
    refine ok m' h' H' v d a b c ?_
    have p : Post R2 g m n H E Q (k d h') := p
    cases e2 : k d h' with
    | ok d2 h2 =>
      rw [e2] at p
      exact fun m2 H2 v2 a2 b2 c2 => p m2 H2 v2 (a.trans a2) b2 c2
    | err c2 h2 =>
      rw [e2] at p
      exact fun m2 H2 C2 a2 b2 c2 => p m2 H2 C2 (a.trans a2) b2 c2
    | bad =>
      rw [e2] at p
      exact p
  | err c h' => exact p
  | bad => exact p

section
variable {X : Cx} {T : TF} {E : XK} {a b c e : Expr} {es rest : List Expr} {pos : Pos} {f k l : ME} {tA tB : MT}

/-! ### tests -/
def asB (d : D) (h : IH) : Out Bool := match d with
  | .bl b => .ok b h
  | _ => .bad
@[simp] theorem asB_bl (b : Bool) (h : IH) : asB (.bl b) h = .ok b h := rfl
def tst (f : ME) : MT := fun en h => (f en h).bind asB
theorem asB_post {g : G} {m : Mp} {n : Nat} {h : IH} {H : Hp} {Q : Bool → Hp → Prop} {v : V} {d : D} (rh : RH g m h H) (rv : Rv g.K m h.length H v d) (p : Post RB g m h.length H E Q (asB d h)) : ∃ c, v = .bl c ∧ Q c H := by
  cases d with
  | bl b =>
    cases rv
    exact ⟨b, rfl, p m H b (Ex.refl _ _ _) rh rfl⟩
  | _ => exact p.elim
theorem dt_cmp {op : CmpOp} {o : D → D → IH → Out D} (c : CmpRule X T op o) (ha : DE X T E a f) (hb : DE X T E b k) (hm : behindInMarks op b = false := by first | exact nomark _ | rfl) : DT X T E (.Compare a [op] [b] pos) (tst (op2 o f k)) := by
  obtain ⟨r, ho, hs⟩ := c
  refine PT.imp (pt_cmpR ho ha hb hm) fun σ H Q q => ?_
  obtain ⟨m, h, en, rel, p⟩ := q
  have p : Post RB (gX X T) m h.length H E Q ((op2 o f k en h).bind asB) := p
  have q : LE (gX X T) E (op2 o f k) σ H (fun x H' => ∃ k, x = .bl k ∧ Q k H') := chain rel p fun m1 h1 H1 v d e1 rel1 rv1 p1 => asB_post (n := 0) rel1.rh rv1 p1
  exact red2 hs q
theorem dt_val (ha : DE X T E a f) (he : ∀ whole, isTrue a X.env whole = (do let v ← whole; standAt a.pos; holding [v] (truthy v)) := by intro _; rfl) : DT X T E a (tst f) :=
  PT.imp (pt_val ha he) fun σ H Q ⟨m, h, en, rel, p⟩ => chain rel p fun m1 h1 H1 v d e1 rel1 rv1 p1 => asB_post (n := 0) rel1.rh rv1 p1
theorem dt_isN {j : Nat} {pos' : Pos} (ha : DE X T E a f) : DT X T E (.Compare a [.Is] [.Constant .none j pos'] pos) (tst (op1 isN f)) :=
  PT.imp (pt_cmp (pc_isN ha)) fun σ H Q ⟨m, h, en, rel, p⟩ => by
    have p : Post RB (gX X T) m h.length H E Q (((f en h).bind isN).bind asB) := p
    refine ⟨m, h, en, rel, ?_⟩
    cases e : f en h with
    | ok d h1 =>
      rw [e] at p
      intro m1 H1 v a1 b1 c1
      rw [isNone_ok c1]
      exact ⟨_, rfl, p m1 H1 _ a1 b1 rfl⟩
    | err c h1 => rw [e] at p; exact p
    | bad => rw [e] at p; exact p
theorem dt_isNN {j : Nat} {pos' : Pos} (ha : DE X T E a f) : DT X T E (.Compare a [.IsNot] [.Constant .none j pos'] pos) (tst (op1 isNN f)) :=
  PT.imp (pt_cmp (pc_notN ha)) fun σ H Q ⟨m, h, en, rel, p⟩ => by
    have p : Post RB (gX X T) m h.length H E Q (((f en h).bind isNN).bind asB) := p
    refine ⟨m, h, en, rel, ?_⟩
    cases e : f en h with
    | ok d h1 =>
      rw [e] at p
      intro m1 H1 v a1 b1 c1
      rw [isNone_ok c1]
      exact ⟨_, rfl, p m1 H1 _ a1 b1 rfl⟩
    | err c h1 => rw [e] at p; exact p
    | bad => rw [e] at p; exact p

/-! ### and, or, not -/
def DW (X : Cx) (T : TF) (E : XK) (e : Expr) (f : MT) : Prop := PW X e (LT (gX X T) E f)
theorem PW.imp {X : Cx} {e : Expr} {t t' : TT} (h : PW X e t) (q : ∀ σ H Q, t' σ H Q → t σ H Q) : PW X e t' := ⟨fun wh pins s σ H Q I w => h.run wh pins s σ H Q I (q σ H Q w)⟩
def andT (f k : MT) : MT := fun en h => (f en h).bind fun b h1 => match b with
  | true => k en h1
  | false => .ok false h1
def orT (f k : MT) : MT := fun en h => (f en h).bind fun b h1 => match b with
  | true => .ok true h1
  | false => k en h1
def notT (f : MT) : MT := fun en h => (f en h).bind fun b h1 => .ok (!b) h1
theorem dw_and1 (ha : DT X T E a tA) : DW X T E (.BoolOp .And [a] pos) tA := pw_and1 ha
theorem dw_or1 (ha : DT X T E a tA) : DW X T E (.BoolOp .Or [a] pos) tA := pw_or1 ha
theorem dw_and (ha : DT X T E a tA) (hb : DW X T E (.BoolOp .And (b :: rest) pos) tB) : DW X T E (.BoolOp .And (a :: b :: rest) pos) (andT tA tB) :=
  PW.imp (pw_and ha hb) fun σ H Q ⟨m, h, en, rel, p⟩ => chain rel p fun m1 h1 H1 v d e1 rel1 rv1 p1 => by
    cases (show v = d from rv1)
    cases v with
    | true => rw [if_pos rfl]; exact ⟨m1, h1, en, rel1, p1⟩
    | false => rw [if_neg Bool.false_ne_true]; exact p1 m1 H1 _ (Ex.refl _ _ _) rel1.rh rfl
theorem dw_or (ha : DT X T E a tA) (hb : DW X T E (.BoolOp .Or (b :: rest) pos) tB) : DW X T E (.BoolOp .Or (a :: b :: rest) pos) (orT tA tB) :=
  PW.imp (pw_or ha hb) fun σ H Q ⟨m, h, en, rel, p⟩ => chain rel p fun m1 h1 H1 v d e1 rel1 rv1 p1 => by
    cases (show v = d from rv1)
    cases v with
    | false => rw [if_neg Bool.false_ne_true]; exact ⟨m1, h1, en, rel1, p1⟩
    | true => rw [if_pos rfl]; exact p1 m1 H1 _ (Ex.refl _ _ _) rel1.rh rfl
theorem DW.dt {f : MT} (h : DW X T E e f) : DT X T E e f := L2.PW.pt h
theorem dt_not (ha : DT X T E a tA) : DT X T E (.UnaryOp .Not a pos) (notT tA) :=
  PT.imp (pt_not ha) fun σ H Q ⟨m, h, en, rel, p⟩ => chain rel p fun m1 h1 H1 v d e1 rel1 rv1 p1 => by
    cases (show v = d from rv1)
    exact p1 m1 H1 _ (Ex.refl _ _ _) rel1.rh rfl
/-- as values -/
def andE (f k : ME) : ME := fun en h => (f en h).bind fun x h1 => (asB x h1).bind fun b h2 => match b with
  | true => k en h2
  | false => .ok (.bl false) h2
def orE (f k : ME) : ME := fun en h => (f en h).bind fun x h1 => (asB x h1).bind fun b h2 => match b with
  | true => .ok (.bl true) h2
  | false => k en h2
def notD (x : D) (h : IH) : Out D := (asB x h).bind fun b h1 => .ok (.bl (!b)) h1
theorem de_one {op : BoolOp} (ha : DE X T E a f) : DE X T E (.BoolOp op [a] pos) f := pe_one ha
theorem de_and (ha : DE X T E a f) (hb : DE X T E (.BoolOp .And (b :: rest) pos) k) : DE X T E (.BoolOp .And (a :: b :: rest) pos) (andE f k) :=
  PE.imp (pe_and ha hb) fun σ H Q ⟨m, h, en, rel, p⟩ => chain rel p fun m1 h1 H1 v d e1 rel1 rv1 p1 => by
    cases d with
    | bl c =>
      cases rv1
      refine ⟨c, rfl, ?_⟩
      cases c with
      | true => rw [if_pos rfl]; exact ⟨m1, h1, en, rel1, p1⟩
      | false => rw [if_neg Bool.false_ne_true]; exact Post.val p1 rel1.rh (.bl _)
    | _ => exact p1.elim
theorem de_or (ha : DE X T E a f) (hb : DE X T E (.BoolOp .Or (b :: rest) pos) k) : DE X T E (.BoolOp .Or (a :: b :: rest) pos) (orE f k) :=
  PE.imp (pe_or ha hb) fun σ H Q ⟨m, h, en, rel, p⟩ => chain rel p fun m1 h1 H1 v d e1 rel1 rv1 p1 => by
    cases d with
    | bl c =>
      cases rv1
      refine ⟨c, rfl, ?_⟩
      cases c with
      | false => rw [if_neg Bool.false_ne_true]; exact ⟨m1, h1, en, rel1, p1⟩
      | true => rw [if_pos rfl]; exact Post.val p1 rel1.rh (.bl _)
    | _ => exact p1.elim
theorem de_not (ha : DE X T E a f) : DE X T E (.UnaryOp .Not a pos) (op1 notD f) :=
  PE.imp (pe_not ha) fun σ H Q ⟨m, h, en, rel, p⟩ => chain rel p fun m1 h1 H1 v d e1 rel1 rv1 p1 => by
    cases d with
    | bl c =>
      cases rv1
      exact ⟨c, rfl, Post.val p1 rel1.rh (.bl _)⟩
    | _ => exact p1.elim
def iteE (t : MT) (f k : ME) : ME := fun en h => (t en h).bind fun b h1 => match b with
  | true => f en h1
  | false => k en h1
theorem de_ifExp (hc : DT X T E c tA) (ha : DE X T E a f) (hb : DE X T E b k) : DE X T E (.IfExp c a b pos) (iteE tA f k) :=
  PE.imp (pe_ifExp hc ha hb) fun σ H Q ⟨m, h, en, rel, p⟩ => chain rel p fun m1 h1 H1 v d e1 rel1 rv1 p1 => by
    cases (show v = d from rv1)
    cases v with
    | true => rw [if_pos rfl]; exact ⟨m1, h1, en, rel1, p1⟩
    | false => rw [if_neg Bool.false_ne_true]; exact ⟨m1, h1, en, rel1, p1⟩
/-- a < b < c -/
def chE (o o' : D → D → IH → Out D) (f k l : ME) : ME := fun en h => (f en h).bind fun x h1 => (k en h1).bind fun y h2 => (o x y h2).bind fun z h3 => (asB z h3).bind fun b h4 => match b with
  | true => (l en h4).bind fun w h5 => o' y w h5
  | false => .ok (.bl false) h4
theorem redCh {r r' : R2} {o o' : D → D → IH → Out D} {σ : L2.St} {H : Hp} {Q : VK} (hs : OpS (gX X T) r o) (hs' : OpS (gX X T) r' o') (q : LE (gX X T) E (chE o o' f k l) σ H Q) : tChain r r' (LE (gX X T) E f) (LE (gX X T) E k) (LE (gX X T) E l) σ H Q := by
  obtain ⟨m, h, en, rel, p⟩ := q
  refine chain rel p fun m1 h1 H1 v d e1 rel1 rv1 p1 => chain rel1 p1 fun m2 h2 H2 w d2 e2 rel2 rv2 p2 => hs m2 h2 H2 v w d d2 E _ rel2.rh (rv1.mono e2) rv2 (Post.bind p2 fun m3 h3 H3 z d3 e3 rh3 rv3 p3 => ?_)
  cases d3 with
  | bl c =>
    cases rv3
    refine ⟨c, rfl, ?_⟩
    have rel3 := rel2.next e3 rh3
    cases c with
    | true =>
      rw [if_pos rfl]
      exact chain rel3 p3 fun m4 h4 H4 u d4 e4 rel4 rv4 p4 => hs' m4 h4 H4 w u d2 d4 E Q rel4.rh ((rv2.mono e3).mono e4) rv4 p4
    | false => rw [if_neg Bool.false_ne_true]; exact Post.val p3 rh3 (.bl _)
  | _ => exact p3.elim
theorem de_chain {op op' : CmpOp} {o o' : D → D → IH → Out D} (h1 : CmpRule X T op o) (h2 : CmpRule X T op' o') (ha : DE X T E a f) (hb : DE X T E b k) (hc : DE X T E c l) (hm : lastMarks [op, op'] [b, c] = false := by with_unfolding_all rfl) :
    DE X T E (.Compare a [op, op'] [b, c] pos) (chE o o' f k l) := by
  obtain ⟨r, ho, hs⟩ := h1
  obtain ⟨r', ho', hs'⟩ := h2
  exact PE.imp (pe_chain ho ho' ha hb hc hm) fun _ _ _ q => redCh hs hs' q
theorem dt_chain {op op' : CmpOp} {o o' : D → D → IH → Out D} (h1 : CmpRule X T op o) (h2 : CmpRule X T op' o') (ha : DE X T E a f) (hb : DE X T E b k) (hc : DE X T E c l) (hm : lastMarks [op, op'] [b, c] = false := by with_unfolding_all rfl) :
    DT X T E (.Compare a [op, op'] [b, c] pos) (tst (chE o o' f k l)) := by
  obtain ⟨r, ho, hs⟩ := h1
  obtain ⟨r', ho', hs'⟩ := h2
  refine PT.imp (pt_chain ho ho' ha hb hc hm) fun σ H Q q => ?_
  obtain ⟨m, h, en, rel, p⟩ := q
  have p : Post RB (gX X T) m h.length H E Q ((chE o o' f k l en h).bind asB) := p
  have q : LE (gX X T) E (chE o o' f k l) σ H (fun x H' => ∃ k, x = .bl k ∧ Q k H') := chain rel p fun m1 h1 H1 v d e1 rel1 rv1 p1 => asB_post (n := 0) rel1.rh rv1 p1
  exact redCh hs hs' q

/-! ### in -/
def flatD : D → Bool
  | .non => true
  | .bl _ => true
  | .int _ => true
  | .str _ => true
  | .wd _ => true
  | _ => false
theorem flat_ok {K : PySem.W.Frag} {m : Mp} {n : Nat} {H : Hp} {v : V} {d : D} (r : Rv K m n H v d) (q : flatD d = true) : flatV v = true := by
  cases r <;> first | rfl | cases q
theorem eqV_ok {K : PySem.W.Frag} {m : Mp} {n : Nat} {H : Hp} {v u : V} {d e : D} (r : Rv K m n H v d) (r' : Rv K m n H u e) (q : flatD d = true) (q' : flatD e = true) : eqV v u = eqW d e := by
  cases r with
  | non => cases r' <;> first | rfl | cases q'
  | bl => cases r' <;> first | rfl | cases q'
  | int => cases r' <;> first | rfl | cases q'
  | str =>
    cases r' with
    | wd h1 h2 => rw [h2]; rfl
    | _ => first | rfl | cases q'
  | wd h1 h2 =>
    cases r' with
    | wd h3 h4 =>
      rw [h2, h4]
      exact (beq_wds h1 h3).symm
    | str x => rw [h2]; rfl
    | _ => first | rfl | cases q'
  | _ => cases q
theorem flats_ok {K : PySem.W.Frag} {m : Mp} {n : Nat} {H : Hp} {x : V} {dx : D} (r : Rv K m n H x dx) (q : flatD dx = true) : ∀ {vs : List V} {ds : List D}, Rvs K m n H vs ds → ds.all flatD = true → vs.all flatV = true ∧ inV x vs = ds.any fun y => eqW y dx
  | _, _, .nil, _ => ⟨rfl, rfl⟩
  | _, _, .cons a b, h => by
    rw [List.all_cons, Bool.and_eq_true] at h
    have z := flats_ok r q b h.2
    refine ⟨by rw [List.all_cons, z.1, flat_ok a h.1]; rfl, ?_⟩
    show (eqV _ x || inV x _) = _
    rw [List.any_cons, z.2, eqV_ok a r h.1 q]
def getS (h : IH) (d : D) : Option (List D) := match getL h d with
  | some xs => some xs
  | none => getT d
def inD (neg : Bool) : D → D → IH → Out D := fun x y h => match getS h y with
  | some xs => grd (flatD x && xs.all flatD) (.ok (.bl (if neg then !(xs.any fun z => eqW z x) else xs.any fun z => eqW z x)) h)
  | none => .bad
theorem getS_ok {g : G} {m : Mp} {h : IH} {H : Hp} {v : V} {d : D} {xs : List D} (rh : RH g m h H) (rv : Rv g.K m h.length H v d) (e : getS h d = some xs) : ∃ a vs, v = .ref a ∧ (SqL g.K H a vs ∨ SqT g.K H a vs) ∧ Rvs g.K m h.length H vs xs := by
  unfold getS at e
  split at e
  · rename_i ys h1
    cases e
    obtain ⟨a, vs, e1, s, r⟩ := getL_ok rh rv h1
    exact ⟨a, vs, e1, .inl s, r⟩
  · obtain ⟨a, vs, e1, s, r⟩ := getT_ok rv e
    exact ⟨a, vs, e1, .inr s, r⟩
theorem inD_ok {g : G} {neg : Bool} : OpS g (rIn g.K neg) (inD neg) := by
  intro m h H x y dx dy E Q rh rx ry p
  unfold inD at p
  cases e : getS h dy with
  | none => rw [e] at p; exact p.elim
  | some xs =>
    rw [e] at p
    obtain ⟨hc, p⟩ := Post.grd p
    rw [Bool.and_eq_true] at hc
    obtain ⟨a, vs, rfl, s, r⟩ := getS_ok rh ry e
    have z := flats_ok rx hc.1 r hc.2
    refine ⟨a, vs, rfl, s, flat_ok rx hc.1, z.1, ?_⟩
    rw [z.2]
    exact Post.val p rh (.bl _)
theorem cr_in : CmpRule X T .In (inD false) := ⟨_, op_in_seq, inD_ok⟩
theorem cr_notin : CmpRule X T .NotIn (inD true) := ⟨_, op_notIn_seq, inD_ok⟩

/-! ### arguments, displays -/
def nilA : MA := fun _ h => .ok [] h
def consA (f : ME) (k : MA) : MA := fun en h => (f en h).bind fun x h1 => (k en h1).bind fun xs h2 => .ok (x :: xs) h2
theorem da_nil : DA X T E [] nilA := PA.imp pa_nil fun σ H Q ⟨m, h, en, rel, p⟩ => p m H [] (Ex.refl _ _ _) rel.rh .nil
theorem da_cons {t : MA} (ha : DE X T E e f) (hr : DA X T E es t) (hs : starEach (e :: es) X.env = (false, eval e X.env) :: starEach es X.env := by rfl) : DA X T E (e :: es) (consA f t) :=
  PA.imp (pa_cons ha hr hs) fun σ H Q ⟨m, h, en, rel, p⟩ => chain rel p fun m1 h1 H1 v d e1 rel1 rv1 p1 => chain rel1 p1 fun m2 h2 H2 vs ds e2 rel2 rv2 p2 => p2 m2 H2 _ (Ex.refl _ _ _) rel2.rh (.cons (rv1.mono e2) rv2)
def tupE (t : MA) : ME := fun en h => (t en h).bind fun xs h1 => grd (decide (xs.length ≤ sizeLine)) (.ok (.tup xs) h1)
def lstE (r : Bool) (t : MA) : ME := fun en h => (t en h).bind fun xs h1 => grd (decide (xs.length ≤ sizeLine)) (outL r xs h1)
theorem de_tup {t : MA} {x1 : Nat} (ha : DA X T E es t) : DE X T E (.Tuple es x1 pos) (tupE t) :=
  PE.imp (pe_tup ha) fun σ H Q ⟨m, h, en, rel, p⟩ => chain rel p fun m1 h1 H1 v d e1 rel1 rv1 p1 => by
    obtain ⟨hc, p1⟩ := Post.grd p1
    exact ⟨by rw [rv1.length]; exact of_decide_eq_true hc, fun q hq => p1.tup rel1.rh rv1 hq⟩
theorem de_lst (r : Bool) {t : MA} (ha : DA X T E es t) : DE X T E (.List es pos) (lstE r t) :=
  PE.imp (pe_lst ha) fun σ H Q ⟨m, h, en, rel, p⟩ => chain rel p fun m1 h1 H1 v d e1 rel1 rv1 p1 => by
    obtain ⟨hc, p1⟩ := Post.grd p1
    exact ⟨by rw [rv1.length]; exact of_decide_eq_true hc, fun q hq => p1.outL rel1.rh rv1 hq⟩

/-! ### built-ins by name -/
def callB (o : List D → IH → Out D) (t : MA) : ME := fun en h => (t en h).bind o
def ClS (g : G) (r : List V → Hp → VK → Prop) (o : List D → IH → Out D) : Prop := ∀ (m : Mp) (h : IH) (H : Hp) (vs : List V) (ds : List D) (E : XK) (Q : VK), RH g m h H → Rvs g.K m h.length H vs ds →
  Post (Rv g.K) g m h.length H E Q (o ds h) → r vs H Q
theorem de_callB {id : String} {r : List V → Hp → VK → Prop} {o : List D → IH → Out D} {t : MA} {x : Str} {p : Pos} (hc : CallR X (.builtin id) r) (hs : ClS (gX X T) r o) (hm : X.mg x = none) (hv : bootBuiltins x = some (.builtin id)) (ha : DA X T E (e :: es) t)
    (hg : Gl X x := by rfl) (hn : x ≠ "__name__" := by decide) (hdb : (x == ("__debug__" : Str)) = false := by decide)
    (he : starEach (e :: es) X.env = (false, eval e X.env) :: starEach es X.env := by rfl) (hpl : (backTo pos (starEach es X.env)).any (·.1) = false := by rfl) : DE X T E (.Call (.Name x p) (e :: es) [] pos) (callB o t) :=
  PE.imp (pe_callB hc hg hm hv ha hn hdb he hpl) fun σ H Q ⟨m, h, en, rel, p⟩ => chain rel p fun m1 h1 H1 v d e1 rel1 rv1 p1 => hs m1 h1 H1 v d E Q rel1.rh rv1 p1
theorem de_callTy {id : String} {r : List V → Hp → VK → Prop} {o : List D → IH → Out D} {t : MA} {x : Str} {p : Pos} (hc : CallR X (.type id) r) (hs : ClS (gX X T) r o) (hm : X.mg x = none) (hv : bootBuiltins x = some (.type id)) (ha : DA X T E (e :: es) t)
    (hg : Gl X x := by rfl) (hn : x ≠ "__name__" := by decide) (hdb : (x == ("__debug__" : Str)) = false := by decide)
    (he : starEach (e :: es) X.env = (false, eval e X.env) :: starEach es X.env := by rfl) (hpl : (backTo pos (starEach es X.env)).any (·.1) = false := by rfl) : DE X T E (.Call (.Name x p) (e :: es) [] pos) (callB o t) :=
  PE.imp (pe_callTy hc hg hm hv ha hn hdb he hpl) fun σ H Q ⟨m, h, en, rel, p⟩ => chain rel p fun m1 h1 H1 v d e1 rel1 rv1 p1 => hs m1 h1 H1 v d E Q rel1.rh rv1 p1
theorem Rvs.one {K : PySem.W.Frag} {m : Mp} {n : Nat} {H : Hp} {vs : List V} {d : D} (r : Rvs K m n H vs [d]) : ∃ v, vs = [v] ∧ Rv K m n H v d := by
  cases r with
  | cons a b => cases b; exact ⟨_, rfl, a⟩
theorem Rvs.two {K : PySem.W.Frag} {m : Mp} {n : Nat} {H : Hp} {vs : List V} {d e : D} (r : Rvs K m n H vs [d, e]) : ∃ v w, vs = [v, w] ∧ Rv K m n H v d ∧ Rv K m n H w e := by
  cases r with
  | cons a b =>
    cases b with
    | cons c z => cases z; exact ⟨_, _, rfl, a, c⟩
def lenD : List D → IH → Out D
  | [x], h => match x with
    | .str s => grd (decide (s.length ≤ sizeLine)) (.ok (.int s.length) h)
    | _ => match getS h x with
      | some xs => .ok (.int xs.length) h
      | none => .bad
  | _, _ => .bad
theorem lenD_ok {g : G} : ClS g (fun xs H Q => ∃ x n, xs = [x] ∧ LenV g.K x H n ∧ Q (.int n) H) lenD := by
  intro m h H vs ds E Q rh rv p
  cases ds with
  | nil => exact p.elim
  | cons d ds =>
    cases ds with
    | cons _ _ => exact p.elim
    | nil =>
      obtain ⟨v, rfl, r⟩ := rv.one
      have key : ∀ xs, getS h d = some xs → Post (Rv g.K) g m h.length H E Q (.ok (.int xs.length) h) → ∃ x n, [v] = [x] ∧ LenV g.K x H n ∧ Q (.int n) H := fun xs e p => by
        obtain ⟨a, vs, rfl, s, r2⟩ := getS_ok rh r e
        refine ⟨.ref a, vs.length, rfl, ?_, by rw [r2.length]; exact Post.val p rh (.int _)⟩
        rcases s with s | s
        · exact .inl ⟨vs, s, rfl⟩
        · exact .inr ⟨vs, s, rfl⟩
      cases d with
      | str s =>
        cases r
        obtain ⟨hc, p⟩ := Post.grd (show Post (Rv g.K) g m h.length H E Q (grd (decide (s.length ≤ sizeLine)) (.ok (.int s.length) h)) from p)
        exact ⟨.str s, s.length, rfl, ⟨of_decide_eq_true hc, rfl⟩, Post.val p rh (.int _)⟩
      | tup xs => exact key xs rfl p
      | vl xs => exact key xs rfl p
      | fl xs => exact key xs rfl p
      | ref i =>
        cases e : getS h (.ref i) with
        | none =>
          have p : Post (Rv g.K) g m h.length H E Q (match getS h (.ref i) with | some xs => .ok (.int xs.length) h | none => .bad) := p
          rw [e] at p
          exact p.elim
        | some xs =>
          have p : Post (Rv g.K) g m h.length H E Q (match getS h (.ref i) with | some xs => .ok (.int xs.length) h | none => .bad) := p
          rw [e] at p
          exact key xs e p
      | _ => exact p.elim
theorem de_len {t : MA} {p : Pos} (hm : X.mg "len" = none) (ha : DA X T E [e] t) (hg : Gl X "len" := by rfl) (he : starEach (e :: []) X.env = (false, eval e X.env) :: starEach [] X.env := by rfl) : DE X T E (.Call (.Name "len" p) [e] [] pos) (callB lenD t) :=
  de_callB call_len lenD_ok hm PySem.boot_len ha hg (by decide) (by decide) he

/-- bools of a list -/
def asBs : List D → Option (List Bool) := optAll fun d => match d with
  | .bl b => some b
  | _ => none
def asIs : List D → Option (List Int) := optAll fun d => match d with
  | .int b => some b
  | _ => none
theorem asBs_ok {ds : List D} {bs : List Bool} (h : asBs ds = some bs) : ds = bs.map D.bl := by
  have q := optAll_ok h
  clear h
  induction q with
  | nil => rfl
  | cons a _ ih =>
    rw [List.map_cons, ← ih]
    rename_i x y _ _ _
    cases x <;> first | (cases a; rfl) | cases a
theorem asIs_ok {ds : List D} {bs : List Int} (h : asIs ds = some bs) : ds = bs.map D.int := by
  have q := optAll_ok h
  clear h
  induction q with
  | nil => rfl
  | cons a _ ih =>
    rw [List.map_cons, ← ih]
    rename_i x y _ _ _
    cases x <;> first | (cases a; rfl) | cases a
def one (o : D → IH → Out D) : List D → IH → Out D
  | [x], h => o x h
  | _, _ => .bad
/-- a rule of one argument -/
theorem one_ok {g : G} {r : List V → Hp → VK → Prop} {o : D → IH → Out D} (h : ∀ (m : Mp) (h : IH) (H : Hp) (v : V) (d : D) (E : XK) (Q : VK), RH g m h H → Rv g.K m h.length H v d → Post (Rv g.K) g m h.length H E Q (o d h) → r [v] H Q) : ClS g r (one o) := by
  intro m hh H vs ds E Q rh rv p
  cases ds with
  | nil => exact p.elim
  | cons d ds =>
    cases ds with
    | cons _ _ => exact p.elim
    | nil =>
      obtain ⟨v, rfl, r⟩ := rv.one
      exact h m hh H v d E Q rh r p
def allD (x : D) (h : IH) : Out D := match getL h x with
  | some xs => (match asBs xs with
    | some bs => .ok (.bl (bs.all id)) h
    | none => .bad)
  | none => .bad
theorem de_all {t : MA} {p : Pos} (hc : X.calm = true) (hm : X.mg "all" = none) (ha : DA X T E [e] t) (hg : Gl X "all" := by rfl) (he : starEach (e :: []) X.env = (false, eval e X.env) :: starEach [] X.env := by rfl) : DE X T E (.Call (.Name "all" p) [e] [] pos) (callB (one allD) t) :=
  de_callB (cr_all hc) (one_ok fun m h H v d E Q rh r p => by
    unfold allD at p
    cases e : getL h d with
    | none => rw [e] at p; exact p.elim
    | some xs =>
      rw [e] at p
      cases e2 : asBs xs with
      | none => dsimp only at p; rw [e2] at p; exact p.elim
      | some bs =>
        dsimp only at p
        rw [e2] at p
        obtain ⟨a, vs, rfl, s, r2⟩ := getL_ok rh r e
        rw [asBs_ok e2] at r2
        rw [r2.bls] at s
        exact ⟨a, bs, rfl, s, Post.val p rh (.bl _)⟩) hm (by decide +kernel) ha hg (by decide) (by decide) he
def sumD (x : D) (h : IH) : Out D := match getL h x with
  | some xs => (match asIs xs with
    | some bs => .ok (.int bs.sum) h
    | none => .bad)
  | none => .bad
theorem de_sum {t : MA} {p : Pos} (hc : X.calm = true) (hm : X.mg "sum" = none) (ha : DA X T E [e] t) (hg : Gl X "sum" := by rfl) (he : starEach (e :: []) X.env = (false, eval e X.env) :: starEach [] X.env := by rfl) : DE X T E (.Call (.Name "sum" p) [e] [] pos) (callB (one sumD) t) :=
  de_callB (cr_sum hc) (one_ok fun m h H v d E Q rh r p => by
    unfold sumD at p
    cases e : getL h d with
    | none => rw [e] at p; exact p.elim
    | some xs =>
      rw [e] at p
      cases e2 : asIs xs with
      | none => dsimp only at p; rw [e2] at p; exact p.elim
      | some bs =>
        dsimp only at p
        rw [e2] at p
        obtain ⟨a, vs, rfl, s, r2⟩ := getL_ok rh r e
        rw [asIs_ok e2] at r2
        rw [r2.ints] at s
        exact ⟨a, bs, rfl, s, Post.val p rh (.int _)⟩) hm (by decide +kernel) ha hg (by decide) (by decide) he
def max2 : List D → IH → Out D
  | [.int i, .int j], h => .ok (.int (if j > i then j else i)) h
  | _, _ => .bad
def min2 : List D → IH → Out D
  | [.int i, .int j], h => .ok (.int (if j < i then j else i)) h
  | _, _ => .bad
theorem two_ok {g : G} {z : Int → Int → Int} {o : List D → IH → Out D} (ho : ∀ ds h, (∃ i j, ds = [.int i, .int j] ∧ o ds h = .ok (.int (z i j)) h) ∨ o ds h = .bad) : ClS g (fun xs H Q => ∃ i j, xs = [.int i, .int j] ∧ Q (.int (z i j)) H) o := by
  intro m h H vs ds E Q rh rv p
  rcases ho ds h with ⟨i, j, rfl, e⟩ | e
  · rw [e] at p
    obtain ⟨v, w, rfl, r1, r2⟩ := rv.two
    cases r1
    cases r2
    exact ⟨i, j, rfl, Post.val p rh (.int _)⟩
  · rw [e] at p
    exact p.elim
theorem de_max2 {t : MA} {p : Pos} {e2 : Expr} (hc : X.calm = true) (hm : X.mg "max" = none) (ha : DA X T E [e, e2] t) (hg : Gl X "max" := by rfl) (he : starEach [e, e2] X.env = (false, eval e X.env) :: starEach [e2] X.env := by rfl) (hpl : (backTo pos (starEach [e2] X.env)).any (·.1) = false := by rfl) :
    DE X T E (.Call (.Name "max" p) [e, e2] [] pos) (callB max2 t) :=
  de_callB (call_max2 hc) (two_ok (z := fun i j => if j > i then j else i) fun ds h => by unfold max2; split; exact .inl ⟨_, _, rfl, rfl⟩; exact .inr rfl) hm (by decide +kernel) ha hg (by decide) (by decide) he hpl
theorem de_min2 {t : MA} {p : Pos} {e2 : Expr} (hc : X.calm = true) (hm : X.mg "min" = none) (ha : DA X T E [e, e2] t) (hg : Gl X "min" := by rfl) (he : starEach [e, e2] X.env = (false, eval e X.env) :: starEach [e2] X.env := by rfl) (hpl : (backTo pos (starEach [e2] X.env)).any (·.1) = false := by rfl) :
    DE X T E (.Call (.Name "min" p) [e, e2] [] pos) (callB min2 t) :=
  de_callB (call_min2 hc) (two_ok (z := fun i j => if j < i then j else i) fun ds h => by unfold min2; split; exact .inl ⟨_, _, rfl, rfl⟩; exact .inr rfl) hm (by decide +kernel) ha hg (by decide) (by decide) he hpl

/-! ### isinstance with a built-in type -/
def tyD (h : IH) : D → Option String
  | .non => some "NoneType"
  | .bl _ => some "bool"
  | .int _ => some "int"
  | .str _ => some "str"
  | .wd _ => some "str"
  | .tup _ => some "tuple"
  | .vl _ => some "list"
  | .fl _ => some "list"
  | .ref i => match h[i]? with
    | some (.lst _) => some "list"
    | some (.dct _) => some "dict"
    | _ => none
inductive BT where
  | int | bool | str | list | tuple | dict
def BT.nm : BT → String
  | .int => "int"
  | .bool => "bool"
  | .str => "str"
  | .list => "list"
  | .tuple => "tuple"
  | .dict => "dict"
def isBT (h : IH) (t : BT) (d : D) : Option Bool := match d with
  | .non => some false
  | .bl _ => some (match t with | .bool => true | .int => true | _ => false)
  | .int _ => some (match t with | .int => true | _ => false)
  | .str _ => some (match t with | .str => true | _ => false)
  | .wd _ => some (match t with | .str => true | _ => false)
  | .tup _ => some (match t with | .tuple => true | _ => false)
  | .vl _ => some (match t with | .list => true | _ => false)
  | .fl _ => some (match t with | .list => true | _ => false)
  | .ref i => match h[i]? with
    | some (.lst _) => some (match t with | .list => true | _ => false)
    | some (.dct _) => some (match t with | .dict => true | _ => false)
    | _ => none
def isiD (t : BT) (d : D) (h : IH) : Out D := match isBT h t d with
  | some b => .ok (.bl b) h
  | none => .bad
theorem kt_cls {K : PySem.W.Frag} {a : Addr} {vs : List V} (h : KT K a vs) : ∃ o, K.lookup a = some o ∧ o.cls = .type "tuple" := by
  obtain ⟨o, _, _, h1, h2, _⟩ := h
  exact ⟨o, h1, h2⟩
theorem kl_cls {K : PySem.W.Frag} {a : Addr} {vs : List V} (h : KL K a vs) : ∃ o, K.lookup a = some o ∧ o.cls = .type "list" := by
  obtain ⟨o, _, _, h1, h2, _⟩ := h
  exact ⟨o, h1, h2⟩
theorem isBT_ok {g : G} {m : Mp} {h : IH} {H : Hp} {v : V} {d : D} {t : BT} {b : Bool} (rh : RH g m h H) (r : Rv g.K m h.length H v d) (e : isBT h t d = some b) : ∃ ty, TyX g.K H v ty ∧ PySem.W.kitOne g.K ty (.type t.nm) = some b := by
  cases r with
  | non => cases e; exact ⟨_, .base .non, kit_ty (by cases t <;> decide +kernel)⟩
  | bl x => cases e; exact ⟨_, .base (.bl x), kit_ty (by cases t <;> decide +kernel)⟩
  | int x => cases e; exact ⟨_, .base (.int x), kit_ty (by cases t <;> decide +kernel)⟩
  | str x => cases e; exact ⟨_, .base (.str x), kit_ty (by cases t <;> decide +kernel)⟩
  | wd h1 h2 => cases e; exact ⟨_, .base (.str _), kit_ty (by cases t <;> decide +kernel)⟩
  | tup h1 _ =>
    cases e
    refine ⟨.type "tuple", ?_, kit_ty (by cases t <;> decide +kernel)⟩
    rcases h1 with h1 | ⟨h1 | ⟨o, h1⟩, _⟩
    · obtain ⟨o, q1, q2⟩ := kt_cls h1
      exact .kTuple q1 q2
    · exact .base (.tup h1)
    · exact .fTuple h1
  | vl h1 _ _ => cases e; exact ⟨_, .base (.lst h1), kit_ty (by cases t <;> decide +kernel)⟩
  | fl h1 _ =>
    cases e
    refine ⟨.type "list", ?_, kit_ty (by cases t <;> decide +kernel)⟩
    rcases h1 with h1 | ⟨h1 | ⟨o, h1⟩, _⟩
    · obtain ⟨o, q1, q2⟩ := kl_cls h1
      exact .kList q1 q2
    · exact .base (.lst h1)
    · exact .base (.frz h1)
  | ref hi =>
    rename_i i
    unfold isBT at e
    dsimp only at e
    split at e
    · rename_i q
      obtain ⟨vs, h1, _⟩ := rh.obj i _ q
      cases e
      exact ⟨_, .base (.lst h1), kit_ty (by cases t <;> decide +kernel)⟩
    · rename_i q
      obtain ⟨vs, h1, _⟩ := rh.obj i _ q
      cases e
      exact ⟨_, .base (.dK h1), kit_ty (by cases t <;> decide +kernel)⟩
    · cases e
theorem de_isi (t : BT) {x : Str} {p p2 : Pos} (hm : X.mg "isinstance" = none) (hx : X.mg x = none) (hv : bootBuiltins x = some (.type t.nm)) (ha : DE X T E e f) (hg : Gl X "isinstance" := by rfl) (hgx : Gl X x := by rfl) (hn : x ≠ "__name__" := by decide) (hdb : (x == ("__debug__" : Str)) = false := by decide)
    (hs1 : starEach [e, .Name x p2] X.env = (false, eval e X.env) :: starEach [.Name x p2] X.env := by rfl) (hs2 : starEach [.Name x p2] X.env = (false, eval (.Name x p2) X.env) :: starEach [] X.env := by rfl) (hpl : (backTo pos (starEach [.Name x p2] X.env)).any (·.1) = false := by rfl) :
    DE X T E (.Call (.Name "isinstance" p) [e, .Name x p2] [] pos) (op1 (isiD t) f) :=
  PE.imp (pe_callB call_isi hg hm boot_isinstance (pa_cons ha (pa_cons (pe_bltn (v := .ty t.nm) hgx hx hv rfl hn hdb) pa_nil hs2) hs1) (by decide) (by decide) hs1 hpl) fun σ H Q ⟨m, h, en, rel, p⟩ => chain rel p fun m1 h1 H1 v d e1 rel1 rv1 p1 => by
    unfold isiD at p1
    cases q : isBT h1 t d with
    | none => rw [q] at p1; exact p1.elim
    | some b =>
      rw [q] at p1
      obtain ⟨ty, k1, k2⟩ := isBT_ok rel1.rh rv1 q
      exact ⟨v, .ty t.nm, ty, .type t.nm, b, rfl, .ty _, k1, k2, Post.val p1 rel1.rh (.bl _)⟩
end
end DL

set_option Elab.async false
set_option linter.all false
set_option maxRecDepth 100000
set_option autoImplicit false
/-! Subscripts, slices, fields, methods of lists, defs and their calls. -/
namespace DL
open PySem PySem.Spec PyProof.Rows L2

/-! ### equality of data -/
mutual
def D.beq : D → D → Bool
  | .non, y => match y with
    | .non => true
    | _ => false
  | .bl a, y => match y with
    | .bl b => a == b
    | _ => false
  | .int a, y => match y with
    | .int b => decide (a = b)
    | _ => false
  | .str a, y => match y with
    | .str b => decide (a = b)
    | _ => false
  | .wd a, y => match y with
    | .wd b => a == b
    | _ => false
  | .tup a, y => match y with
    | .tup b => D.beqs a b
    | _ => false
  | .vl a, y => match y with
    | .vl b => D.beqs a b
    | _ => false
  | .fl a, y => match y with
    | .fl b => D.beqs a b
    | _ => false
  | .ref a, y => match y with
    | .ref b => a == b
    | _ => false
def D.beqs : List D → List D → Bool
  | [], ys => match ys with
    | [] => true
    | _ :: _ => false
  | x :: xs, ys => match ys with
    | [] => false
    | y :: ys => D.beq x y && D.beqs xs ys
end
mutual
theorem D.beq_iff : ∀ (x y : D), D.beq x y = true ↔ x = y
  | .non, y => by cases y <;> simp [D.beq]
  | .bl a, y => by cases y <;> simp [D.beq]
  | .int a, y => by cases y <;> simp [D.beq]
  | .str a, y => by cases y <;> simp [D.beq]
  | .wd a, y => by cases y <;> simp [D.beq]
  | .ref a, y => by cases y <;> simp [D.beq]
  | .tup a, y => by
    cases y with
    | tup b => simp only [D.beq, D.tup.injEq]; exact D.beqs_iff a b
    | _ => simp [D.beq]
  | .vl a, y => by
    cases y with
    | vl b => simp only [D.beq, D.vl.injEq]; exact D.beqs_iff a b
    | _ => simp [D.beq]
  | .fl a, y => by
    cases y with
    | fl b => simp only [D.beq, D.fl.injEq]; exact D.beqs_iff a b
    | _ => simp [D.beq]
theorem D.beqs_iff : ∀ (x y : List D), D.beqs x y = true ↔ x = y
  | [], y => by cases y <;> simp [D.beqs]
  | a :: x, y => by
    cases y with
    | nil => simp [D.beqs]
    | cons b y =>
      simp only [D.beqs, Bool.and_eq_true, List.cons.injEq]
      rw [D.beq_iff a b, D.beqs_iff x y]
end
instance : DecidableEq D := fun x y => decidable_of_iff (D.beq x y = true) (D.beq_iff x y)
def O.beq : O → O → Bool
  | .lst a, y => match y with
    | .lst b => decide (a = b)
    | _ => false
  | .dct a, y => match y with
    | .dct b => decide (a = b)
    | _ => false
  | .ins c a, y => match y with
    | .ins d b => decide (c = d) && decide (a = b)
    | _ => false
  | .frz a, y => match y with
    | .frz b => decide (a = b)
    | _ => false
  | .ext s a, y => match y with
    | .ext t b => decide (s = t) && decide (a = b)
    | _ => false
theorem O.beq_iff (x y : O) : O.beq x y = true ↔ x = y := by
  cases x <;> cases y <;> simp [O.beq]
instance : DecidableEq O := fun x y => decidable_of_iff (O.beq x y = true) (O.beq_iff x y)

/-! ### closed data, frozen data -/
mutual
def clB (n : Nat) : D → Bool
  | .ref i => decide (i < n)
  | .tup xs => clBs n xs
  | .vl xs => clBs n xs
  | .fl xs => clBs n xs
  | .non => true
  | .bl _ => true
  | .int _ => true
  | .str _ => true
  | .wd _ => true
def clBs (n : Nat) : List D → Bool
  | [] => true
  | x :: xs => clB n x && clBs n xs
end
section
variable {K : PySem.W.Frag} {m : Mp} {n n' : Nat} {H : Hp}
mutual
theorem Rv.closed : ∀ {v : V} {d : D}, Rv K m n H v d → clB n d = true
  | _, _, .non => rfl
  | _, _, .bl b => rfl
  | _, _, .int i => rfl
  | _, _, .str x => rfl
  | _, _, .wd _ _ => rfl
  | _, _, .tup _ r => Rvs.closed r
  | _, _, .vl _ _ r => Rvs.closed r
  | _, _, .fl _ r => Rvs.closed r
  | _, _, .ref hi => decide_eq_true hi
theorem Rvs.closed : ∀ {vs : List V} {ds : List D}, Rvs K m n H vs ds → clBs n ds = true
  | _, _, .nil => rfl
  | _, _, .cons a b => by
    show (clB n _ && clBs n _) = true
    rw [Rv.closed a, Rvs.closed b]
    rfl
end
theorem Off.less (h : n ≤ n') {a : Addr} (q : Off m n' a) : Off m n a := ⟨q.1, fun i hi => q.2 i (Nat.lt_of_lt_of_le hi h)⟩
mutual
theorem Rv.shrink (hn : n ≤ n') : ∀ {v : V} {d : D}, Rv K m n' H v d → clB n d = true → Rv K m n H v d
  | _, _, .non, _ => .non
  | _, _, .bl b, _ => .bl b
  | _, _, .int i, _ => .int i
  | _, _, .str x, _ => .str x
  | _, _, .wd h1 h2, _ => .wd h1 h2
  | _, _, .tup (.inl h) r, c => .tup (.inl h) (Rvs.shrink hn r c)
  | _, _, .tup (.inr h) r, c => .tup (.inr ⟨h.1, h.2.less hn⟩) (Rvs.shrink hn r c)
  | _, _, .vl h q r, c => .vl h (q.less hn) (Rvs.shrink hn r c)
  | _, _, .fl (.inl h) r, c => .fl (.inl h) (Rvs.shrink hn r c)
  | _, _, .fl (.inr h) r, c => .fl (.inr ⟨h.1, h.2.less hn⟩) (Rvs.shrink hn r c)
  | _, _, .ref _, c => .ref (of_decide_eq_true c)
theorem Rvs.shrink (hn : n ≤ n') : ∀ {vs : List V} {ds : List D}, Rvs K m n' H vs ds → clBs n ds = true → Rvs K m n H vs ds
  | _, _, .nil, _ => .nil
  | _, _, .cons a b, c => by
    have c' := Bool.and_eq_true_iff.mp (show (clB n _ && clBs n _) = true from c)
    exact .cons (Rv.shrink hn a c'.1) (Rvs.shrink hn b c'.2)
end
end
/-- what a def hands back that made it: lists of its own are values from now on -/
def fz (n : Nat) (h : IH) : Nat → D → Option D
  | 0, d => if clB n d then some d else none
  | k + 1, d => if clB n d then some d else match d with
    | .ref i => (match lstAt h i with
      | some xs => (optAll (fz n h k) xs).map .vl
      | none => none)
    | .tup xs => (optAll (fz n h k) xs).map .tup
    | .vl xs => (optAll (fz n h k) xs).map .vl
    | _ => none
theorem fz_ok {g : G} {m : Mp} {h : IH} {H : Hp} {n : Nat} (rh : RH g m h H) (hn : n ≤ h.length) : ∀ (k : Nat) {v : V} {d x : D}, Rv g.K m h.length H v d → fz n h k d = some x → Rv g.K m n H v x := by
  have lists : ∀ (k : Nat), (∀ {v : V} {d x : D}, Rv g.K m h.length H v d → fz n h k d = some x → Rv g.K m n H v x) → ∀ {vs : List V} {ds xs : List D}, Rvs g.K m h.length H vs ds → optAll (fz n h k) ds = some xs → Rvs g.K m n H vs xs := by
    intro k ih vs ds xs r e
    have q := optAll_ok e
    clear e
    induction q generalizing vs with
    | nil => cases r; exact .nil
    | cons h1 _ ih2 =>
      cases r with
      | cons r1 r2 => exact .cons (ih r1 h1) (ih2 r2)
  intro k
  induction k with
  | zero =>
    intro v d x r e
    unfold fz at e
    split at e
    · cases e; exact r.shrink hn (by assumption)
    · cases e
  | succ k ih =>
    intro v d x r e
    unfold fz at e
    split at e
    · cases e; exact r.shrink hn (by assumption)
    · rename_i nc
      split at e
      · rename_i i
        split at e
        · rename_i ys h1
          obtain ⟨zs, e1, rfl⟩ := Option.map_eq_some_iff.mp e
          obtain ⟨vs, q1, q2⟩ := rh.lst (lstAt_ok h1)
          cases r with
          | ref hi =>
            refine .vl q1 ⟨rh.npr i hi, fun j hj z => ?_⟩ (lists k ih q2 e1)
            have := rh.inj j i (Nat.lt_of_lt_of_le hj hn) hi z
            subst this
            exact nc (decide_eq_true hj)
        · cases e
      · obtain ⟨zs, e1, rfl⟩ := Option.map_eq_some_iff.mp e
        cases r with
        | tup h1 r =>
          refine .tup ?_ (lists k ih r e1)
          rcases h1 with h1 | h1
          · exact .inl h1
          · exact .inr ⟨h1.1, h1.2.less hn⟩
      · obtain ⟨zs, e1, rfl⟩ := Option.map_eq_some_iff.mp e
        cases r with
        | vl h1 h2 r => exact .vl h1 (h2.less hn) (lists k ih r e1)
      · cases e

/-! ### defs -/
/-- a def's promise from its function -/
def SpOf (g : G) (n : Nat) (F : List D → IH → Out D) : Sp := fun vs H Q E => vs.length = n ∧ ∃ m h ds, RH g m h H ∧ Rvs g.K m h.length H vs ds ∧ Post (Rv g.K) g m h.length H E Q (F ds h)
def PostS (g : G) (m : Mp) (n : Nat) (H : Hp) (E : XK) (D : Ends) : SO → Prop
  | .nx en h' => ∀ m' H' σ', Ex m n H m' h'.length H' → Rel g m' h' σ' en H' → D.nx σ' H'
  | .rt d h' => ∀ m' H' v, Ex m n H m' h'.length H' → RH g m' h' H' → Rv g.K m' h'.length H' v d → D.rt v H'
  | .bk en h' => ∀ m' H' σ', Ex m n H m' h'.length H' → Rel g m' h' σ' en H' → D.bk σ' H'
  | .ct en h' => ∀ m' H' σ', Ex m n H m' h'.length H' → Rel g m' h' σ' en H' → D.ct σ' H'
  | .err c h' => ∀ m' H' C, Ex m n H m' h'.length H' → RH g m' h' H' → g.mg (cnm c) = some (.ref C) → E (.ref C) none H'
  | .bad => False
def LS (g : G) (E : XK) (f : MS) : TS := fun D σ H => ∃ m h en, Rel g m h σ en H ∧ PostS g m h.length H E D (f en h)
def DS (X : Cx) (T : TF) (E : XK) (st : Stmt) (f : MS) : Prop := PS X st (LS (gX X T) E f)
def DSs (X : Cx) (T : TF) (E : XK) (st : List Stmt) (f : MS) : Prop := PSs X st (LS (gX X T) E f)
/-- the function of a body: N names -/
def fnF (N : Nat) (b : MS) : List D → IH → Out D := fun ds h => match b (ds.map some ++ List.replicate (N - ds.length) none) h with
  | .rt d h' => .ok d h'
  | .nx _ h' => .ok .non h'
  | .err c h' => .err c h'
  | _ => .bad
/-- .. of a def that leaves the heap as it was -/
def fnC (N : Nat) (b : MS) : List D → IH → Out D := fun ds h => match fnF N b ds h with
  | .ok d h' => if h'.take h.length = h then (match fz h.length h' 3 d with
    | some x => .ok x h
    | none => .bad) else .bad
  | .err c h' => if h'.take h.length = h then .err c h else .bad
  | .bad => .bad
theorem Ex.cut {m m' : Mp} {n n' : Nat} {H H' : Hp} (e : Ex m n H m' n' H') : Ex m n H m' n H' :=
  ⟨Nat.le_refl _, e.prot, e.same, fun i h1 h2 => absurd (Nat.lt_of_lt_of_le h2 h1) (Nat.lt_irrefl _), e.keep, e.dom, e.fz⟩
theorem RPs.closed {K : PySem.W.Frag} {m m' : Mp} {n n' : Nat} {H H' : Hp} (hn : n ≤ n') {l l2 : List (Key × V)} {l' : List (DK × D)} (r : RPs K m n H l l') (q : RPs K m' n' H' l2 l') : RPs K m' n H' l2 l' := by
  induction r generalizing l2 with
  | nil => cases q; exact .nil
  | cons a _ ih =>
    cases q with
    | cons b c => exact .cons ⟨b.1, b.2.1, b.2.2.shrink hn a.2.2.closed⟩ (ih c)
theorem RH.cut {g : G} {m m' : Mp} {h h' : IH} {H H' : Hp} (r : RH g m h H) (r' : RH g m' h' H') (e : Ex m h.length H m' h'.length H') (q : h'.take h.length = h) : RH g m' h H' where
  obj := fun i o hi => by
    have hil : i < h.length := (List.getElem?_eq_some_iff.mp hi).1
    have hi' : h'[i]? = some o := by
      rw [← q, List.getElem?_take_of_lt hil] at hi
      exact hi
    have a := r.obj i o hi
    have b := r'.obj i o hi'
    cases o with
    | lst ds =>
      obtain ⟨vs, _, a2⟩ := a
      obtain ⟨ws, b1, b2⟩ := b
      exact ⟨ws, b1, b2.shrink e.le a2.closed⟩
    | dct kvs =>
      obtain ⟨vs, _, a2⟩ := a
      obtain ⟨ws, b1, b2⟩ := b
      exact ⟨ws, b1, RPs.closed e.le a2 b2⟩
    | ins c fs =>
      obtain ⟨_, _, _, _, _, _, a2⟩ := a
      obtain ⟨C, dx, ws, b1, b2, b3, b4⟩ := b
      exact ⟨C, dx, ws, b1, b2, b3, b4.shrink e.le a2.closed⟩
    | frz kvs =>
      obtain ⟨_, vs, _, _, a2⟩ := a
      obtain ⟨od, ws, b1, b0, b2⟩ := b
      exact ⟨od, ws, b1, b0, RPs.closed e.le a2 b2⟩
    | ext t ds =>
      obtain ⟨_, vs, _, _, _, _, a2⟩ := a
      obtain ⟨φ, ws, b1, bf, b0, bc, b2⟩ := b
      exact ⟨φ, ws, b1, bf, b0, bc.as (fun _ _ z _ => z) (fun _ _ _ z i hi => z i (Nat.lt_of_lt_of_le hi e.le)), b2.shrink e.le a2.closed⟩
  inj := fun i j hi hj => r'.inj i j (Nat.lt_of_lt_of_le hi e.le) (Nat.lt_of_lt_of_le hj e.le)
  tab := r'.tab
  frm := fun p hp => (r.frm p hp).mono e.cut
  prt := r'.prt
  npr := fun i hi => r'.npr i (Nat.lt_of_lt_of_le hi e.le)
  fz1 := fun i o hi nf nx => by
    have hil : i < h.length := (List.getElem?_eq_some_iff.mp hi).1
    rw [← q, List.getElem?_take_of_lt hil] at hi
    exact r'.fz1 i o hi nf nx
  fz2 := r'.fz2
  fz3 := r'.fz3
theorem Post.cut {g : G} {m : Mp} {h : IH} {H : Hp} {E : XK} {Q : VK} {N : Nat} {b : MS} {ds : List D} (rh : RH g m h H) (p : Post (Rv g.K) g m h.length H E Q (fnC N b ds h)) : Post (Rv g.K) g m h.length H E Q (fnF N b ds h) := by
  unfold fnC at p
  cases e : fnF N b ds h with
  | bad => rw [e] at p; exact p
  | ok d h' =>
    rw [e] at p
    dsimp only at p
    split at p
    · rename_i q
      split at p
      · rename_i x hx
        intro m' H' v a1 a2 a3
        have hle := a1.le
        exact p m' H' v a1.cut (rh.cut a2 a1 q) (fz_ok a2 hle 3 a3 hx)
      · exact p.elim
    · exact p.elim
  | err c h' =>
    rw [e] at p
    dsimp only at p
    split at p
    · rename_i q
      intro m' H' C a1 a2 a3
      exact p m' H' C a1.cut (rh.cut a2 a1 q) a3
    · exact p.elim
theorem start_rel {g : G} {m : Mp} {h : IH} {H : Hp} {N : List Str} {vs : List V} {ds : List D} (rh : RH g m h H) (r : Rvs g.K m h.length H vs ds) : Rel g m h (start N vs) (ds.map some ++ List.replicate (N.length - ds.length) none) H := by
  have hl := r.length
  refine ⟨rh, ?_, fun i d hi => ?_⟩
  · unfold L2.start
    simp [hl]
  · by_cases hil : i < ds.length
    · rw [List.getElem?_append_left (by simpa using hil), List.getElem?_map] at hi
      cases e : ds[i]? with
      | none => rw [e] at hi; cases hi
      | some d' =>
        rw [e] at hi
        cases hi
        obtain ⟨v, h1, h2⟩ := r.get e
        refine ⟨v, ?_, h2⟩
        unfold L2.start
        rw [List.getElem?_append_left (by rw [List.length_map, hl]; exact hil), List.getElem?_map, h1]
        rfl
    · rw [List.getElem?_append_right (by simpa using hil)] at hi
      rw [List.getElem?_replicate] at hi
      split at hi <;> cases hi
section
variable {P : Program} {w : World} {K : PySem.W.Frag} {mg : Str → Option Value} {base : Heap} {T : TF}
/-- what a def's body is to show -/
def BodyOk (P : Program) (w : World) (K : PySem.W.Frag) (mg : Str → Option Value) (base : Heap) (T : TF) (qual : Str) (sc : Scope) (body : List Stmt) (N : List Str) (f : Addr) (cdv : Value) (k : Nat) (b : MS) : Prop :=
  ∀ (A : Around) (outer : List Env) (s : Shared) (H : Hp) (E : XK), PySem.W.codeIn K cdv qual = true → Room k (A.deeper (envOfC qual sc s.heap.objs.size f cdv)) →
    L2N.Takes (cxOf (L2N.CX P w) P w K mg base N qual sc f cdv A outer s H E) (fun cls d _ H => E cls d H) → PassesOwn (model P w) (A.deeper (envOfC qual sc s.heap.objs.size f cdv)) (envOfC qual sc s.heap.objs.size f cdv) (cxOf (L2N.CX P w) P w K mg base N qual sc f cdv A outer s H E).xe →
    DSs (cxOf (L2N.CX P w) P w K mg base N qual sc f cdv A outer s H E) T E body b
theorem spF_len {g : G} {n : Nat} {F : List D → IH → Out D} : ∀ vs H Q E, SpOf g n F vs H Q E → vs.length = n := fun _ _ _ _ h => h.1
theorem fn_ok {x qual : Str} {ar : Arguments} {body : List Stmt} {sc : Scope} {f : Addr} {fd : FuncData} {N ps : List Str} {k : Nat} {b : MS} (F : FunD K x qual ar body sc [] [] f fd) (S : FnScope N ps sc) (hb : BodyOk P w K mg base T qual sc body N f fd.code k b) :
    FnOk P w K mg base (L2N.CX P w) (k + 1) f fd ps (SpOf ⟨K, mg, T⟩ ps.length (fnF N.length b)) := by
  obtain ⟨⟨oc, od, dV, kV, doc, pm, an, cdv, ct, osl, rfl, lk, hcd, _⟩, _⟩ := F
  refine fn_of lk hcd S spF_len fun A outer s H vs Q E hr hsp => ?_
  obtain ⟨hl, m, h, ds, rh, rv, p⟩ := hsp
  refine ⟨_, hb A outer s H E hcd hr (L2N.takes_of rfl rfl rfl rfl) (passes_of rfl), m, h, _, start_rel rh rv, ?_⟩
  unfold fnF at p
  cases e : b (ds.map some ++ List.replicate (N.length - ds.length) none) h with
  | nx en h' => rw [e] at p; exact fun m' H' σ' a1 a2 => p m' H' _ a1 a2.rh .non
  | rt d h' => rw [e] at p; exact p
  | bk en h' => rw [e] at p; exact p.elim
  | ct en h' => rw [e] at p; exact p.elim
  | err c h' => rw [e] at p; exact p
  | bad => rw [e] at p; exact p.elim
theorem fn_okC {x qual : Str} {ar : Arguments} {body : List Stmt} {sc : Scope} {f : Addr} {fd : FuncData} {N ps : List Str} {k : Nat} {b : MS} (F : FunD K x qual ar body sc [] [] f fd) (S : FnScope N ps sc) (hb : BodyOk P w K mg base T qual sc body N f fd.code k b) :
    FnOk P w K mg base (L2N.CX P w) (k + 1) f fd ps (SpOf ⟨K, mg, T⟩ ps.length (fnC N.length b)) :=
  (fn_ok F S hb).imp fun vs H Q E ⟨hl, m, h, ds, rh, rv, p⟩ => ⟨hl, m, h, ds, rh, rv, Post.cut rh p⟩
end

section
variable {X : Cx} {T : TF} {E : XK} {a b c e o : Expr} {es rest : List Expr} {pos : Pos} {f k l : ME}
/-- what the body of a def, of a comprehension wants of errors -/
abbrev Tk (X : Cx) (E : XK) : Prop := L2N.Takes X (fun cls d _ H => E cls d H)
def callF (n : Nat) (F : List D → IH → Out D) (t : MA) : ME := fun en h => (t en h).bind fun ds h1 => grd (decide (ds.length = n)) (F ds h1)
/-- a def as it may be called: its place, its function, its level -/
structure CallOk (X : Cx) (T : TF) (x : Str) (k n : Nat) (F : List D → IH → Out D) : Prop where
  ex : ∃ f fd ps, ps.length = n ∧ X.mg x = some (.ref f) ∧ PySem.W.keepIn X.K (.ref f) = true ∧ Binds X.K fd ps [] ∧ FnOk X.prog X.w X.K X.mg X.base (L2N.CX X.prog X.w) k f fd ps (SpOf (gX X T) n F)
theorem de_call {x : Str} {k n : Nat} {F : List D → IH → Out D} {t : MA} {p : Pos} (G : CallOk X T x k n F) (hr : Room k X.A) (tk : Tk X E) (ha : DA X T E (e :: es) t) (hg : Gl X x := by rfl) (hdb : (x == ("__debug__" : Str)) = false := by decide)
    (he : starEach (e :: es) X.env = (false, eval e X.env) :: starEach es X.env := by rfl) (hpl : (backTo pos (starEach es X.env)).any (·.1) = false := by rfl) : DE X T E (.Call (.Name x p) (e :: es) [] pos) (callF n F t) := by
  obtain ⟨f, fd, ps, hn, hm, hk, hb, G⟩ := G.ex
  refine PE.imp (pe_call (E := E) G hr hg hm hk hb .nil (L2N.passes_call tk fun _ _ _ _ h => h) ha hdb he hpl) fun σ H Q ⟨m, h, en, rel, p⟩ => chain rel p fun m1 h1 H1 v d e1 rel1 rv1 p1 => ?_
  obtain ⟨hc, p1⟩ := Post.grd p1
  rw [List.append_nil]
  exact ⟨by rw [rv1.length]; exact of_decide_eq_true hc, m1, h1, d, rel1.rh, rv1, p1⟩
theorem de_call0 {x : Str} {k : Nat} {F : List D → IH → Out D} {p : Pos} (G : CallOk X T x k 0 F) (hr : Room k X.A) (tk : Tk X E) (hg : Gl X x := by rfl) (hdb : (x == ("__debug__" : Str)) = false := by decide) : DE X T E (.Call (.Name x p) [] [] pos) (callF 0 F nilA) := by
  obtain ⟨f, fd, ps, hn, hm, hk, hb, G⟩ := G.ex
  exact PE.imp (pe_call0 (E := E) G hr hg hm hk hb .nil (L2N.passes_call tk fun _ _ _ _ h => h) hdb) fun σ H Q ⟨m, h, en, rel, p⟩ => ⟨rfl, m, h, [], rel.rh, .nil, p⟩

/-! ### instances -/
/-- the class's facts -/
structure ClOk (K : PySem.W.Frag) (mg : Str → Option Value) (c : Nat) : Prop where
  ex : ∃ C, mg (cnm c) = some (.ref C) ∧ Cls K C ∧ ∀ f ∈ flds c, NoAttr K C f
def insAt (h : IH) (c : Nat) : D → Option (Nat × List D)
  | .ref i => match h[i]? with
    | some (.ins c' fs) => if c' = c then some (i, fs) else none
    | _ => none
  | _ => none
theorem insAt_ok {h : IH} {c i : Nat} {d : D} {fs : List D} (e : insAt h c d = some (i, fs)) : d = .ref i ∧ h[i]? = some (.ins c fs) := by
  unfold insAt at e
  split at e
  · split at e
    · rename_i q
      split at e
      · rename_i hc
        cases e
        rw [← hc]
        exact ⟨rfl, q⟩
      · cases e
    · cases e
  · cases e
theorem flds_nd (c : Nat) : (flds c).Nodup := by
  unfold flds
  split <;> first | decide +kernel | exact List.nodup_nil
theorem lookup_ix {K : PySem.W.Frag} {m : Mp} {n : Nat} {H : Hp} {x : Str} : ∀ {fvs : List (Str × V)} {ns : List Str} {fs : List D} {j : Nat} {d : D}, fvs.map (·.1) = ns.take fs.length → ns.Nodup → Rvs K m n H (fvs.map (·.2)) fs → ns[j]? = some x → fs[j]? = some d → ∃ v, fvs.lookup x = some v ∧ Rv K m n H v d
  | [], ns, fs, j, d, h1, _, r, _, hd => by
    cases r
    simp at hd
  | (y, v) :: fvs, ns, fs, j, d, h1, nd, r, hx, hd => by
    cases r with
    | cons a b =>
      cases ns with
      | nil => simp at h1
      | cons z ns =>
        rw [List.map_cons, List.length_cons, List.take_succ_cons, List.cons.injEq] at h1
        have e1 : y = z := h1.1
        subst e1
        cases j with
        | zero =>
          simp at hx hd
          subst hx hd
          exact ⟨v, by simp [List.lookup], a⟩
        | succ j =>
          simp at hx hd
          have hne : x ≠ y := fun z => by
            have hm : x ∈ ns := List.mem_of_getElem? hx
            rw [z] at hm
            exact (List.nodup_cons.mp nd).1 hm
          obtain ⟨u, h2, h3⟩ := lookup_ix h1.2 (List.nodup_cons.mp nd).2 b hx hd
          exact ⟨u, by simp only [List.lookup]; rw [beq_eq_false_iff_ne.mpr hne]; exact h2, h3⟩
def fldD (c j : Nat) (x : D) (h : IH) : Out D := match insAt h c x with
  | some (_, fs) => (match fs[j]? with
    | some d => .ok d h
    | none => .bad)
  | none => .bad
theorem de_fld (c j : Nat) {x : Str} (C : ClOk X.K X.mg c) (ha : DE X T E e f) (hx : (flds c)[j]? = some x := by rfl) (hb : attributeBase e x X.env (eval e X.env) = eval e X.env := by rfl) : DE X T E (.Attribute e x pos) (op1 (fldD c j) f) :=
  PE.imp (pe_fld ha hb) fun σ H Q ⟨m, h, en, rel, p⟩ => chain rel p fun m1 h1 H1 v d e1 rel1 rv1 p1 => by
    unfold fldD at p1
    cases q : insAt h1 c d with
    | none => rw [q] at p1; exact p1.elim
    | some r =>
      obtain ⟨i, fs⟩ := r
      rw [q] at p1
      dsimp only at p1
      cases q2 : fs[j]? with
      | none => rw [q2] at p1; exact p1.elim
      | some y =>
        rw [q2] at p1
        obtain ⟨rfl, q3⟩ := insAt_ok q
        obtain ⟨C1, dx, fvs, z1, z2, z3, z4⟩ := rel1.rh.obj i _ q3
        obtain ⟨C2, y1, y2, y3⟩ := C.ex
        have eC : some (Value.ref C1) = some (Value.ref C2) := z2.symm.trans y1
        cases eC
        cases rv1
        obtain ⟨u, w1, w2⟩ := lookup_ix z3 (flds_nd c) z4 hx q2
        exact ⟨_, C1, dx, fvs, u, rfl, z1, y2, y3 x (List.mem_of_getElem? hx), w1, Post.val p1 rel1.rh w2⟩
end
end DL

set_option Elab.async false
set_option linter.all false
set_option maxRecDepth 100000
set_option autoImplicit false
/-! Subscripts, slices, methods of lists; statements. -/
namespace DL
open PySem PySem.Spec PyProof.Rows L2

section
variable {X : Cx} {T : TF} {E : XK} {a b c e o : Expr} {es rest : List Expr} {pos : Pos} {f k l : ME}
/-! ### subscripts -/
def ixD : D → D → IH → Out D := fun x y h => match getS h x, y with
  | some xs, .int i => (match atI xs i with
    | some d => .ok d h
    | none => .bad)
  | _, _ => .bad
theorem ixN_some {n : Nat} {i : Int} {j : Nat} (e : ixN n i = some j) : j < n := (ixN_seq e).2.1
theorem atI_rel {K : PySem.W.Frag} {m : Mp} {n : Nat} {H : Hp} {vs : List V} {ds : List D} {i : Int} {d : D} (r : Rvs K m n H vs ds) (e : atI ds i = some d) : ∃ v, atI vs i = some v ∧ Rv K m n H v d := by
  unfold atI at e ⊢
  cases q : ixN ds.length i with
  | none => rw [q] at e; cases e
  | some j =>
    rw [q] at e
    obtain ⟨v, h1, h2⟩ := r.get (show ds[j]? = some d from e)
    rw [r.length, q]
    exact ⟨v, h1, h2⟩
theorem ixD_ok {g : G} : OpS g (fun x y H Q => rIxL g.K x y H Q ∨ rIxT g.K x y H Q) ixD := by
  intro m h H x y dx dy E Q rh rx ry p
  unfold ixD at p
  cases e : getS h dx with
  | none => rw [e] at p; exact p.elim
  | some xs =>
    rw [e] at p
    cases dy with
    | int i =>
      cases ry
      dsimp only at p
      cases e2 : atI xs i with
      | none => rw [e2] at p; exact p.elim
      | some d =>
        rw [e2] at p
        obtain ⟨a, vs, rfl, s, r⟩ := getS_ok rh rx e
        obtain ⟨v, h1, h2⟩ := atI_rel r e2
        rcases s with s | s
        · exact .inl ⟨a, vs, i, v, rfl, rfl, s, h1, Post.val p rh h2⟩
        · exact .inr ⟨a, vs, i, v, rfl, rfl, s, h1, Post.val p rh h2⟩
    | _ => exact p.elim
theorem de_item (ha : DE X T E a f) (hb : DE X T E b k) (hp : PlainIx b := by exact fun _ _ => rfl) : DE X T E (.Subscript a b pos) (op2 ixD f k) := de_ix (ix_list.or ix_tup) ixD_ok ha hb hp

/-! ### slices -/
abbrev MO := En → IH → Out (Option Int)
abbrev RPt : (Mp) → Nat → Hp → Option Int → Option Int → Prop := fun _ _ _ a b => a = b
def DO (X : Cx) (T : TF) (E : XK) (e : Option Expr) (f : MO) : Prop := PO X e (LX RPt (gX X T) E f)
theorem PO.imp {X : Cx} {e : Option Expr} {t t' : TO} (h : PO X e t) (q : ∀ σ H Q, t' σ H Q → t σ H Q) : PO X e t' := ⟨fun pins s σ H Q I w => h.run pins s σ H Q I (q σ H Q w)⟩
def noP : MO := fun _ h => .ok none h
def asI (d : D) (h : IH) : Out (Option Int) := match d with
  | .int i => .ok (some i) h
  | _ => .bad
def someP (f : ME) : MO := fun en h => (f en h).bind asI
theorem do_none : DO X T E none noP := PO.imp po_none fun σ H Q ⟨m, h, en, rel, p⟩ => p m H none (Ex.refl _ _ _) rel.rh rfl
theorem do_some (ha : DE X T E a f) : DO X T E (some a) (someP f) := PO.imp (po_some ha) fun σ H Q ⟨m, h, en, rel, p⟩ => chain rel p fun m1 h1 H1 v d e1 rel1 rv1 p1 => by
  cases d with
  | int i => cases rv1; exact ⟨i, rfl, p1 m1 H1 _ (Ex.refl _ _ _) rel1.rh rfl⟩
  | _ => exact p1.elim
def cutL {α : Type} (xs : List α) (lo hi : Option Int) : List α := (xs.drop (HT.sIx xs.length 0 lo)).take (HT.sIx xs.length xs.length hi - HT.sIx xs.length 0 lo)
def slD (r : Bool) (x : D) (lo hi : Option Int) (h : IH) : Out D := match getL h x with
  | some xs => outL r (cutL xs lo hi) h
  | none => (match x with
    | .tup xs => .ok (.tup (cutL xs lo hi)) h
    | _ => .bad)
theorem cutL_all {α : Type} {xs : List α} {lo hi : Option Int} (h : HT.sIx xs.length 0 lo = 0 ∧ HT.sIx xs.length xs.length hi = xs.length) : cutL xs lo hi = xs := by
  unfold cutL
  rw [h.1, h.2, Nat.sub_zero, List.drop_zero, List.take_length]
def slE (r : Bool) (f : ME) (lo hi : MO) : ME := fun en h => (f en h).bind fun x h1 => (lo en h1).bind fun a h2 => (hi en h2).bind fun b h3 => slD r x a b h3
theorem Rvs.cut {K : PySem.W.Frag} {m : Mp} {n : Nat} {H : Hp} {vs : List V} {ds : List D} (r : Rvs K m n H vs ds) (lo hi : Option Int) : Rvs K m n H (cutV vs lo hi) (cutL ds lo hi) := by
  unfold cutV cutL
  rw [r.length]
  exact (r.drop _).take _
theorem slD_ok {g : G} {r : Bool} {m : Mp} {h : IH} {H : Hp} {v : V} {d : D} {lo hi : Option Int} {E : XK} {Q : VK} (rh : RH g m h H) (rv : Rv g.K m h.length H v d) (p : Post (Rv g.K) g m h.length H E Q (slD r d lo hi h)) : rSlL g.K v lo hi H Q ∨ rSlA g.K v lo hi H Q := by
  unfold slD at p
  cases e : getL h d with
  | some xs =>
    rw [e] at p
    obtain ⟨a, vs, rfl, s, r⟩ := getL_ok rh rv e
    exact .inl ⟨a, vs, rfl, s, fun q hq => p.outL rh (r.cut lo hi) hq⟩
  | none =>
    rw [e] at p
    cases d with
    | tup xs =>
      obtain ⟨a, vs, rfl, s, r⟩ := getT_ok rv (show getT (.tup xs) = some xs from rfl)
      refine .inr ⟨a, vs, rfl, s, fun z => ?_, fun _ q hq => Post.tup p rh (r.cut lo hi) hq⟩
      rw [r.length] at z
      have p : Post (Rv g.K) g m h.length H E Q (.ok (.tup (cutL xs lo hi)) h) := p
      rw [cutL_all z] at p
      exact p.val rh rv
    | _ => exact p.elim
theorem de_slice (r : Bool) {lo hi : Option Expr} {fl fh : MO} {p2 : Pos} (ha : DE X T E a f) (hl : DO X T E lo fl) (hu : DO X T E hi fh) : DE X T E (.Subscript a (.Slice lo hi none p2) pos) (slE r f fl fh) :=
  PE.imp (pe_slice (sl_list.or sl_tupA) ha hl hu) fun σ H Q ⟨m, h, en, rel, p⟩ => chain rel p fun m1 h1 H1 v d e1 rel1 rv1 p1 => chain rel1 p1 fun m2 h2 H2 lo' lo e2 rel2 r2 p2 => chain rel2 p2 fun m3 h3 H3 hi' hi e3 rel3 r3 p3 => by
    cases (show lo' = lo from r2)
    cases (show hi' = hi from r3)
    exact slD_ok rel3.rh ((rv1.mono e2).mono e3) p3

/-! ### methods of lists -/
def bmE (o : D → List D → IH → Out D) (f : ME) (t : MA) : ME := fun en h => (f en h).bind fun x h1 => grd ((getL h1 x).isSome) ((t en h1).bind fun xs h2 => o x xs h2)
def MtS (g : G) (r : V → List V → Hp → VK → Prop) (o : D → List D → IH → Out D) : Prop := ∀ (m : Mp) (h : IH) (H : Hp) (x : V) (dx : D) (vs : List V) (ds : List D) (E : XK) (Q : VK), RH g m h H → Rv g.K m h.length H x dx → Rvs g.K m h.length H vs ds →
  Post (Rv g.K) g m h.length H E Q (o dx ds h) → r x vs H Q
theorem list_ty {g : G} {m : Mp} {h : IH} {H : Hp} {v : V} {d : D} (rh : RH g m h H) (rv : Rv g.K m h.length H v d) (e : (getL h d).isSome = true) : tyV g.K "list" v H := by
  obtain ⟨xs, q⟩ := Option.isSome_iff_exists.mp e
  obtain ⟨a, vs, rfl, s, r⟩ := getL_ok rh rv q
  exact .inl ⟨rfl, vs, s⟩
theorem de_bm {name : Str} {id : String} {r : V → List V → Hp → VK → Prop} {q : D → List D → IH → Out D} {t : MA} {apos : Pos} (slot : Slot "list" name id) (hty : typeOf (.builtin id) = pure (.type "method_descriptor")) (hm : MtR X id r) (hs : MtS (gX X T) r q) (ho : DE X T E o f) (ha : DA X T E (e :: es) t)
    (hbase : attributeBase o name X.env (eval o X.env) = eval o X.env := by rfl)
    (hfew : ((backTo pos (starEach (e :: es) X.env)).all (fun x => !x.1) && (backToKw pos (keywordEach [] X.env)).all (fun x => x.1.isSome)
      && decide ((e :: es).length + ([] : List Keyword).length + (if ([] : List Keyword).isEmpty then 0 else 1) < 30)) = true := by rfl)
    (hline : (apos.endLine == pos.line) = true := by rfl) (hst : starEach (e :: es) X.env = (false, eval e X.env) :: starEach es X.env := by rfl) (hplain : (backTo pos (starEach es X.env)).any (·.1) = false := by rfl) :
    DE X T E (.Call (.Attribute o name apos) (e :: es) [] pos) (bmE q f t) :=
  PE.imp (pe_bm PySem.F.plainAttrs_list slot hty hm ho ha hbase hfew hline hst hplain) fun σ H Q ⟨m, h, en, rel, p⟩ => chain rel p fun m1 h1 H1 v d e1 rel1 rv1 p1 => by
    obtain ⟨hc, p1⟩ := Post.grd p1
    exact ⟨list_ty rel1.rh rv1 hc, chain rel1 p1 fun m2 h2 H2 vs ds e2 rel2 rv2 p2 => hs m2 h2 H2 v d vs ds E Q rel2.rh (rv1.mono e2) rv2 p2⟩
theorem de_bm0 {name : Str} {id : String} {r : V → List V → Hp → VK → Prop} {q : D → List D → IH → Out D} {apos : Pos} (slot : Slot "list" name id) (hty : typeOf (.builtin id) = pure (.type "method_descriptor")) (hm : MtR X id r) (hs : MtS (gX X T) r q) (ho : DE X T E o f)
    (hbase : attributeBase o name X.env (eval o X.env) = eval o X.env := by rfl) (hline : (apos.endLine == pos.line) = true := by rfl) :
    DE X T E (.Call (.Attribute o name apos) [] [] pos) (bmE q f nilA) :=
  PE.imp (pe_bm0 PySem.F.plainAttrs_list slot hty hm ho hbase hline) fun σ H Q ⟨m, h, en, rel, p⟩ => chain rel p fun m1 h1 H1 v d e1 rel1 rv1 p1 => by
    obtain ⟨hc, p1⟩ := Post.grd p1
    exact ⟨list_ty rel1.rh rv1 hc, hs m1 h1 H1 v d [] [] E Q rel1.rh rv1 .nil p1⟩
/-- a list of the ideal heap -/
def refL (h : IH) : D → Option (Nat × List D)
  | .ref i => match lstAt h i with
    | some xs => some (i, xs)
    | none => none
  | _ => none
theorem refL_ok {h : IH} {d : D} {i : Nat} {xs : List D} (e : refL h d = some (i, xs)) : d = .ref i ∧ h[i]? = some (.lst xs) := by
  unfold refL at e
  split at e
  · split at e
    · rename_i q
      cases e
      exact ⟨rfl, lstAt_ok q⟩
    · cases e
  · cases e
/-- it is changed -/
theorem lst_store {g : G} {m : Mp} {h : IH} {H : Hp} {i : Nat} {xs ys : List D} {ws : List V} (rh : RH g m h H) (hi : h[i]? = some (.lst xs)) (r : Rvs g.K m h.length H ws ys) : Ex m h.length H m (h.set i (.lst ys)).length (upd H (m i) (.lst ws)) ∧ RH g m (h.set i (.lst ys)) (upd H (m i) (.lst ws)) := by
  have hl : i < h.length := (List.getElem?_eq_some_iff.mp hi).1
  have ex := Ex.store (o := .lst ws) rh hl NT.lst
  rw [List.length_set]
  exact ⟨ex, rh.store hl NT.lst (fun _ => rh.fz1 i _ hi (fun _ z => by cases z) (fun _ _ z => by cases z)) ⟨ws, upd_same, r.mono ex⟩ (fun _ _ z => by rw [hi] at z; cases z)⟩
def appD : D → List D → IH → Out D := fun x vs h => match refL h x, vs with
  | some (i, xs), [y] => grd (decide (xs.length < sizeLine)) (.ok .non (h.set i (.lst (xs ++ [y]))))
  | _, _ => .bad
theorem appD_ok {g : G} : MtS g rAppend appD := by
  intro m h H x dx vs ds E Q rh rx rv p
  unfold appD at p
  cases e : refL h dx with
  | none => rw [e] at p; exact p.elim
  | some z =>
    obtain ⟨i, xs⟩ := z
    rw [e] at p
    cases ds with
    | nil => exact p.elim
    | cons y ds =>
      cases ds with
      | cons _ _ => exact p.elim
      | nil =>
        obtain ⟨hc, p⟩ := Post.grd p
        obtain ⟨rfl, hi⟩ := refL_ok e
        obtain ⟨ws, h1, h2⟩ := rh.lst hi
        obtain ⟨u, rfl, ru⟩ := rv.one
        cases rx
        obtain ⟨ex, rh'⟩ := lst_store rh hi (h2.append (.cons ru .nil))
        exact ⟨m i, ws, u, rfl, rfl, h1, by rw [h2.length]; exact of_decide_eq_true hc, p m _ _ ex rh' .non⟩
theorem de_append {t : MA} {apos : Pos} (ho : DE X T E o f) (ha : DA X T E [e] t) (hbase : attributeBase o "append" X.env (eval o X.env) = eval o X.env := by rfl)
    (hfew : ((backTo pos (starEach [e] X.env)).all (fun x => !x.1) && (backToKw pos (keywordEach [] X.env)).all (fun x => x.1.isSome)
      && decide (([e] : List Expr).length + ([] : List Keyword).length + (if ([] : List Keyword).isEmpty then 0 else 1) < 30)) = true := by rfl)
    (hline : (apos.endLine == pos.line) = true := by rfl) (hst : starEach [e] X.env = (false, eval e X.env) :: starEach [] X.env := by rfl) : DE X T E (.Call (.Attribute o "append" apos) [e] [] pos) (bmE appD f t) :=
  de_bm PySem.F.slot_list_append PySem.F.type_list_append mt_append appD_ok ho ha hbase hfew hline hst
def popD : D → List D → IH → Out D := fun x vs h => match refL h x, vs with
  | some (i, xs), [] => (match xs[xs.length - 1]? with
    | some y => .ok y (h.set i (.lst xs.dropLast))
    | none => .bad)
  | _, _ => .bad
theorem popD_ok {g : G} : MtS g rPop popD := by
  intro m h H x dx vs ds E Q rh rx rv p
  unfold popD at p
  cases e : refL h dx with
  | none => rw [e] at p; exact p.elim
  | some z =>
    obtain ⟨i, xs⟩ := z
    rw [e] at p
    cases ds with
    | cons _ _ => exact p.elim
    | nil =>
      dsimp only at p
      cases e2 : xs[xs.length - 1]? with
      | none => rw [e2] at p; exact p.elim
      | some y =>
        rw [e2] at p
        obtain ⟨rfl, hi⟩ := refL_ok e
        obtain ⟨ws, h1, h2⟩ := rh.lst hi
        cases rv
        cases rx
        obtain ⟨ex, rh'⟩ := lst_store rh hi h2.dropLast
        obtain ⟨u, g1, g2⟩ := h2.get e2
        refine ⟨m i, ws, u, rfl, rfl, h1, by rw [h2.length]; exact g1, p m _ _ ex rh' ?_⟩
        exact g2.mono ex
theorem de_pop {apos : Pos} (ho : DE X T E o f) (hbase : attributeBase o "pop" X.env (eval o X.env) = eval o X.env := by rfl) (hline : (apos.endLine == pos.line) = true := by rfl) : DE X T E (.Call (.Attribute o "pop" apos) [] [] pos) (bmE popD f nilA) :=
  de_bm0 PySem.F.slot_list_pop PySem.F.type_list_pop mt_pop popD_ok ho hbase hline
end

/-! ### statements -/
theorem PostS.rebase {g : G} {m m' : Mp} {n n' : Nat} {H H' : Hp} {E : XK} {D : Ends} {o : SO} (e : Ex m n H m' n' H') (p : PostS g m n H E D o) : PostS g m' n' H' E D o := by
  cases o with
  | nx en h => exact fun a b c x y => p a b c (e.trans x) y
  | rt d h => exact fun a b c x y z => p a b c (e.trans x) y z
  | bk en h => exact fun a b c x y => p a b c (e.trans x) y
  | ct en h => exact fun a b c x y => p a b c (e.trans x) y
  | err c h => exact fun a b c x y z => p a b c (e.trans x) y z
  | bad => exact p
def Out.toS {α : Type} (o : Out α) (k : α → IH → SO) : SO := match o with
  | .ok a h => k a h
  | .err c h => .err c h
  | .bad => .bad
@[simp] theorem Out.toS_ok {α : Type} (a : α) (h : IH) (k : α → IH → SO) : (Out.ok a h).toS k = k a h := rfl
@[simp] theorem Out.toS_err {α : Type} (c : Nat) (h : IH) (k : α → IH → SO) : (Out.err c h : Out α).toS k = .err c h := rfl
@[simp] theorem Out.toS_bad {α : Type} (k : α → IH → SO) : (Out.bad : Out α).toS k = .bad := rfl
/-- an expression's part of a statement -/
theorem chainS {α β : Type} {R : (Mp) → Nat → Hp → β → α → Prop} {g : G} {E : XK} {f : En → IH → Out α} {k : α → IH → SO} {σ : L2.St} {H : Hp} {D : Ends} {m : Mp} {h : IH} {en : En} {P : β → Hp → Prop} (r : Rel g m h σ en H)
    (p : PostS g m h.length H E D ((f en h).toS k))
    (ok : ∀ m' h' H' v d, Ex m h.length H m' h'.length H' → Rel g m' h' σ en H' → R m' h'.length H' v d → PostS g m' h'.length H' E D (k d h') → P v H') : LX R g E f σ H P := by
  refine ⟨m, h, en, r, ?_⟩
  cases e : f en h with
  | ok d h' =>
    rw [e] at p
    exact fun m' H' v a b c => ok m' h' H' v d a (r.next a b) c (PostS.rebase a p)
  | err c h' => rw [e] at p; exact p
  | bad => rw [e] at p; exact p
section
variable {X : Cx} {T : TF} {E : XK} {a b c e o : Expr} {es rest : List Expr} {pos : Pos} {f k l : ME} {st : Stmt} {sts sts2 : List Stmt} {fs ks : MS} {tA : MT}
def passS : MS := fun en h => .nx en h
theorem dss_nil : DSs X T E [] passS := PSs.imp pss_nil fun D σ H ⟨m, h, en, rel, p⟩ => p m H σ (Ex.refl _ _ _) rel
theorem ds_pass : DS X T E (.Pass pos) passS := PS.imp ps_pass fun D σ H ⟨m, h, en, rel, p⟩ => p m H σ (Ex.refl _ _ _) rel
def contS : MS := fun en h => .ct en h
theorem ds_continue : DS X T E (.Continue pos) contS := PS.imp ps_continue fun D σ H ⟨m, h, en, rel, p⟩ => p m H σ (Ex.refl _ _ _) rel
def SO.seq (o : SO) (k : MS) : SO := match o with
  | .nx en h => k en h
  | z => z
@[simp] theorem SO.seq_nx (en : En) (h : IH) (k : MS) : (SO.nx en h).seq k = k en h := rfl
@[simp] theorem SO.seq_rt (d : D) (h : IH) (k : MS) : (SO.rt d h).seq k = .rt d h := rfl
@[simp] theorem SO.seq_bk (en : En) (h : IH) (k : MS) : (SO.bk en h).seq k = .bk en h := rfl
@[simp] theorem SO.seq_ct (en : En) (h : IH) (k : MS) : (SO.ct en h).seq k = .ct en h := rfl
@[simp] theorem SO.seq_err (c : Nat) (h : IH) (k : MS) : (SO.err c h).seq k = .err c h := rfl
@[simp] theorem SO.seq_bad (k : MS) : SO.bad.seq k = .bad := rfl
def seqS (f k : MS) : MS := fun en h => (f en h).seq k
theorem dss_cons (h1 : DS X T E st fs) (h2 : DSs X T E sts ks) : DSs X T E (st :: sts) (seqS fs ks) :=
  PSs.imp (pss_cons h1 h2) fun D σ H ⟨m, h, en, rel, p⟩ => by
    refine ⟨m, h, en, rel, ?_⟩
    have p : PostS (gX X T) m h.length H E D ((fs en h).seq ks) := p
    cases q : fs en h with
    | nx en' h' =>
      rw [q] at p
      exact fun m' H' σ' e1 rel' => ⟨m', h', en', rel', PostS.rebase e1 p⟩
    | rt d h' => rw [q] at p; exact p
    | bk en' h' => rw [q] at p; exact p
    | ct en' h' => rw [q] at p; exact p
    | err c h' => rw [q] at p; exact p
    | bad => rw [q] at p; exact p
theorem dss_one (h1 : DS X T E st fs) : DSs X T E [st] fs := pss_one h1
def exprS (f : ME) : MS := fun en h => (f en h).toS fun _ h1 => .nx en h1
theorem ds_expr (ha : DE X T E a f) (hs : swapsWith a none pos.line X.env = pure false := by rfl) : DS X T E (.Expr a pos) (exprS f) :=
  PS.imp (ps_expr ha hs) fun D σ H ⟨m, h, en, rel, p⟩ => chainS rel p fun m1 h1 H1 v d e1 rel1 rv1 p1 => p1 m1 H1 σ (Ex.refl _ _ _) rel1
def retS (f : ME) : MS := fun en h => (f en h).toS fun d h1 => .rt d h1
theorem ds_ret (ha : DE X T E a f) : DS X T E (.Return (some a) pos) (retS f) :=
  PS.imp (ps_ret ha) fun D σ H ⟨m, h, en, rel, p⟩ => chainS rel p fun m1 h1 H1 v d e1 rel1 rv1 p1 => p1 m1 H1 v (Ex.refl _ _ _) rel1.rh rv1
def retN : MS := fun _ h => .rt .non h
theorem ds_retN : DS X T E (.Return none pos) retN := PS.imp ps_retN fun D σ H ⟨m, h, en, rel, p⟩ => p m H .non (Ex.refl _ _ _) rel.rh .non
def ifS (t : MT) (f k : MS) : MS := fun en h => (t en h).toS fun b h1 => match b with
  | true => f en h1
  | false => k en h1
theorem ds_if (hc : DT X T E c tA) (ha : DSs X T E sts fs) (hb : DSs X T E sts2 ks) : DS X T E (.If c sts sts2 pos) (ifS tA fs ks) :=
  PS.imp (ps_if hc ha hb) fun D σ H ⟨m, h, en, rel, p⟩ => chainS rel p fun m1 h1 H1 v d e1 rel1 rv1 p1 => by
    cases (show v = d from rv1)
    cases v with
    | true => rw [if_pos rfl]; exact ⟨m1, h1, en, rel1, p1⟩
    | false => rw [if_neg Bool.false_ne_true]; exact ⟨m1, h1, en, rel1, p1⟩
/-! ### targets -/
abbrev MG := D → En → IH → Out En
def LG (g : G) (gf : MG) : TG := fun v σ H Q => ∃ m h en d, Rel g m h σ en H ∧ Rv g.K m h.length H v d ∧ match gf d en h with
  | .ok en' h' => ∀ m' H' σ', Ex m h.length H m' h'.length H' → Rel g m' h' σ' en' H' → Q σ' H'
  | _ => False
def DG (X : Cx) (T : TF) (e : Expr) (gf : MG) : Prop := PG X e (LG (gX X T) gf)
theorem PG.imp {X : Cx} {e : Expr} {t t' : TG} (h : PG X e t) (q : ∀ v σ H Q, t' v σ H Q → t v σ H Q) : PG X e t' := ⟨fun pins s σ H v u Q I r w => h.run pins s σ H v u Q I r (q v σ H Q w)⟩
theorem PGs.imp {X : Cx} {e : List Expr} {t t' : TGs} (h : PGs X e t) (q : ∀ v σ H Q, t' v σ H Q → t v σ H Q) : PGs X e t' := ⟨fun pins s σ H v u Q I r w => h.run pins s σ H v u Q I r (q v σ H Q w)⟩
def nameG (i : Nat) : MG := fun d en h => .ok (en.set i (some d)) h
theorem dg_name (i : Nat) {x : Str} (hN : X.N.Nodup) (hi : X.N[i]? = some x := by rfl) (hx : Loc X.env.scope x := by first | exact Or.inl rfl | exact Or.inr rfl) (hf : X.fn x = true ∨ X.env.scope.names.lookup x = some .local := by first | exact .inl rfl | exact .inr rfl) : DG X T (.Name x pos) (nameG i) :=
  PG.imp (pg_name hN hi hx hf) fun v σ H Q ⟨m, h, en, d, rel, rv, p⟩ => p m H _ (Ex.refl _ _ _) (rel.set i rv)
/-- several, one after another -/
abbrev MGs := List D → En → IH → Out En
def LGs (g : G) (gf : MGs) : TGs := fun vs σ H Q => ∃ m h en ds, Rel g m h σ en H ∧ Rvs g.K m h.length H vs ds ∧ match gf ds en h with
  | .ok en' h' => ∀ m' H' σ', Ex m h.length H m' h'.length H' → Rel g m' h' σ' en' H' → Q σ' H'
  | _ => False
def DGs (X : Cx) (T : TF) (e : List Expr) (gf : MGs) : Prop := PGs X e (LGs (gX X T) gf)
def nilG : MGs := fun ds en h => match ds with
  | [] => .ok en h
  | _ => .bad
def consG (g1 : MG) (g2 : MGs) : MGs := fun ds en h => match ds with
  | d :: ds => (g1 d en h).bind fun en1 h1 => g2 ds en1 h1
  | [] => .bad
theorem dgs_nil : DGs X T [] nilG := PGs.imp pgs_nil fun v σ H Q ⟨m, h, en, ds, rel, rv, p⟩ => by
  cases ds with
  | nil => cases rv; exact ⟨rfl, p m H σ (Ex.refl _ _ _) rel⟩
  | cons _ _ => exact p.elim
theorem dgs_cons {g1 : MG} {g2 : MGs} (h1 : DG X T e g1) (h2 : DGs X T es g2) (hs : (assignEach (e :: es) X.env).map (·.2) = assign e X.env :: (assignEach es X.env).map (·.2) := by rfl) : DGs X T (e :: es) (consG g1 g2) :=
  PGs.imp (pgs_cons h1 h2 hs) fun v σ H Q ⟨m, h, en, ds, rel, rv, p⟩ => by
    cases ds with
    | nil => exact p.elim
    | cons d ds =>
      cases rv with
      | cons r1 r2 =>
        refine ⟨_, _, rfl, m, h, en, d, rel, r1, ?_⟩
        unfold consG at p
        dsimp only at p
        cases q : g1 d en h with
        | ok en1 h1 =>
          rw [q] at p
          intro m1 H1 σ1 e1 rel1
          refine ⟨m1, h1, en1, ds, rel1, r2.mono e1, ?_⟩
          cases q2 : g2 ds en1 h1 with
          | ok en2 h2 =>
            have p : (match g2 ds en1 h1 with
              | .ok en' h' => ∀ m' H' σ', Ex m h.length H m' h'.length H' → Rel (gX X T) m' h' σ' en' H' → Q σ' H'
              | _ => False) := p
            rw [q2] at p
            exact fun m2 H2 σ2 e2 rel2 => p m2 H2 σ2 (e1.trans e2) rel2
          | err c h2 =>
            have p : (match g2 ds en1 h1 with
              | .ok en' h' => ∀ m' H' σ', Ex m h.length H m' h'.length H' → Rel (gX X T) m' h' σ' en' H' → Q σ' H'
              | _ => False) := p
            rw [q2] at p
            exact p.elim
          | bad =>
            have p : (match g2 ds en1 h1 with
              | .ok en' h' => ∀ m' H' σ', Ex m h.length H m' h'.length H' → Rel (gX X T) m' h' σ' en' H' → Q σ' H'
              | _ => False) := p
            rw [q2] at p
            exact p.elim
        | err c h1 => rw [q] at p; exact p.elim
        | bad => rw [q] at p; exact p.elim
def tupG (n : Nat) (gs : MGs) : MG := fun d en h => match d with
  | .tup xs => grd (decide (xs.length = n)) (gs xs en h)
  | _ => .bad
theorem dg_tup {gs : MGs} {n k : Nat} (hc : X.calm = true) (hg : DGs X T es gs) (hn : (assignEach es X.env).length = n := by rfl) (hst : (assignEach es X.env).findIdx? (·.1) = none := by rfl) : DG X T (.Tuple es k pos) (tupG n gs) :=
  PG.imp (pg_tup hc hg hn hst) fun v σ H Q ⟨m, h, en, d, rel, rv, p⟩ => by
    cases d with
    | tup xs =>
      obtain ⟨a, vs, rfl, s, r⟩ := getT_ok rv (show getT (.tup xs) = some xs from rfl)
      have p : (match grd (decide (xs.length = n)) (gs xs en h) with
        | .ok en' h' => ∀ m' H' σ', Ex m h.length H m' h'.length H' → Rel (gX X T) m' h' σ' en' H' → Q σ' H'
        | _ => False) := p
      by_cases hl : xs.length = n
      · rw [grd_of _ (decide_eq_true hl)] at p
        exact ⟨a, vs, rfl, s, by rw [r.length]; exact hl, m, h, en, xs, rel, r, p⟩
      · rw [decide_eq_false hl] at p
        exact p.elim
    | _ => exact p.elim
def asgS (f : ME) (gf : MG) : MS := fun en h => (f en h).toS fun d h1 => match gf d en h1 with
  | .ok en' h2 => .nx en' h2
  | _ => .bad
theorem asg_post {gf : MG} {m : Mp} {h : IH} {H : Hp} {en : En} {σ : L2.St} {v : V} {d : D} {D : Ends} (rel : Rel (gX X T) m h σ en H) (rv : Rv X.K m h.length H v d) (p : PostS (gX X T) m h.length H E D (match gf d en h with | .ok en' h2 => .nx en' h2 | _ => .bad)) : LG (gX X T) gf v σ H D.nx := by
  refine ⟨m, h, en, d, rel, rv, ?_⟩
  cases q : gf d en h with
  | ok en' h' => rw [q] at p; exact p
  | err c h' => rw [q] at p; exact p.elim
  | bad => rw [q] at p; exact p.elim
theorem ds_asg {tg : Expr} {gf : MG} (ha : DE X T E a f) (hg : DG X T tg gf) (hs : swapsWithSole [tg] a pos.line X.env = pure false := by rfl) (hw : swappedStores [tg] a X.env = pure none := by rfl)
    (h1 : (assignEach [tg] X.env).map (·.2) = [assign tg X.env] := by rfl) : DS X T E (.Assign [tg] a pos) (asgS f gf) :=
  PS.imp (ps_asg ha hg hs hw h1) fun D σ H ⟨m, h, en, rel, p⟩ => chainS rel p fun m1 h1 H1 v d e1 rel1 rv1 p1 => asg_post rel1 rv1 p1
theorem ds_set (i : Nat) {x : Str} {pos' : Pos} (hN : X.N.Nodup) (ha : DE X T E a f) (hi : X.N[i]? = some x := by rfl) (hx : Loc X.env.scope x := by first | exact Or.inl rfl | exact Or.inr rfl)
    (hs : swapsWith a (some (.Name x pos')) pos.line X.env = pure false := by rfl) (hf : X.fn x = true ∨ X.env.scope.names.lookup x = some .local := by first | exact .inl rfl | exact .inr rfl) : DS X T E (.Assign [.Name x pos'] a pos) (asgS f (nameG i)) :=
  PS.imp (ps_set hN hi hx ha hs hf) fun D σ H ⟨m, h, en, rel, p⟩ => chainS rel p fun m1 h1 H1 v d e1 rel1 rv1 p1 => p1 m1 H1 _ (Ex.refl _ _ _) (rel1.set i rv1)
/-- a, b = x, y: two locals -/
def parS (i j : Nat) (t : MA) : MS := fun en h => (t en h).toS fun ds h1 => match ds with
  | [x, y] => .nx ((en.set i (some x)).set j (some y)) h1
  | _ => .bad
theorem ds_par (i j : Nat) {x y : Str} {t : MA} {px py pt pt2 : Pos} {kt k2 : Nat} (hc : X.calm = true) (hN : X.N.Nodup) (ha : DA X T E [a, b] t) (hi : X.N[i]? = some x := by rfl) (hj : X.N[j]? = some y := by rfl) (hij : i ≠ j := by decide)
    (hx : X.env.scope.names.lookup x = some .local := by rfl) (hy : X.env.scope.names.lookup y = some .local := by rfl)
    (hw : swappedStores [.Tuple [.Name x px, .Name y py] kt pt] (.Tuple [a, b] k2 pt2) X.env = pure (some [x, y]) := by rfl)
    (hs : swapsWithSole [.Tuple [.Name x px, .Name y py] kt pt] (.Tuple [a, b] k2 pt2) pos.line X.env = pure false := by rfl) :
    DS X T E (.Assign [.Tuple [.Name x px, .Name y py] kt pt] (.Tuple [a, b] k2 pt2) pos) (parS i j t) :=
  PS.imp (ps_par hc hN hi hj hij hx hy ha hw hs) fun D σ H ⟨m, h, en, rel, p⟩ => chainS rel p fun m1 h1 H1 v d e1 rel1 rv1 p1 => by
    cases d with
    | nil => exact p1.elim
    | cons x d =>
      cases d with
      | nil => exact p1.elim
      | cons y d =>
        cases d with
        | cons _ _ => exact p1.elim
        | nil =>
          obtain ⟨u, w, rfl, r1, r2⟩ := rv1.two
          exact ⟨u, w, rfl, p1 m1 H1 _ (Ex.refl _ _ _) ((rel1.set i r1).set j r2)⟩
/-- o[i] = v, a list of the ideal heap -/
def setD (x i v : D) (h : IH) : Out Unit := match refL h x, i with
  | some (p, xs), .int k => (match ixN xs.length k with
    | some j => .ok () (h.set p (.lst (xs.set j v)))
    | none => .bad)
  | _, _ => .bad
def setS (fv fo fi : ME) : MS := fun en h => (fv en h).toS fun v h1 => (fo en h1).toS fun x h2 => (fi en h2).toS fun i h3 => (setD x i v h3).toS fun _ h4 => .nx en h4
theorem ds_setItem {fv fo fi : ME} {i : Expr} {ipos : Pos} (hv : DE X T E a fv) (ho : DE X T E o fo) (hi : DE X T E i fi)
    (ha : ∀ v, assign (.Subscript o i ipos) X.env v = (do
      let ov ← holding [v] (eval o X.env)
      let iv ← holding [v, ov] (eval i X.env)
      standAt ipos
      holding [v, ov, iv] (setItem ov iv v)
      release [v, ov, iv] []) := by intro _; rfl)
    (hs : swapsWithSole [.Subscript o i ipos] a pos.line X.env = pure false := by rfl) (hw : swappedStores [.Subscript o i ipos] a X.env = pure none := by rfl)
    (h1 : (assignEach [.Subscript o i ipos] X.env).map (·.2) = [assign (.Subscript o i ipos) X.env] := by rfl) : DS X T E (.Assign [.Subscript o i ipos] a pos) (setS fv fo fi) :=
  PS.imp (ps_asg hv (pg_sub ho hi set_list ha) hs hw h1) fun D σ H ⟨m, h, en, rel, p⟩ => chainS rel p fun m1 h1 H1 v d e1 rel1 rv1 p1 => chainS rel1 p1 fun m2 h2 H2 ov od e2 rel2 rv2 p2 => chainS rel2 p2 fun m3 h3 H3 iv id e3 rel3 rv3 p3 => by
    unfold setD at p3
    cases q : refL h3 od with
    | none => rw [q] at p3; exact p3.elim
    | some z =>
      obtain ⟨j, xs⟩ := z
      rw [q] at p3
      cases id with
      | int k =>
        dsimp only at p3
        cases q2 : ixN xs.length k with
        | none => rw [q2] at p3; exact p3.elim
        | some n =>
          rw [q2] at p3
          obtain ⟨rfl, hi⟩ := refL_ok q
          obtain ⟨ws, z1, z2⟩ := rel3.rh.lst hi
          cases rv2.mono e3
          cases rv3
          have rv : Rv X.K m3 h3.length H3 v d := (rv1.mono e2).mono e3
          obtain ⟨ex, rh'⟩ := lst_store rel3.rh hi (z2.set rv n)
          exact ⟨_, ws, k, n, rfl, rfl, z1, by rw [z2.length]; exact q2, p3 m3 _ σ ex (rel3.next ex rh')⟩
      | _ => exact p3.elim
end
end DL

set_option Elab.async false
set_option linter.all false
set_option maxRecDepth 100000
set_option autoImplicit false
/-! What is walked; for, while, comprehensions. -/
namespace DL
open PySem PySem.Spec PyProof.Rows L2

abbrev View := IH → Option (List D)
def ItS (g : G) (m0 : Mp) (n0 : Nat) (H0 : Hp) (J : It) (w : View) : Prop := ∀ (m : Mp) (h : IH) (H : Hp), Ex m0 n0 H0 m h.length H → RH g m h H → ∀ xs, w h = some xs → ∀ i : Nat,
  (∀ d, xs[i]? = some d → J.go i H ∧ ∀ x H', J.yld i H x H' → Ex m h.length H m h.length H' ∧ RH g m h H' ∧ Rv g.K m h.length H' x d) ∧ (xs.length ≤ i → J.stop i H)
abbrev MV := En → IH → Out View
def DI (X : Cx) (T : TF) (E : XK) (tg iter : Expr) (f : MV) : Prop := PI X tg iter (LX (ItS (gX X T)) (gX X T) E f)
theorem PI.imp {X : Cx} {tg e : Expr} {t t' : TI} (h : PI X tg e t) (q : ∀ σ H Q, t' σ H Q → t σ H Q) : PI X tg e t' := ⟨fun pins s σ H Q I w => h.run pins s σ H Q I (q σ H Q w)⟩
theorem PI.or {X : Cx} {tg e : Expr} {t t' : TI} (h : PI X tg e t) (h' : PI X tg e t') : PI X tg e (fun σ H R => t σ H R ∨ t' σ H R) := ⟨fun pins s σ H Q I w => w.elim (fun w => h.run pins s σ H Q I w) fun w => h'.run pins s σ H Q I w⟩
section
variable {g : G} {m : Mp} {h : IH} {H : Hp}
theorem its_list {a : Addr} {d : D} (rv : Rv g.K m h.length H (.ref a) d) : ItS g m h.length H (Itl g.K a) (fun h => getL h d) := by
  intro m1 h1 H1 ex rh xs e i
  obtain ⟨b, vs, eb, s, r⟩ := getL_ok rh (rv.mono ex) e
  cases eb
  refine ⟨fun y hy => ?_, fun hl => ⟨vs, s, by rw [r.length]; exact hl⟩⟩
  obtain ⟨v, q1, q2⟩ := r.get hy
  refine ⟨⟨vs, v, s, q1⟩, fun x H' ⟨eH, hx⟩ => ?_⟩
  subst eH
  have z := hx vs s
  rw [q1] at z
  cases z
  exact ⟨Ex.refl _ _ _, rh, q2⟩
theorem its_tup {a : Addr} {d : D} (rv : Rv g.K m h.length H (.ref a) d) : ItS g m h.length H (Itt g.K a) (fun _ => getT d) := by
  intro m1 h1 H1 ex rh xs e i
  obtain ⟨b, vs, eb, s, r⟩ := getT_ok (rv.mono ex) e
  cases eb
  refine ⟨fun y hy => ?_, fun hl => ⟨vs, s, by rw [r.length]; exact hl⟩⟩
  obtain ⟨v, q1, q2⟩ := r.get hy
  refine ⟨⟨vs, v, s, q1⟩, fun x H' ⟨eH, hx⟩ => ?_⟩
  subst eH
  have z := hx vs s
  rw [q1] at z
  cases z
  exact ⟨Ex.refl _ _ _, rh, q2⟩
def rangeL (lo : Int) (n : Nat) : List D := (List.range n).map fun i => .int (lo + (i : Nat))
theorem its_range {lo : Int} {n : Nat} : ItS g m h.length H (Itr lo n) (fun _ => some (rangeL lo n)) := by
  intro m1 h1 H1 ex rh xs e i
  cases e
  unfold rangeL
  refine ⟨fun y hy => ?_, fun hl => (show n ≤ i by simpa using hl)⟩
  rw [List.getElem?_map] at hy
  by_cases hi : i < n
  · rw [List.getElem?_range hi] at hy
    cases hy
    refine ⟨hi, fun x H' ⟨eH, hx⟩ => ?_⟩
    subst eH hx
    exact ⟨Ex.refl _ _ _, rh, .int _⟩
  · rw [List.getElem?_eq_none (by simpa using hi)] at hy
    cases hy
def enumFrom (k : Nat) : List D → List D
  | [] => []
  | x :: xs => .tup [.int (k : Nat), x] :: enumFrom (k + 1) xs
theorem enumFrom_get : ∀ (xs : List D) (k i : Nat), (enumFrom k xs)[i]? = (xs[i]?).map fun x => .tup [.int ((k + i : Nat) : Int), x]
  | [], k, i => by simp [enumFrom]
  | x :: xs, k, 0 => by simp [enumFrom]
  | x :: xs, k, i + 1 => by
    simp only [enumFrom, List.getElem?_cons_succ]
    rw [enumFrom_get xs (k + 1) i]
    have : k + 1 + i = k + (i + 1) := by omega
    rw [this]
theorem enumFrom_length : ∀ (xs : List D) (k : Nat), (enumFrom k xs).length = xs.length
  | [], k => rfl
  | x :: xs, k => by simp [enumFrom, enumFrom_length xs (k + 1)]
theorem its_enum {a : Addr} {d : D} (rv : Rv g.K m h.length H (.ref a) d) : ItS g m h.length H (Ite g.K a) (fun h => (getL h d).map (enumFrom 0)) := by
  intro m1 h1 H1 ex rh xs e i
  obtain ⟨ys, e0, rfl⟩ := Option.map_eq_some_iff.mp e
  obtain ⟨b, vs, eb, s, r⟩ := getL_ok rh (rv.mono ex) e0
  cases eb
  refine ⟨fun y hy => ?_, fun hl => ⟨vs, s, by rw [r.length]; rw [enumFrom_length] at hl; exact hl⟩⟩
  rw [enumFrom_get] at hy
  obtain ⟨z, hz, rfl⟩ := Option.map_eq_some_iff.mp hy
  obtain ⟨v, q1, q2⟩ := r.get hz
  refine ⟨⟨vs, v, s, q1⟩, fun x H' ⟨T, w, eT, hT, eH, hx⟩ => ?_⟩
  subst eT eH
  have z2 := hx vs s
  rw [q1] at z2
  cases z2
  rw [Nat.zero_add]
  have ex2 := Ex.fresh (m := m1) (n := h1.length) (o := .tup [.int (i : Nat), v]) hT NT.tup
  exact ⟨ex2, rh.fresh hT NT.tup, .tup (.inr ⟨.inl upd_same, rh.off hT⟩) (.cons (.int _) (.cons (q2.mono ex2) .nil))⟩
def zipL : List D → List D → List D
  | x :: xs, y :: ys => .tup [x, y] :: zipL xs ys
  | _, _ => []
theorem zipL_get : ∀ (xs ys : List D) (i : Nat) (d : D), (zipL xs ys)[i]? = some d → ∃ x y, xs[i]? = some x ∧ ys[i]? = some y ∧ d = .tup [x, y]
  | [], _, i, d, h => by simp [zipL] at h
  | _ :: _, [], i, d, h => by simp [zipL] at h
  | x :: xs, y :: ys, 0, d, h => by simp [zipL] at h; exact ⟨x, y, rfl, rfl, h.symm⟩
  | x :: xs, y :: ys, i + 1, d, h => by
    simp only [zipL, List.getElem?_cons_succ] at h
    obtain ⟨a, b, h1, h2, h3⟩ := zipL_get xs ys i d h
    exact ⟨a, b, by simpa using h1, by simpa using h2, h3⟩
theorem zipL_length : ∀ (xs ys : List D), (zipL xs ys).length = min xs.length ys.length
  | [], _ => by simp [zipL]
  | _ :: _, [] => by simp [zipL]
  | x :: xs, y :: ys => by simp [zipL, zipL_length xs ys]
def zipV (d e : D) : View := fun h => match getL h d, getL h e with
  | some xs, some ys => some (zipL xs ys)
  | _, _ => none
theorem its_zip {a b : Addr} {d e : D} (rv : Rv g.K m h.length H (.ref a) d) (rw' : Rv g.K m h.length H (.ref b) e) : ItS g m h.length H (Itz g.K a b) (zipV d e) := by
  intro m1 h1 H1 ex rh xs e1 i
  unfold zipV at e1
  split at e1
  · rename_i ys zs q1 q2
    cases e1
    obtain ⟨a', vs, eb, s, r⟩ := getL_ok rh (rv.mono ex) q1
    cases eb
    obtain ⟨b', us, eb, s2, r2⟩ := getL_ok rh (rw'.mono ex) q2
    cases eb
    refine ⟨fun y hy => ?_, fun hl => ⟨vs, us, s, s2, ?_⟩⟩
    · obtain ⟨x, z, hx, hz, rfl⟩ := zipL_get _ _ _ _ hy
      obtain ⟨v, k1, k2⟩ := r.get hx
      obtain ⟨u, l1, l2⟩ := r2.get hz
      refine ⟨⟨vs, us, v, u, s, s2, k1, l1⟩, fun x' H' ⟨T, w1, w2, eT, hT, eH, hx1, hx2⟩ => ?_⟩
      subst eT eH
      have z1 := hx1 vs s
      rw [k1] at z1
      cases z1
      have z2 := hx2 us s2
      rw [l1] at z2
      cases z2
      have ex2 := Ex.fresh (m := m1) (n := h1.length) (o := .tup [v, u]) hT NT.tup
      exact ⟨ex2, rh.fresh hT NT.tup, .tup (.inr ⟨.inl upd_same, rh.off hT⟩) (.cons (k2.mono ex2) (.cons (l2.mono ex2) .nil))⟩
    · rw [zipL_length] at hl
      rw [r.length, r2.length]
      omega
  · cases e1
end
section
variable {X : Cx} {T : TF} {E : XK} {tg a b c e e2 : Expr} {es : List Expr} {pos p : Pos} {f k : ME} {t : MA}
theorem Rv.isRef {g : G} {m : Mp} {h : IH} {H : Hp} {v : V} {d : D} {xs : List D} (rh : RH g m h H) (rv : Rv g.K m h.length H v d) (e : getS h d = some xs) : ∃ a, v = .ref a := by
  obtain ⟨a, vs, e1, _⟩ := getS_ok rh rv e
  exact ⟨a, e1⟩
/-- a list, a tuple -/
def seqV (f : ME) : MV := fun en h => (f en h).bind fun d h1 => match getL h1 d with
  | some _ => .ok (fun h => getL h d) h1
  | none => (match getT d with
    | some xs => .ok (fun _ => some xs) h1
    | none => .bad)
theorem di_seq (ha : DE X T E a f) : DI X T E tg a (seqV f) := by
  refine PI.imp (PI.or (pi_list ha) (pi_tup ha)) fun σ H R ⟨m, h, en, rel, p⟩ => ?_
  have p : Post (ItS (gX X T)) (gX X T) m h.length H E R ((f en h).bind fun d h1 => match getL h1 d with
    | some _ => .ok (fun h => getL h d) h1
    | none => (match getT d with
      | some xs => .ok (fun _ => some xs) h1
      | none => .bad)) := p
  cases q : f en h with
  | bad => rw [q] at p; exact p.elim
  | err c h1 =>
    rw [q] at p
    exact .inl ⟨m, h, en, rel, by rw [q]; exact p⟩
  | ok d h1 =>
    rw [q] at p
    rw [Out.bind_ok] at p
    cases q2 : getL h1 d with
    | some xs =>
      rw [q2] at p
      refine .inl ⟨m, h, en, rel, ?_⟩
      rw [q]
      intro m1 H1 v e1 rh1 rv1
      obtain ⟨a, vs, rfl, s, r⟩ := getL_ok rh1 rv1 q2
      exact ⟨a, rfl, ⟨vs, s⟩, p m1 H1 _ e1 rh1 (its_list rv1)⟩
    | none =>
      rw [q2] at p
      dsimp only at p
      cases q3 : getT d with
      | none => rw [q3] at p; exact p.elim
      | some xs =>
        rw [q3] at p
        refine .inr ⟨m, h, en, rel, ?_⟩
        rw [q]
        intro m1 H1 v e1 rh1 rv1
        obtain ⟨a, vs, rfl, s, r⟩ := getT_ok rv1 q3
        refine ⟨a, rfl, ⟨vs, s⟩, p m1 H1 _ e1 rh1 ?_⟩
        have z := its_tup rv1
        rw [q3] at z
        exact z
def inB (i : Int) : Bool := decide (-(2 ^ 62) ≤ i) && decide (i < 2 ^ 62)
def rng1V (t : MA) : MV := fun en h => (t en h).bind fun ds h1 => match ds with
  | [.int j] => grd (inB j) (.ok (fun _ => some (rangeL 0 j.toNat)) h1)
  | _ => .bad
def rng2V (t : MA) : MV := fun en h => (t en h).bind fun ds h1 => match ds with
  | [.int i, .int j] => grd (inB i && inB j) (.ok (fun _ => some (rangeL i (j - i).toNat)) h1)
  | _ => .bad
theorem di_range1 (hm : X.mg "range" = none) (ha : DA X T E [a] t) (hg : Gl X "range" := by rfl) (hs : starEach [a] X.env = [(false, eval a X.env)] := by rfl) : DI X T E tg (.Call (.Name "range" p) [a] [] pos) (rng1V t) :=
  PI.imp (pi_range1 hg hm ha hs) fun σ H R ⟨m, h, en, rel, p⟩ => chain rel p fun m1 h1 H1 v d e1 rel1 rv1 p1 => by
    split at p1
    · obtain ⟨hc, p1⟩ := Post.grd p1
      unfold inB at hc
      simp only [Bool.and_eq_true, decide_eq_true_eq] at hc
      obtain ⟨u, rfl, ru⟩ := rv1.one
      cases ru
      exact ⟨_, rfl, hc.1, hc.2, p1 m1 H1 _ (Ex.refl _ _ _) rel1.rh its_range⟩
    · exact p1.elim
theorem di_range2 (hm : X.mg "range" = none) (ha : DA X T E [a, b] t) (hg : Gl X "range" := by rfl) (hs : starEach [a, b] X.env = [(false, eval a X.env), (false, eval b X.env)] := by rfl) (hs2 : starEach [b] X.env = [(false, eval b X.env)] := by rfl) : DI X T E tg (.Call (.Name "range" p) [a, b] [] pos) (rng2V t) :=
  PI.imp (pi_range2 hg hm ha hs hs2) fun σ H R ⟨m, h, en, rel, p⟩ => chain rel p fun m1 h1 H1 v d e1 rel1 rv1 p1 => by
    split at p1
    · obtain ⟨hc, p1⟩ := Post.grd p1
      unfold inB at hc
      simp only [Bool.and_eq_true, decide_eq_true_eq] at hc
      obtain ⟨u, w, rfl, ru, rw'⟩ := rv1.two
      cases ru
      cases rw'
      exact ⟨_, _, rfl, ⟨hc.1.1, hc.1.2, hc.2.1, hc.2.2⟩, p1 m1 H1 _ (Ex.refl _ _ _) rel1.rh its_range⟩
    · exact p1.elim
def enumV (t : MA) : MV := fun en h => (t en h).bind fun ds h1 => match ds with
  | [d] => grd ((getL h1 d).isSome) (.ok (fun h => (getL h d).map (enumFrom 0)) h1)
  | _ => .bad
theorem di_enum {tpos : Pos} {elts : List Expr} {kk : Nat} (hm : X.mg "enumerate" = none) (ha : DA X T E [a] t) (hg : Gl X "enumerate" := by rfl) (hs : starEach [a] X.env = [(false, eval a X.env)] := by rfl) : DI X T E (.Tuple elts kk tpos) (.Call (.Name "enumerate" p) [a] [] pos) (enumV t) :=
  PI.imp (pi_enum hg hm ha hs) fun σ H R ⟨m, h, en, rel, p⟩ => chain rel p fun m1 h1 H1 v d e1 rel1 rv1 p1 => by
    split at p1
    · obtain ⟨hc, p1⟩ := Post.grd p1
      obtain ⟨xs, q⟩ := Option.isSome_iff_exists.mp hc
      obtain ⟨u, rfl, ru⟩ := rv1.one
      obtain ⟨a, vs, rfl, s, r⟩ := getL_ok rel1.rh ru q
      exact ⟨a, vs, rfl, s, p1 m1 H1 _ (Ex.refl _ _ _) rel1.rh (its_enum ru)⟩
    · exact p1.elim
def zipE (t : MA) : MV := fun en h => (t en h).bind fun ds h1 => match ds with
  | [d, e] => grd ((getL h1 d).isSome && (getL h1 e).isSome) (.ok (zipV d e) h1)
  | _ => .bad
theorem di_zip {tpos : Pos} {elts : List Expr} {kk : Nat} (hm : X.mg "zip" = none) (ha : DA X T E [e, e2] t) (hg : Gl X "zip" := by rfl) (hs : starEach [e, e2] X.env = (false, eval e X.env) :: starEach [e2] X.env := by rfl) (hpl : (backTo pos (starEach [e2] X.env)).any (·.1) = false := by rfl) :
    DI X T E (.Tuple elts kk tpos) (.Call (.Name "zip" p) [e, e2] [] pos) (zipE t) :=
  PI.imp (pi_zip hg hm ha hs hpl) fun σ H R ⟨m, h, en, rel, p⟩ => chain rel p fun m1 h1 H1 v d e1 rel1 rv1 p1 => by
    split at p1
    · obtain ⟨hc, p1⟩ := Post.grd p1
      rw [Bool.and_eq_true] at hc
      obtain ⟨xs, q⟩ := Option.isSome_iff_exists.mp hc.1
      obtain ⟨ys, q2⟩ := Option.isSome_iff_exists.mp hc.2
      obtain ⟨u, w, rfl, ru, rw'⟩ := rv1.two
      obtain ⟨a, vs, rfl, s, r⟩ := getL_ok rel1.rh ru q
      obtain ⟨b, us, rfl, s2, r2⟩ := getL_ok rel1.rh rw' q2
      exact ⟨a, b, vs, us, rfl, s, s2, p1 m1 H1 _ (Ex.refl _ _ _) rel1.rh (its_zip ru rw')⟩
    · exact p1.elim

/-! ### for -/
def forV (w : View) (body : D → En → IH → SO) : Nat → Nat → En → IH → SO
  | fuel, i, en, h => match w h with
    | none => .bad
    | some xs => match xs[i]? with
      | none => .nx en h
      | some x => match fuel with
        | 0 => .bad
        | fuel + 1 => match body x en h with
          | .nx en' h' => forV w body fuel (i + 1) en' h'
          | .ct en' h' => forV w body fuel (i + 1) en' h'
          | .bk en' h' => .nx en' h'
          | z => z
def stepB (gf : MG) (b : MS) : D → En → IH → SO := fun d en h => match gf d en h with
  | .ok en' h' => b en' h'
  | _ => .bad
def forS (fi : MV) (gf : MG) (b : MS) : MS := fun en h => (fi en h).toS fun w h1 => match w h1 with
  | some xs => forV w (stepB gf b) xs.length 0 en h1
  | none => .bad
theorem ds_for {iter : Expr} {body : List Stmt} {fi : MV} {gf : MG} {fb : MS} (hp : PassesOwn (model X.prog X.w) X.A X.env X.xe) (hc : X.calm = true) (hi : DI X T E tg iter fi) (hg : DG X T tg gf) (hb : DSs X T E body fb)
    (hs : ∀ x, foldedSetIterable iter X.env x = pure x := by intro _; rfl) : DS X T E (.For tg iter body [] pos) (forS fi gf fb) := by
  refine PS.imp (ps_for hp hc hi hg hb hs) fun D σ H ⟨m, h, en, rel, p⟩ => chainS rel p fun m1 h1 H1 J w e1 rel1 its p1 => ?_
  cases q0 : w h1 with
  | none => rw [q0] at p1; exact p1.elim
  | some xs0 =>
  rw [q0] at p1
  refine ⟨fun i μ σ' H' => ∃ m' h' en', Rel (gX X T) m' h' σ' en' H' ∧ Ex m1 h1.length H1 m' h'.length H' ∧ PostS (gX X T) m' h'.length H' E D (forV w (stepB gf fb) μ i en' h'),
    ⟨xs0.length, m1, h1, en, rel1, Ex.refl _ _ _, p1⟩, fun i μ σ' H' ⟨m', h', en', rel', ex', p'⟩ => ?_⟩
  unfold forV at p'
  cases q : w h' with
  | none => rw [q] at p'; exact p'.elim
  | some xs =>
    rw [q] at p'
    obtain ⟨its1, its2⟩ := its m' h' H' ex' rel'.rh xs q i
    dsimp only at p'
    cases q2 : xs[i]? with
    | none =>
      rw [q2] at p'
      exact .inl ⟨its2 (List.getElem?_eq_none_iff.mp q2), p' m' H' σ' (Ex.refl _ _ _) rel'⟩
    | some d =>
      rw [q2] at p'
      obtain ⟨go, yl⟩ := its1 d q2
      dsimp only at p'
      cases μ with
      | zero => exact p'.elim
      | succ μ =>
        dsimp only at p'
        refine .inr ⟨go, fun σ2 H2 => ∃ m2 h2 en2, Rel (gX X T) m2 h2 σ2 en2 H2 ∧ Ex m1 h1.length H1 m2 h2.length H2 ∧ PostS (gX X T) m2 h2.length H2 E D (forV w (stepB gf fb) μ (i + 1) en2 h2), fun σ2 H2 z => ⟨μ, Nat.lt_succ_self _, z⟩, fun x Hx y => ?_⟩
        obtain ⟨ex2, rh2, rv2⟩ := yl x Hx y
        refine ⟨m', h', en', d, rel'.next ex2 rh2, rv2, ?_⟩
        have p' := PostS.rebase ex2 p'
        unfold stepB at p'
        cases q3 : gf d en' h' with
        | err c h3 => rw [q3] at p'; exact p'.elim
        | bad => rw [q3] at p'; exact p'.elim
        | ok en3 h3 =>
          rw [q3] at p'
          intro m3 H3 σ3 ex3 rel3
          refine ⟨m3, h3, en3, rel3, ?_⟩
          dsimp only at p'
          have p' := PostS.rebase ex3 p'
          have exx := (ex'.trans ex2).trans ex3
          cases q4 : fb en3 h3 with
          | nx en4 h4 =>
            rw [q4] at p'
            exact fun m4 H4 σ4 ex4 rel4 => ⟨m4, h4, en4, rel4, exx.trans ex4, PostS.rebase ex4 p'⟩
          | ct en4 h4 =>
            rw [q4] at p'
            exact fun m4 H4 σ4 ex4 rel4 => ⟨m4, h4, en4, rel4, exx.trans ex4, PostS.rebase ex4 p'⟩
          | bk en4 h4 => rw [q4] at p'; exact p'
          | rt d4 h4 => rw [q4] at p'; exact p'
          | err c4 h4 => rw [q4] at p'; exact p'
          | bad => rw [q4] at p'; exact p'

/-! ### while, by so many turns at most -/
def whV (t : MT) (b : MS) : Nat → En → IH → SO
  | 0, _, _ => .bad
  | n + 1, en, h => (t en h).toS fun c h1 => match c with
    | true => (match b en h1 with
      | .nx en' h' => whV t b n en' h'
      | .ct en' h' => whV t b n en' h'
      | .bk en' h' => .nx en' h'
      | z => z)
    | false => .nx en h1
def whS (fuel : En → IH → Nat) (t : MT) (b : MS) : MS := fun en h => whV t b (fuel en h) en h
theorem ds_while (fuel : En → IH → Nat) {body : List Stmt} {tA : MT} {fb : MS} (hp : PassesOwn (model X.prog X.w) X.A X.env X.xe) (hc : DT X T E c tA) (hb : DSs X T E body fb) : DS X T E (.While c body [] pos) (whS fuel tA fb) := by
  refine PS.imp (ps_while hp hc hb) fun D σ H ⟨m, h, en, rel, p⟩ => ?_
  refine ⟨fun μ σ' H' => ∃ m' h' en', Rel (gX X T) m' h' σ' en' H' ∧ PostS (gX X T) m' h'.length H' E D (whV tA fb μ en' h'), ⟨fuel en h, m, h, en, rel, p⟩, fun μ σ' H' ⟨m', h', en', rel', p'⟩ => ?_⟩
  cases μ with
  | zero => exact p'.elim
  | succ μ =>
    refine chainS rel' p' fun m1 h1 H1 v d e1 rel1 rv1 p1 => ?_
    cases (show v = d from rv1)
    cases v with
    | false => rw [if_neg Bool.false_ne_true]; exact p1 m1 H1 σ' (Ex.refl _ _ _) rel1
    | true =>
      rw [if_pos rfl]
      refine ⟨fun σ2 H2 => ∃ m2 h2 en2, Rel (gX X T) m2 h2 σ2 en2 H2 ∧ PostS (gX X T) m2 h2.length H2 E D (whV tA fb μ en2 h2), fun σ2 H2 z => ⟨μ, Nat.lt_succ_self _, z⟩, m1, h1, en', rel1, ?_⟩
      dsimp only at p1
      cases q4 : fb en' h1 with
      | nx en4 h4 =>
        rw [q4] at p1
        exact fun m4 H4 σ4 ex4 rel4 => ⟨m4, h4, en4, rel4, PostS.rebase ex4 p1⟩
      | ct en4 h4 =>
        rw [q4] at p1
        exact fun m4 H4 σ4 ex4 rel4 => ⟨m4, h4, en4, rel4, PostS.rebase ex4 p1⟩
      | bk en4 h4 => rw [q4] at p1; exact p1
      | rt d4 h4 => rw [q4] at p1; exact p1
      | err c4 h4 => rw [q4] at p1; exact p1
      | bad => rw [q4] at p1; exact p1
end
end DL

set_option Elab.async false
set_option linter.all false
set_option maxRecDepth 100000
set_option autoImplicit false
/-! Comprehensions. -/
namespace DL
open PySem PySem.Spec PyProof.Rows L2

/-! ### an address that no value shows -/
def Mp.add (m : Mp) (D : Addr) : Mp := ⟨fun a => m.P a ∨ a = D, m.pt, m.F⟩
def Mp.bas (m : Mp) (P : Addr → Prop) : Mp := ⟨P, m.pt, m.F⟩
section
variable {K : PySem.W.Frag} {m : Mp} {n : Nat} {H : Hp} {D0 : Addr}
theorem Off.add {a : Addr} {o : HO} (q : Off m n a) (h : H a = some o) (hD : H D0 = none) : Off (m.add D0) n a := by
  refine ⟨fun z => ?_, q.2⟩
  rcases z with z | z
  · exact q.1 z
  · rw [z, hD] at h
    cases h
theorem Rd.add {a : Addr} {u : HO} (r : Rd H a u) (q : Off m n a) (hD : H D0 = none) : Off (m.add D0) n a := by
  rcases r with h | ⟨o, h⟩
  · exact q.add h hD
  · exact q.add h hD
mutual
theorem Rv.add (hD : H D0 = none) : ∀ {v : V} {d : D}, Rv K m n H v d → Rv K (m.add D0) n H v d
  | _, _, .non => .non
  | _, _, .bl b => .bl b
  | _, _, .int i => .int i
  | _, _, .str x => .str x
  | _, _, .wd h1 h2 => .wd h1 h2
  | _, _, .tup (.inl h) r => .tup (.inl h) (Rvs.add hD r)
  | _, _, .tup (.inr h) r => .tup (.inr ⟨h.1, Rd.add h.1 h.2 hD⟩) (Rvs.add hD r)
  | _, _, .vl h q r => .vl h (q.add h hD) (Rvs.add hD r)
  | _, _, .fl (.inl h) r => .fl (.inl h) (Rvs.add hD r)
  | _, _, .fl (.inr h) r => .fl (.inr ⟨h.1, Rd.add h.1 h.2 hD⟩) (Rvs.add hD r)
  | _, _, .ref (i := i) hi => Rv.ref (m := m.add D0) hi
theorem Rvs.add (hD : H D0 = none) : ∀ {vs : List V} {ds : List D}, Rvs K m n H vs ds → Rvs K (m.add D0) n H vs ds
  | _, _, .nil => .nil
  | _, _, .cons a b => .cons (Rv.add hD a) (Rvs.add hD b)
end
theorem Off.bas {P : Addr → Prop} (hP : ∀ a, P a → m.P a) {a : Addr} (q : Off m n a) : Off (m.bas P) n a := ⟨fun z => q.1 (hP a z), q.2⟩
mutual
theorem Rv.bas {P : Addr → Prop} (hP : ∀ a, P a → m.P a) : ∀ {v : V} {d : D}, Rv K m n H v d → Rv K (m.bas P) n H v d
  | _, _, .non => .non
  | _, _, .bl b => .bl b
  | _, _, .int i => .int i
  | _, _, .str x => .str x
  | _, _, .wd h1 h2 => .wd h1 h2
  | _, _, .tup (.inl h) r => .tup (.inl h) (Rvs.bas hP r)
  | _, _, .tup (.inr h) r => .tup (.inr ⟨h.1, h.2.bas hP⟩) (Rvs.bas hP r)
  | _, _, .vl h q r => .vl h (q.bas hP) (Rvs.bas hP r)
  | _, _, .fl (.inl h) r => .fl (.inl h) (Rvs.bas hP r)
  | _, _, .fl (.inr h) r => .fl (.inr ⟨h.1, h.2.bas hP⟩) (Rvs.bas hP r)
  | _, _, .ref (i := i) hi => Rv.ref (m := m.bas P) hi
theorem Rvs.bas {P : Addr → Prop} (hP : ∀ a, P a → m.P a) : ∀ {vs : List V} {ds : List D}, Rvs K m n H vs ds → Rvs K (m.bas P) n H vs ds
  | _, _, .nil => .nil
  | _, _, .cons a b => .cons (Rv.bas hP a) (Rvs.bas hP b)
end
/-- the protected row is written: no value leans on it -/
theorem Off.ne {a : Addr} (q : Off m n a) (hD : m.P D0) : a ≠ D0 := fun z => q.1 (by rw [z]; exact hD)
mutual
theorem Rv.upd (hD : m.P D0) {o : HO} : ∀ {v : V} {d : D}, Rv K m n H v d → Rv K m n (L2.upd H D0 o) v d
  | _, _, .non => .non
  | _, _, .bl b => .bl b
  | _, _, .int i => .int i
  | _, _, .str x => .str x
  | _, _, .wd h1 h2 => .wd h1 h2
  | _, _, .tup (.inl h) r => .tup (.inl h) (Rvs.upd hD r)
  | _, _, .tup (.inr h) r => .tup (.inr ⟨by
      rcases h.1 with z | ⟨ob, z⟩
      · exact .inl (by rw [upd_ne (h.2.ne hD)]; exact z)
      · exact .inr ⟨ob, by rw [upd_ne (h.2.ne hD)]; exact z⟩, h.2⟩) (Rvs.upd hD r)
  | _, _, .vl h q r => .vl (by rw [upd_ne (q.ne hD)]; exact h) q (Rvs.upd hD r)
  | _, _, .fl (.inl h) r => .fl (.inl h) (Rvs.upd hD r)
  | _, _, .fl (.inr h) r => .fl (.inr ⟨by
      rcases h.1 with z | ⟨ob, z⟩
      · exact .inl (by rw [upd_ne (h.2.ne hD)]; exact z)
      · exact .inr ⟨ob, by rw [upd_ne (h.2.ne hD)]; exact z⟩, h.2⟩) (Rvs.upd hD r)
  | _, _, .ref hi => .ref hi
theorem Rvs.upd (hD : m.P D0) {o : HO} : ∀ {vs : List V} {ds : List D}, Rvs K m n H vs ds → Rvs K m n (L2.upd H D0 o) vs ds
  | _, _, .nil => .nil
  | _, _, .cons a b => .cons (Rv.upd hD a) (Rvs.upd hD b)
end
end
section
variable {g : G} {m : Mp} {h : IH} {H : Hp} {D0 : Addr}
theorem RH.add (r : RH g m h H) (hD : H D0 = none) {o : HO} (ho : NT o) : RH g (m.add D0) h (L2.upd H D0 o) where
  obj := fun i u hi => by
    have q := r.obj i u hi
    have ex : Ex (m.add D0) h.length H (m.add D0) h.length (L2.upd H D0 o) := Ex.fresh hD ho
    cases u with
    | lst ds => obtain ⟨vs, h1, h2⟩ := q; exact ⟨vs, by rw [show (m.add D0) i = m i from rfl, upd_ne (ne_of_none h1 hD)]; exact h1, (h2.add hD).mono ex⟩
    | dct kvs => obtain ⟨vs, h1, h2⟩ := q; exact ⟨vs, by rw [show (m.add D0) i = m i from rfl, upd_ne (ne_of_none h1 hD)]; exact h1, Paired.mapP h2 fun _ _ z => ⟨z.1, z.2.1, (z.2.2.add hD).mono ex⟩⟩
    | ins c fs => obtain ⟨C, dx, vs, h1, h2, h3, h4⟩ := q; exact ⟨C, dx, vs, by rw [show (m.add D0) i = m i from rfl, upd_ne (ne_of_none h1 hD)]; exact h1, h2, h3, (h4.add hD).mono ex⟩
    | frz kvs => obtain ⟨od, vs, h1, h0, h2⟩ := q; exact ⟨od, vs, by rw [show (m.add D0) i = m i from rfl, upd_ne (ne_of_none h1 hD)]; exact h1, h0, Paired.mapP h2 fun _ _ z => ⟨z.1, z.2.1, (z.2.2.add hD).mono ex⟩⟩
    | ext t ds => obtain ⟨φ, vs, h1, hf, h0, hc, h2⟩ := q; exact ⟨φ, vs, by rw [show (m.add D0) i = m i from rfl, upd_ne (ne_of_none h1 hD)]; exact h1, hf, h0, hc.as (fun c _ z _ => by rw [upd_ne (ne_of_none z hD)]; exact z) (fun _ _ _ z => z), (h2.add hD).mono ex⟩
  inj := r.inj
  tab := r.tab.ext (upd_keeps hD)
  frm := fun p hp => ((r.frm p hp).add hD).mono (Ex.fresh hD ho)
  prt := fun a z => by
    rcases z with z | z
    · obtain ⟨u, e, k⟩ := r.prt a z
      exact ⟨u, upd_keeps hD _ _ e, k⟩
    · exact ⟨o, by rw [z, upd_same], ho⟩
  npr := fun i hi z => by
    rcases z with z | z
    · exact r.npr i hi z
    · obtain ⟨u, e, _⟩ := r.is hi
      rw [show (m.add D0) i = m i from rfl] at z
      rw [z, hD] at e
      cases e
  fz1 := r.fz1
  fz2 := fun a u z => by
    obtain ⟨v, e, k⟩ := r.fz2 a u z
    exact ⟨v, upd_keeps hD _ _ e, k⟩
  fz3 := fun a z => by
    rcases z with z | z
    · exact r.fz3 a z
    · subst z
      cases q : m.F a with
      | none => exact q
      | some u =>
        obtain ⟨v, e, _⟩ := r.fz2 a u q
        rw [hD] at e
        cases e
theorem RH.bas (r : RH g m h H) {P : Addr → Prop} (hP : ∀ a, P a → m.P a) : RH g (m.bas P) h H where
  obj := fun i u hi => by
    have q := r.obj i u hi
    cases u with
    | lst ds => obtain ⟨vs, h1, h2⟩ := q; exact ⟨vs, h1, h2.bas hP⟩
    | dct kvs => obtain ⟨vs, h1, h2⟩ := q; exact ⟨vs, h1, Paired.mapP h2 fun _ _ z => ⟨z.1, z.2.1, z.2.2.bas hP⟩⟩
    | ins c fs => obtain ⟨C, dx, vs, h1, h2, h3, h4⟩ := q; exact ⟨C, dx, vs, h1, h2, h3, h4.bas hP⟩
    | frz kvs => obtain ⟨od, vs, h1, h0, h2⟩ := q; exact ⟨od, vs, h1, h0, Paired.mapP h2 fun _ _ z => ⟨z.1, z.2.1, z.2.2.bas hP⟩⟩
    | ext t ds => obtain ⟨φ, vs, h1, hf, h0, hc, h2⟩ := q; exact ⟨φ, vs, h1, hf, h0, hc.as (fun _ _ z _ => z) (fun _ _ _ z => z), h2.bas hP⟩
  inj := r.inj
  tab := r.tab
  frm := fun p hp => (r.frm p hp).bas hP
  prt := fun a z => r.prt a (hP a z)
  npr := fun i hi z => r.npr i hi (hP _ z)
  fz1 := r.fz1
  fz2 := r.fz2
  fz3 := fun a z => r.fz3 a (hP a z)
theorem RH.updP (r : RH g m h H) (hD : m.P D0) {xs ys : List V} (hl : H D0 = some (.lst xs)) : RH g m h (L2.upd H D0 (.lst ys)) where
  obj := fun i u hi => by
    have q := r.obj i u hi
    have hil : i < h.length := (List.getElem?_eq_some_iff.mp hi).1
    have ne : m i ≠ D0 := fun z => r.npr i hil (by rw [z]; exact hD)
    cases u with
    | lst ds => obtain ⟨vs, h1, h2⟩ := q; exact ⟨vs, by rw [upd_ne ne]; exact h1, h2.upd hD⟩
    | dct kvs => obtain ⟨vs, h1, h2⟩ := q; exact ⟨vs, by rw [upd_ne ne]; exact h1, Paired.mapP h2 fun _ _ z => ⟨z.1, z.2.1, z.2.2.upd hD⟩⟩
    | ins c fs => obtain ⟨C, dx, vs, h1, h2, h3, h4⟩ := q; exact ⟨C, dx, vs, by rw [upd_ne ne]; exact h1, h2, h3, h4.upd hD⟩
    | frz kvs => obtain ⟨od, vs, h1, h0, h2⟩ := q; exact ⟨od, vs, by rw [upd_ne ne]; exact h1, h0, Paired.mapP h2 fun _ _ z => ⟨z.1, z.2.1, z.2.2.upd hD⟩⟩
    | ext t ds => obtain ⟨φ, vs, h1, hf, h0, hc, h2⟩ := q; exact ⟨φ, vs, by rw [upd_ne ne]; exact h1, hf, h0, hc.as (fun c _ z _ => by rw [upd_ne (fun y => by rw [y, hl] at z; exact nomatch z)]; exact z) (fun _ _ _ z => z), h2.upd hD⟩
  inj := r.inj
  tab := tabs_store r.tab hl NT.lst (fun _ z => by cases z)
  frm := fun p hp => (r.frm p hp).upd hD
  prt := fun a z => by
    obtain ⟨u, e, k⟩ := r.prt a z
    by_cases ha : a = D0
    · exact ⟨.lst ys, by rw [ha, upd_same], NT.lst⟩
    · exact ⟨u, by rw [upd_ne ha]; exact e, k⟩
  npr := r.npr
  fz1 := r.fz1
  fz2 := fun a u z => by
    obtain ⟨v, e, k⟩ := r.fz2 a u z
    by_cases ha : a = D0
    · exact ⟨.lst ys, by rw [ha, upd_same], NT.lst⟩
    · exact ⟨v, by rw [upd_ne ha]; exact e, k⟩
  fz3 := r.fz3
end

/-! ### slots of a block -/
def wipeE (en : En) : List Nat → En
  | [] => en
  | v :: vs => (wipeE en vs).set v none
theorem wipeE_length (en : En) : ∀ vs : List Nat, (wipeE en vs).length = en.length
  | [] => rfl
  | v :: vs => by unfold wipeE; rw [List.length_set, wipeE_length en vs]
theorem wipeE_some {en : En} {i : Nat} {x : D} : ∀ {vs : List Nat}, (wipeE en vs)[i]? = some (some x) → en[i]? = some (some x) ∧ i ∉ vs
  | [], h => ⟨h, by simp⟩
  | v :: vs, h => by
    unfold wipeE at h
    by_cases hv : i = v
    · subst hv
      rw [List.getElem?_set] at h
      split at h
      · split at h <;> cases h
      · rename_i z; exact absurd rfl z
    · rw [List.getElem?_set_ne (Ne.symm hv)] at h
      obtain ⟨h1, h2⟩ := wipeE_some h
      exact ⟨h1, by simp [hv, h2]⟩
theorem wipe_in {σ : L2.St} {i : Nat} : ∀ {vs : List Nat}, i ∈ vs → (wipe σ vs)[i]? = if i < σ.length then some none else none
  | [], h => by cases h
  | v :: vs, h => by
    unfold wipe
    by_cases hv : i = v
    · subst hv
      rw [List.getElem?_set, if_pos rfl, wipe_length]
    · rw [List.getElem?_set_ne (Ne.symm hv)]
      exact wipe_in (by simpa [hv] using h)
theorem Rel.wipe {g : G} {m : Mp} {h : IH} {σ : L2.St} {en : En} {H : Hp} (r : Rel g m h σ en H) (vs : List Nat) : Rel g m h (L2.wipe σ vs) (wipeE en vs) H :=
  ⟨r.rh, by rw [wipe_length, wipeE_length, r.len], fun i d hi => by
    obtain ⟨h1, h2⟩ := wipeE_some hi
    obtain ⟨v, q1, q2⟩ := r.env i d h1
    exact ⟨v, by rw [wipe_out h2]; exact q1, q2⟩⟩
/-- the names of a target, one or several -/
inductive Pat where
  | one (i : Nat) | many (is : List Nat)
def Pat.slots : Pat → List Nat
  | .one i => [i]
  | .many is => is
def setsV (σ : L2.St) : List Nat → List V → L2.St
  | i :: is, v :: vs => setsV (σ.set i (some v)) is vs
  | _, _ => σ
def setsE (en : En) : List Nat → List D → En
  | i :: is, v :: vs => setsE (en.set i (some v)) is vs
  | _, _ => en
theorem Rel.sets {g : G} {m : Mp} {h : IH} {H : Hp} : ∀ {σ : L2.St} {en : En} (is : List Nat) {vs : List V} {ds : List D}, Rel g m h σ en H → Rvs g.K m h.length H vs ds → Rel g m h (setsV σ is vs) (setsE en is ds) H
  | _, _, [], _, _, r, _ => r
  | _, _, i :: is, _, _, r, .nil => r
  | _, _, i :: is, _, _, r, .cons a b => Rel.sets is (r.set i a) b
theorem setsV_out {i : Nat} : ∀ {σ : L2.St} (is : List Nat) (vs : List V), i ∉ is → (setsV σ is vs)[i]? = σ[i]?
  | σ, [], vs, _ => by cases vs <;> rfl
  | σ, j :: is, [], _ => rfl
  | σ, j :: is, v :: vs, h => by
    have h' : i ≠ j ∧ i ∉ is := by simpa using h
    show (setsV (σ.set j (some v)) is vs)[i]? = _
    rw [setsV_out is vs h'.2, List.getElem?_set_ne (Ne.symm h'.1)]
theorem setsV_length : ∀ {σ : L2.St} (is : List Nat) (vs : List V), (setsV σ is vs).length = σ.length
  | σ, [], vs => by cases vs <;> rfl
  | σ, j :: is, [] => rfl
  | σ, j :: is, v :: vs => by
    show (setsV (σ.set j (some v)) is vs).length = _
    rw [setsV_length is vs, List.length_set]
theorem wipe_sets {σ : L2.St} {vs : List Nat} (is : List Nat) (ws : List V) (hi : ∀ i ∈ is, i ∈ vs) : wipe (setsV (wipe σ vs) is ws) vs = wipe σ vs := by
  apply List.ext_getElem?
  intro i
  by_cases h : i ∈ vs
  · rw [wipe_in h, wipe_in h, setsV_length, wipe_length]
  · rw [wipe_out h, setsV_out _ _ (fun z => h (hi i z))]
def gNames : List Nat → TGs
  | [] => gNil
  | i :: is => gCons (gName i) (gNames is)
theorem gNames_red : ∀ (is : List Nat) (vs : List V) (σ : L2.St) (H : Hp) (Q : L2.St → Hp → Prop), vs.length = is.length → Q (setsV σ is vs) H → gNames is vs σ H Q
  | [], [], σ, H, Q, _, q => ⟨rfl, q⟩
  | [], _ :: _, _, _, _, h, _ => by simp at h
  | i :: is, [], _, _, _, h, _ => by simp at h
  | i :: is, v :: vs, σ, H, Q, h, q => ⟨v, vs, rfl, gNames_red is vs (σ.set i (some v)) H Q (by simpa using h) q⟩
def Pat.tg (K : PySem.W.Frag) : Pat → TG
  | .one i => gName i
  | .many is => gTup K is.length (gNames is)
def Pat.set (p : Pat) (d : D) (en : En) : Option En := match p with
  | .one i => some (en.set i (some d))
  | .many is => match d with
    | .tup xs => if xs.length = is.length then some (setsE en is xs) else none
    | _ => none
theorem Pat.run {g : G} {m : Mp} {h : IH} {H : Hp} {σ : L2.St} {en en' : En} {v : V} {d : D} {vs : List Nat} {Q : L2.St → Hp → Prop} (p : Pat) (hp : ∀ i ∈ p.slots, i ∈ vs) (r : Rel g m h (wipe σ vs) en H) (rv : Rv g.K m h.length H v d) (e : p.set d en = some en')
    (k : ∀ σ2, Rel g m h σ2 en' H → wipe σ2 vs = wipe σ vs → Q σ2 H) : p.tg g.K v (wipe σ vs) H Q := by
  cases p with
  | one i =>
    cases e
    exact k _ (r.set i rv) (wipe_sets (is := [i]) (ws := [v]) hp)
  | many is =>
    cases d with
    | tup xs =>
      have e : (if xs.length = is.length then some (setsE en is xs) else none) = some en' := e
      split at e
      · rename_i hl
        cases e
        obtain ⟨a, ws, rfl, s, r2⟩ := getT_ok rv (show getT (.tup xs) = some xs from rfl)
        exact ⟨a, ws, rfl, s, by rw [r2.length]; exact hl, gNames_red is ws _ H Q (by rw [r2.length]; exact hl) (k _ (r.sets is r2) (wipe_sets is ws hp))⟩
      · cases e
    | _ => cases e

/-! ### the comprehension -/
/-- lc w p t e vs: from the i-th turn on; ys: the list so far -/
def lcV (w : View) (p : Pat) (t : MT) (e : ME) (vs : List Nat) (en : En) : Nat → Nat → List D → IH → Out (List D)
  | fuel, i, ys, h => match w h with
    | none => .bad
    | some xs => match xs[i]? with
      | none => .ok ys h
      | some x => match fuel with
        | 0 => .bad
        | fuel + 1 => match p.set x (wipeE en vs) with
          | none => .bad
          | some en' => match t en' h with
            | .ok true h1 => (match e en' h1 with
              | .ok y h2 => grd (decide (ys.length < sizeLine)) (lcV w p t e vs en fuel (i + 1) (ys ++ [y]) h2)
              | _ => .bad)
            | .ok false h1 => lcV w p t e vs en fuel (i + 1) ys h1
            | _ => .bad
def lcE (r : Bool) (fi : MV) (p : Pat) (t : MT) (e : ME) (vs : List Nat) : ME := fun en h => (fi en h).bind fun w h1 => match w h1 with
  | some xs => (lcV w p t e vs en xs.length 0 [] h1).bind fun ys h2 => outL r ys h2
  | none => .bad
def yesT : MT := fun _ h => .ok true h
def DTs (X : Cx) (T : TF) (E : XK) (es : List Expr) (f : MT) : Prop := PTs X es (LT (gX X T) E f)
theorem PTs.imp {X : Cx} {e : List Expr} {t t' : TT} (h : PTs X e t) (q : ∀ σ H Q, t' σ H Q → t σ H Q) : PTs X e t' := ⟨fun pins s σ H Q I w => h.run pins s σ H Q I (q σ H Q w)⟩
theorem dts_nil {X : Cx} {T : TF} {E : XK} : DTs X T E [] yesT := PTs.imp pts_nil fun σ H Q ⟨m, h, en, rel, p⟩ => p m H _ (Ex.refl _ _ _) rel.rh rfl
theorem dts_one {X : Cx} {T : TF} {E : XK} {c : Expr} {f : MT} (h : DT X T E c f) : DTs X T E [c] f := pts_one h
theorem Ex.bas {m m' : Mp} {n n' : Nat} {H H' : Hp} {P : Addr → Prop} (e : Ex m n H m' n' H') : Ex (m.bas P) n H (m'.bas P) n' H' := ⟨e.le, ⟨fun _ z => z, fun _ z => .inl z⟩, e.same, e.new, e.keep, e.dom, e.fz⟩
/-- the end: the list is handed on -/
theorem lc_end {g : G} {E : XK} {Q : VK} {r : Bool} {m0 m' : Mp} {n0 : Nat} {H0 H : Hp} {h : IH} {D0 : Addr} {acc : List V} {ys : List D} (ex : Ex m0 n0 H0 (m'.bas m0.P) h.length H) (hP : ∀ a, m0.P a → m'.P a) (rh : RH g m' h H) (hD : H D0 = some (.lst acc)) (hn : H0 D0 = none) (pD : m'.P D0) (np : ¬ m0.P D0)
    (r2 : Rvs g.K m' h.length H acc ys) (p : Post (Rv g.K) g m0 n0 H0 E Q (outL r ys h)) : Q (.ref D0) H := by
  have offI : ∀ i, i < h.length → m' i ≠ D0 := fun i hi z => rh.npr i hi (by rw [z]; exact pD)
  have rh' := rh.bas (P := m0.P) hP
  cases r with
  | false => exact p _ H _ ex rh' (.vl hD ⟨np, offI⟩ (r2.bas hP))
  | true =>
    have hl : (h ++ [O.lst ys]).length = h.length + 1 := by simp
    -- D0 becomes an object of the ideal heap
    have exA : Ex m0 n0 H0 (put (m'.bas m0.P) h.length D0) (h.length + 1) H := by
      refine ⟨Nat.le_succ_of_le ex.le, ⟨fun _ z => z, fun _ z => .inl z⟩, fun i hi => ?_, fun i h1 h2 o ho k => ?_, ex.keep, ex.dom, ex.fz⟩
      · rw [put_ne (Nat.ne_of_lt (Nat.lt_of_lt_of_le hi ex.le))]
        exact ex.same i hi
      · by_cases hi : i = h.length
        · rw [hi, put_same, hn] at ho
          cases ho
        · rw [put_ne hi] at ho
          exact ex.new i h1 (by omega) o ho k
    -- values of the old image stand in the new one
    have up : ∀ {v : V} {d : D}, Rv g.K m' h.length H v d → Rv g.K (put (m'.bas m0.P) h.length D0) (h.length + 1) H v d := by
      have offU : ∀ {a : Addr}, Off m' h.length a → Off (put (m'.bas m0.P) h.length D0) (h.length + 1) a := fun {a} q => ⟨fun z => q.1 (hP a z), fun i hi z => by
        by_cases h1 : i = h.length
        · rw [h1, put_same] at z
          exact q.1 (by rw [← z]; exact pD)
        · rw [put_ne h1] at z
          exact q.2 i (by omega) z⟩
      intro v d q
      exact Rv.rec (motive_1 := fun v d _ => Rv g.K (put (m'.bas m0.P) h.length D0) (h.length + 1) H v d) (motive_2 := fun vs ds _ => Rvs g.K (put (m'.bas m0.P) h.length D0) (h.length + 1) H vs ds)
        .non .bl .int .str (fun h1 h2 => .wd h1 h2)
        (fun h1 _ ih => .tup (h1.elim .inl fun z => .inr ⟨z.1, offU z.2⟩) ih)
        (fun h1 h2 _ ih => .vl h1 (offU h2) ih)
        (fun h1 _ ih => .fl (h1.elim .inl fun z => .inr ⟨z.1, offU z.2⟩) ih)
        (fun {i} hi => by
          have z := Rv.ref (K := g.K) (m := put (m'.bas m0.P) h.length D0) (n := h.length + 1) (H := H) (i := i) (Nat.lt_succ_of_lt hi)
          rw [put_ne (Nat.ne_of_lt hi)] at z
          exact z)
        .nil (fun _ _ a b => .cons a b) q
    have ups : ∀ {vs : List V} {ds : List D}, Rvs g.K m' h.length H vs ds → Rvs g.K (put (m'.bas m0.P) h.length D0) (h.length + 1) H vs ds := by
      intro vs ds q
      induction ds generalizing vs with
      | nil => cases q; exact .nil
      | cons d ds ih =>
        cases q with
        | cons a b => exact .cons (up a) (ih b)
    have rhA : RH g (put (m'.bas m0.P) h.length D0) (h ++ [.lst ys]) H := by
      refine ⟨fun i u hi => ?_, fun i j hi hj e => ?_, rh.tab, fun p hp => (by rw [hl]; exact up (rh.frm p hp)), fun a z => rh.prt a (hP a z), fun i hi z => ?_, fun i u hi nf nx => ?_, rh.fz2, fun a z => rh.fz3 a (hP a z)⟩
      · rw [hl]
        by_cases h1 : i < h.length
        · rw [List.getElem?_append_left h1] at hi
          rw [put_ne (Nat.ne_of_lt h1)]
          have q := rh.obj i u hi
          cases u with
          | lst ds => obtain ⟨vs, q1, q2⟩ := q; exact ⟨vs, q1, ups q2⟩
          | dct kvs => obtain ⟨vs, q1, q2⟩ := q; exact ⟨vs, q1, Paired.mapP q2 fun _ _ z => ⟨z.1, z.2.1, up z.2.2⟩⟩
          | ins c fs => obtain ⟨C, dx, vs, q1, q2, q3, q4⟩ := q; exact ⟨C, dx, vs, q1, q2, q3, ups q4⟩
          | frz kvs => obtain ⟨od, vs, q1, q0, q2⟩ := q; exact ⟨od, vs, q1, q0, Paired.mapP q2 fun _ _ z => ⟨z.1, z.2.1, up z.2.2⟩⟩
          | ext t ds => obtain ⟨φ, vs, q1, qf, q0, qc, q2⟩ := q; exact ⟨φ, vs, q1, qf, q0, qc.as (fun _ _ z _ => z) (fun c _ z y j hj => by
              by_cases h3 : j = h.length
              · rw [h3, put_same]
                exact fun w => by rw [w] at hD; rw [hD] at z; exact nomatch z
              · rw [put_ne h3]
                exact y j (by omega)), ups q2⟩
        · have : i = h.length := by
            have := (List.getElem?_eq_some_iff.mp hi).1
            rw [hl] at this
            omega
          subst this
          simp at hi
          subst hi
          rw [put_same]
          exact ⟨acc, hD, ups r2⟩
      · rw [hl] at hi hj
        by_cases h1 : i = h.length
        · by_cases h2 : j = h.length
          · rw [h1, h2]
          · rw [h1, put_same, put_ne h2] at e
            exact absurd e.symm (offI j (by omega))
        · by_cases h2 : j = h.length
          · rw [h2, put_same, put_ne h1] at e
            exact absurd e (offI i (by omega))
          · rw [put_ne h1, put_ne h2] at e
            exact rh.inj i j (by omega) (by omega) e
      · rw [hl] at hi
        by_cases h1 : i = h.length
        · rw [h1, put_same] at z
          exact np z
        · rw [put_ne h1] at z
          exact rh.npr i (by omega) (hP _ z)
      · show m'.F (put (m'.bas m0.P) h.length D0 i) = none
        by_cases h1 : i < h.length
        · rw [List.getElem?_append_left h1] at hi
          rw [put_ne (Nat.ne_of_lt h1)]
          exact rh.fz1 i u hi nf nx
        · have : i = h.length := by
            have := (List.getElem?_eq_some_iff.mp hi).1
            rw [hl] at this
            omega
          subst this
          rw [put_same]
          exact rh.fz3 D0 pD
    have p : Post (Rv g.K) g m0 n0 H0 E Q (.ok (.ref h.length) (h ++ [.lst ys])) := p
    have z := Rv.ref (K := g.K) (m := put (m'.bas m0.P) h.length D0) (n := h.length + 1) (H := H) (Nat.lt_succ_self h.length)
    rw [put_same] at z
    exact p _ H _ (by rw [hl]; exact exA) rhA (by rw [hl]; exact z)
theorem redLc {g : G} {E : XK} {σ : L2.St} {H : Hp} {Q : VK} {r : Bool} {fi : MV} {p : Pat} {t : MT} {e : ME} {vs : List Nat} (hp : ∀ i ∈ p.slots, i ∈ vs) (q : LE g E (lcE r fi p t e vs) σ H Q) :
    tLc (LX (ItS g) g E fi) (p.tg g.K) (LT g (fun _ _ _ => False) t) (LE g (fun _ _ _ => False) e) vs σ H Q := by
  obtain ⟨m, h, en, rel, pp⟩ := q
  refine chain rel pp fun m1 h1 H1 J w e1 rel1 its p1 => ?_
  intro D0 hD0
  cases q0 : w h1 with
  | none => rw [q0] at p1; exact p1.elim
  | some xs0 =>
  rw [q0] at p1
  have exS : Ex m1 h1.length H1 (m1.add D0) h1.length (upd H1 D0 (.lst [])) :=
    ⟨Nat.le_refl _, ⟨fun _ z => .inl z, fun a z => z.elim .inl fun y => .inr fun o ho => by rw [y, hD0] at ho; cases ho⟩, fun _ _ => rfl, fun i a b => absurd (Nat.lt_of_lt_of_le b a) (Nat.lt_irrefl _), fun a o ha _ _ => upd_keeps hD0 _ _ ha, fun a o ha k => ⟨o, upd_keeps hD0 _ _ ha, k⟩, fun _ _ z => z⟩
  have np : ¬ m1.P D0 := (rel1.rh.off hD0).1
  refine ⟨fun i μ H' => ∃ m' h' acc ys, Rel g m' h' (wipe σ vs) (wipeE en vs) H' ∧ Ex m1 h1.length H1 m' h'.length H' ∧ m'.P D0 ∧ H' D0 = some (.lst acc) ∧ Rvs g.K m' h'.length H' acc ys ∧ Post (Rv g.K) g m1 h1.length H1 E Q ((lcV w p t e vs en μ i ys h').bind fun ys h2 => outL r ys h2),
    ⟨xs0.length, m1.add D0, h1, [], [], ?_, exS, .inr rfl, upd_same, .nil, p1⟩, fun i μ H' ⟨m', h', acc, ys, rel', ex', pD, hD, racc, p'⟩ => ?_⟩
  · exact (rel1.next exS (rel1.rh.add hD0 NT.lst)).wipe vs
  unfold lcV at p'
  cases q : w h' with
  | none => rw [q] at p'; exact p'.elim
  | some xs =>
    rw [q] at p'
    obtain ⟨its1, its2⟩ := its m' h' H' ex' rel'.rh xs q i
    dsimp only at p'
    cases q2 : xs[i]? with
    | none =>
      rw [q2] at p'
      refine .inl ⟨its2 (List.getElem?_eq_none_iff.mp q2), ?_⟩
      exact lc_end (m0 := m1) (m' := m') ⟨ex'.le, ⟨fun _ z => z, fun _ z => .inl z⟩, ex'.same, ex'.new, ex'.keep, ex'.dom, ex'.fz⟩ ex'.prot.1 rel'.rh hD hD0 pD np racc p'
    | some d =>
      rw [q2] at p'
      obtain ⟨go, yl⟩ := its1 d q2
      dsimp only at p'
      cases μ with
      | zero => exact p'.elim
      | succ μ =>
        dsimp only at p'
        refine .inr ⟨go, fun H2 => ∃ m2 h2 acc ys, Rel g m2 h2 (wipe σ vs) (wipeE en vs) H2 ∧ Ex m1 h1.length H1 m2 h2.length H2 ∧ m2.P D0 ∧ H2 D0 = some (.lst acc) ∧ Rvs g.K m2 h2.length H2 acc ys ∧ Post (Rv g.K) g m1 h1.length H1 E Q ((lcV w p t e vs en μ (i + 1) ys h2).bind fun ys h2 => outL r ys h2),
          fun H2 z => ⟨μ, Nat.lt_succ_self _, z⟩, fun x Hx y => ?_⟩
        obtain ⟨ex2, rh2, rv2⟩ := yl x Hx y
        have rel2 := rel'.next ex2 rh2
        cases q3 : p.set d (wipeE en vs) with
        | none => rw [q3] at p'; exact p'.elim
        | some en3 =>
          rw [q3] at p'
          dsimp only at p'
          have keepD : ∀ {ma : Mp} {ha : IH} {Ha : Hp} {mb : Mp} {hb : IH} {Hb : Hp} {ac : List V}, RH g ma ha Ha → ma.P D0 → Ha D0 = some (.lst ac) → Ex ma ha.length Ha mb hb.length Hb → Hb D0 = some (.lst ac) := fun {ma ha Ha mb hb Hb ac} ra pa hd ex => ex.keep _ _ hd (fun i hi z => ra.npr i hi (by rw [z]; exact pa)) NT.lst
          have hD2 := keepD rel'.rh pD hD ex2
          refine p.run hp rel2 rv2 q3 fun σ3 rel3 ws => ⟨ws, ?_⟩
          refine ⟨m', h', en3, rel3, ?_⟩
          cases q4 : t en3 h' with
          | bad => rw [q4] at p'; exact p'.elim
          | err c h4 => rw [q4] at p'; exact p'.elim
          | ok b h4 =>
            rw [q4] at p'
            intro m4 H4 b' ex4 rh4 eb
            cases (show b' = b from eb)
            have rel4 := rel2.next ex4 rh4
            have rel4s := rel3.next ex4 rh4
            have ex14 := (ex'.trans ex2).trans ex4
            have pD4 := ex4.prot.1 _ (ex2.prot.1 _ pD)
            have hD4 := keepD rh2 (ex2.prot.1 _ pD) hD2 ex4
            cases b with
            | false =>
              rw [if_neg Bool.false_ne_true]
              exact ⟨m4, h4, acc, ys, rel4, ex14, pD4, hD4, (racc.mono ex2).mono ex4, p'⟩
            | true =>
              rw [if_pos rfl]
              dsimp only at p'
              refine ⟨m4, h4, en3, rel4s, ?_⟩
              cases q5 : e en3 h4 with
              | bad => rw [q5] at p'; exact p'.elim
              | err c h5 => rw [q5] at p'; exact p'.elim
              | ok y h5 =>
                rw [q5] at p'
                dsimp only at p'
                intro m5 H5 u ex5 rh5 ru
                by_cases hl : ys.length < sizeLine
                · rw [grd_of _ (decide_eq_true hl)] at p'
                  have racc5 := ((racc.mono ex2).mono ex4).mono ex5
                  have pD5 := ex5.prot.1 _ pD4
                  have hD5 := keepD rh4 pD4 hD4 ex5
                  refine ⟨acc, hD5, by rw [racc5.length]; exact hl, m5, h5, acc ++ [u], ys ++ [y], ?_, ?_, pD5, upd_same, (racc5.append (.cons ru .nil)).upd pD5, p'⟩
                  · have r5 := rel4.next ex5 rh5
                    exact ⟨r5.rh.updP pD5 hD5, r5.len, fun j dj hj => let ⟨v, z1, z2⟩ := r5.env j dj hj; ⟨v, z1, z2.upd pD5⟩⟩
                  · have exA := ex14.trans ex5
                    refine ⟨exA.le, exA.prot, exA.same, exA.new, fun a o ha oi k => ?_, fun a o ha k => ?_, exA.fz⟩
                    · rw [upd_ne (ne_of_none ha hD0)]
                      exact exA.keep a o ha oi k
                    · rw [upd_ne (ne_of_none ha hD0)]
                      exact exA.dom a o ha k
                · rw [decide_eq_false hl] at p'
                  exact p'.elim
section
variable {X : Cx} {T : TF} {E : XK} {elt tg iter : Expr} {ifs : List Expr} {scope : Scope} {pos : Pos} {fi : MV} {t : MT} {e : ME}
abbrev NoE : XK := fun _ _ _ => False
/-- [elt for tg in iter if ..] -/
theorem de_lc (r : Bool) (p : Pat) (own : List (Str × Nat)) (hc : X.calm = true) (hN : X.N.Nodup) (hi : DI X T E tg iter fi) (ok : BlkOk X.N X.env.scope scope own)
    (hg : ∀ (s : Shared) (H : Hp) (C : Addr) (cl : List (Str × Addr)) (fp : List Addr), PG (X.blk s H scope (compEnvC scope cl C X.env) fp) tg (p.tg X.K))
    (ht : ∀ (s : Shared) (H : Hp) (C : Addr) (cl : List (Str × Addr)) (fp : List Addr), DTs (X.blk s H scope (compEnvC scope cl C X.env) fp) T NoE ifs t)
    (he : ∀ (s : Shared) (H : Hp) (C : Addr) (cl : List (Str × Addr)) (fp : List Addr), DE (X.blk s H scope (compEnvC scope cl C X.env) fp) T NoE elt e)
    (hp : ∀ i ∈ p.slots, i ∈ own.map (·.2) := by decide) (hs : ∀ x, foldedSetIterable iter X.env x = pure x := by intro _; rfl) : DE X T E (.ListComp elt [⟨tg, iter, ifs, 0⟩] scope pos) (lcE r fi p t e (own.map (·.2))) :=
  PE.imp (pe_lc (tt := LT (gX X T) NoE t) (te := LE (gX X T) NoE e) hc hN hi ok hg ht he hs) fun _ _ _ q => redLc hp q
/-- x = [..], x a local -/
theorem ds_setLc (i : Nat) (r : Bool) (p : Pat) (own : List (Str × Nat)) {y : Str} {py spos : Pos} (hc : X.calm = true) (hN : X.N.Nodup) (hi : DI X T E tg iter fi) (ok : BlkOk X.N X.env.scope scope own)
    (hg : ∀ (s : Shared) (H : Hp) (C : Addr) (cl : List (Str × Addr)) (fp : List Addr), PG (X.blk s H scope (compEnvC scope cl C X.env) fp) tg (p.tg X.K))
    (ht : ∀ (s : Shared) (H : Hp) (C : Addr) (cl : List (Str × Addr)) (fp : List Addr), DTs (X.blk s H scope (compEnvC scope cl C X.env) fp) T NoE ifs t)
    (he : ∀ (s : Shared) (H : Hp) (C : Addr) (cl : List (Str × Addr)) (fp : List Addr), DE (X.blk s H scope (compEnvC scope cl C X.env) fp) T NoE elt e)
    (hsw : swapsWith (.ListComp elt [⟨tg, iter, ifs, 0⟩] scope pos) (some (.Name y py)) spos.line X.env = pure true := by exact sw_true rfl rfl rfl (by decide +kernel))
    (hy : X.N[i]? = some y := by rfl) (hyl : X.env.scope.names.lookup y = some .local := by rfl) (hp : ∀ i ∈ p.slots, i ∈ own.map (·.2) := by decide) (hs : ∀ x, foldedSetIterable iter X.env x = pure x := by intro _; rfl) :
    DS X T E (.Assign [.Name y py] (.ListComp elt [⟨tg, iter, ifs, 0⟩] scope pos) spos) (asgS (lcE r fi p t e (own.map (·.2))) (nameG i)) :=
  PS.imp (ps_setLc (tt := LT (gX X T) NoE t) (te := LE (gX X T) NoE e) hc hN hy hyl hsw hi ok hg ht he hs) fun D σ H ⟨m, h, en, rel, pp⟩ => by
    have q : LE (gX X T) E (lcE r fi p t e (own.map (·.2))) σ H (fun x H1 => gName i x σ H1 D.nx) := chainS rel pp fun m1 h1 H1 v d e1 rel1 rv1 p1 => p1 m1 H1 _ (Ex.refl _ _ _) (rel1.set i rv1)
    exact redLc hp q
end
end DL

set_option Elab.async false
set_option linter.all false
set_option maxRecDepth 100000
set_option autoImplicit false
set_option maxHeartbeats 1000000
/-! While an error is handled: lists walked, summed, a comprehension. -/
namespace DL
open PySem PySem.Spec PyProof.Rows L2 HotX L2H

section
variable {prog : Program} {w : World} {A : Around} {E : Value → Shared → Prop} {s : Shared}
/-- the end of a list's walk -/
theorem end_hot {it l x1 : Addr} {i : Nat} {items : Array Value} {Q : Option Value → Shared → Prop} (hot : HotAt A x1 s.heap) (ne : x1 ≠ it) (hit : s.heap.IsListIter it l i) (hl : s.heap.IsList l items) (hx : items[i]? = none)
    (hQ : ∀ h', Heap.ExtBut it s.heap h' → Q none { s with heap := h' }) : wpAny (model prog w) A (pyNext (.ref it)) Q E s := by
  obtain ⟨o, ho, hc, hd⟩ := id hit
  obtain ⟨ol, hol, _, nl, hdl⟩ := hl
  obtain ⟨hh, o1, vs1, h1, d1, c1⟩ := hot
  unfold pyNext
  refine wpAny_bind (wpAny_attempt (wpAny_callSpecial?_slot (name := Str.ofString "__next__") hit.typeIs slot_listiter_next (wpAny_call_entry slot_listiter_next hit.typeIs entry_listiter_next ?_ (args_listiter_next _))))
  show wpAny _ _ (field (.ref it) 0 >>= _) _ _ s
  refine wpAny_bind (wpAny_field ho hd (x := .ref l) rfl ?_)
  show wpAny _ _ (if (Value.ref l == Value.none) = true then _ else _) _ _ s
  rw [if_neg (show ¬ ((Value.ref l == Value.none) = true) from Bool.false_ne_true)]
  show wpAny _ _ (field (.ref it) 1 >>= _) _ _ s
  refine wpAny_bind (wpAny_field ho hd (x := .int i 0) rfl ?_)
  show wpAny _ _ (seqItems? (.ref l) >>= _) _ _ s
  refine wpAny_bind (wpAny_seqItems hol hdl ?_)
  simp only [Int.toNat_natCast, hx]
  refine wpAny_bind (wpAny_rule (wpAny_bind (wpAny_setField ho hd (by simp) ?_)))
  show wpAny _ _ (newExc (.type "StopIteration") [] >>= _) _ _ _
  refine wpAny_bind ?_
  simp only [newExc, newTuple]
  refine wpAny_bind (wpAny_newObj_type ?_ (by size_fits))
  refine wpAny_bind (m := firstArgMember _ _) (wpAny_of_eq (a := Value.none) (by first | rfl | (simp only [firstArgMember]; rfl)) ?_)
  refine wpAny_newObj_type ?_ (by size_fits)
  have g1 : (s.heap.update it (Obj.mapFields (·.setIfInBounds 0 Value.none))).get? x1 = some o1 := (Heap.get?_update_other _ _ (Ne.symm ne)).trans h1
  refine raiseNew_hot (x1 := x1) ⟨hh, o1, vs1, Heap.get?_push_of_some _ (Heap.get?_push_of_some _ g1), d1, c1⟩ (Nat.ne_of_lt (Heap.lt_size (Heap.get?_push_of_some _ g1))) (Heap.get?_push_size _ rfl) rfl (by first | (simp; done) | (simp; omega) | (simp only [Array.size_append]; simp; omega)) ?_
  refine wpAny_bind (wpAny_isInstance (T := "StopIteration") (b := true) ⟨_, Heap.get?_update_self _ (Heap.get?_push_size _ rfl) rfl, rfl⟩ isSubtype_stop ?_)
  refine wpAny_pure (hQ _ fun b u nb e => ?_)
  have g2 : (s.heap.update it (Obj.mapFields (·.setIfInBounds 0 Value.none))).get? b = some u := (Heap.get?_update_other _ _ (Ne.symm nb)).trans e
  rw [Heap.get?_update_other _ _ (Nat.ne_of_gt (Heap.lt_size (Heap.get?_push_of_some _ g2)))]
  exact Heap.get?_push_of_some _ (Heap.get?_push_of_some _ g2)
/-- a list walked -/
theorem walks_hot {I ax x1 : Addr} (hne : ax ≠ I) (hx : x1 ≠ I) (items : Array Value) :
    Walks prog w A I [I, ax, x1] [I] items.size (fun i v => items[i]? = some v) (fun i h => h.IsListIter I ax i ∧ h.IsList ax items ∧ HotAt A x1 h) where
  sub := fun b hb => by simp at hb; simp [hb]
  frame := fun _ h h' st hk => ⟨st.1.at fun o e => hk I (by simp) o e, st.2.1.at fun o e => hk ax (by simp) o e, let ⟨a, o, vs, b, c, d⟩ := st.2.2; ⟨a, o, vs, hk x1 (by simp) o b, c, d⟩⟩
  item := fun i s Q E hi st hQ => by
    refine wpAny_pyNext_list_item st.1 st.2.1 (x := items[i]) (by simp [hi]) fun h' hit' hs' => ?_
    obtain ⟨a, o, vs, b, c, d⟩ := st.2.2
    exact hQ _ h' s.toks (by simp [hi]) ⟨hit', st.2.1.extBut hs'.extBut hne, a, o, vs, hs'.extBut x1 o hx b, c, d⟩ fun b o hb e => hs'.extBut b o (fun h => hb (by simp [h])) e
  done := fun s Q E st hQ => end_hot st.2.2 hx st.1 st.2.1 (by simp) fun h' he' => hQ h' s.toks fun b o hb e => he' b o (fun h => hb (by simp [h])) e
  self := fun _ _ _ _ st hQ => wpAny_pyIter_listiter st.1 hQ
/-- sum of a list of ints -/
theorem sum_hot {l x1 : Addr} {its : List Value} {ns : List Int} {Q : Value → Shared → Prop} (hot : HotAt A x1 s.heap) (hl : s.heap.IsList l its.toArray) (hi : IntsAre its ns)
    (h : ∀ h' tk t', (∀ b o, s.heap.get? b = some o → h'.get? b = some o) → Q (.int ns.sum t') { s with heap := h', toks := tk }) : wpAny (model prog w) A (call (.builtin "sum") [.ref l]) Q E s := by
  obtain ⟨xs, e⟩ := hi.allInts.items
  have hn : numsOf (intItems xs).toList = ns := by rw [← e]; exact hi.numsOf
  rw [nums_intItems] at hn
  rw [e] at hl
  obtain ⟨hh, o1, vs1, h1, d1, c1⟩ := hot
  have lt1 : x1 < s.heap.objs.size := Heap.lt_size h1
  refine call_sum_walkG (iter_intList hl fun s2 e2 st hfp hlI => ?_)
  subst e2
  refine ⟨_, _, _, _, _, _, numAt xs, rfl, walks_hot (A := A.in1) (x1 := x1) hlI (Nat.ne_of_lt lt1) (intItems xs), ⟨st.1, st.2, hh, o1, vs1, Heap.get?_push_of_some _ h1, d1, c1⟩, fun b hb => ?_, (fun _ _ => intItems_at), fun h' tk t' hk => ?_⟩
  · rcases List.mem_cons.mp hb with z | z
    · exact hfp b (by rw [z]; exact List.mem_cons_self)
    · rcases List.mem_cons.mp z with z | z
      · exact hfp b (by rw [z]; exact List.mem_cons_of_mem _ List.mem_cons_self)
      · have z : b = x1 := by simpa using z
        rw [z]
        show x1 < (s.heap.push _).objs.size
        rw [Heap.size_push]
        exact Nat.lt_succ_of_lt lt1
  · have q := h h' tk t' (old_kept hk)
    have e3 : (intItems xs).size = xs.size := by simp [intItems]
    rw [e3, preSum_eq, List.take_of_length_le (by simp), hn]
    exact q
end
section
variable {X : Cx} {T : TF}
theorem cr_sumH (hc : HotC X) : CallR X (.builtin "sum") (rSum X.K) := by
  intro pins s σ H vs us Q I r h
  obtain ⟨a, ns, rfl, hq, q⟩ := h
  have eu := r.ref1
  subst eu
  obtain ⟨its, rv, pl, hz⟩ := I.list hq
  obtain ⟨x1, hot⟩ := hc.at I
  refine sum_hot hot pl.isList rv.ints fun h' tk t' hk => ?_
  exact ⟨.int ns.sum, H, I.kept (t' := tk) hk, ⟨t', rfl⟩, q⟩
/-- a new object is tracked, wherever it was laid -/
theorem inv_new {pins : List (Addr × Obj)} {σ : L2.St} {H : Hp} {s : Shared} {h' : Heap} {D : Addr} {o : HO} {t' : Nat} (I : Inv X pins σ H s) (k : ∀ b u, s.heap.get? b = some u → h'.get? b = some u) (hD : s.heap.get? D = none) (hH : H D = none)
    (new : ObjOk X.prog X.w (upd H D o) h' D o) : Inv X pins σ (upd H D o) { s with heap := h', toks := t' } := by
  have nD : ∀ b u, s.heap.get? b = some u → b ≠ D := fun b u e z => by rw [z, hD] at e; cases e
  refine I.un ⟨fun b u q _ _ _ => k b u q, fun b u q _ _ _ => ⟨u.slots, k b u q⟩, fun b u q n _ => by rw [upd_ne (nD b u q)]; exact n, fun b u q _ => ⟨u, k b u q⟩, fun b xs q => upd_keeps hH _ _ q, fun b ob u q => upd_keeps hH _ _ q, fun b ps q => ⟨#[], by rw [upd_keeps hH _ _ q]; simp⟩⟩ fun b u e => ?_
  by_cases hb : b = D
  · subst hb
    rw [upd_same] at e
    cases e
    exact new
  · rw [upd_ne hb] at e
    exact (I.hok b u e).stay (fun c v _ q => k c v q) (fun c q => upd_keeps hH _ _ q) fun c xs q => upd_keeps hH _ _ q
theorem ints_vals : ∀ {bs : List Bool} {zs : List Value}, Paired (fun v y => ∃ b t, v = Value.bool b ∧ y = Value.int (if b then 1 else 0) t) (bs.map Value.bool) zs → Vals (bs.map fun b => V.int (if b then 1 else 0)) zs
  | [], _, h => by cases h; exact .nil
  | b :: bs, _, h => by
    cases h with
    | cons a r =>
      obtain ⟨b', t, e1, e2⟩ := a
      cases e1
      exact .cons ⟨t, e2⟩ (ints_vals r)
/-- [int(x) for x in y], y a list of truths -/
def tInts (K : PySem.W.Frag) (ti : TE) : TE := fun σ H Q => ti σ H fun v H1 => ∃ (a : Addr) (bs : List Bool), v = .ref a ∧ SqL K H1 a (bs.map V.bl) ∧ ∀ p, H1 p = none → Q (.ref p) (upd H1 p (.lst (bs.map fun b => V.int (if b then 1 else 0))))
theorem pe_intsH {x : Str} {px p1 p2 p3 pos : Pos} {iter : Expr} {ti : TE} {scope : Scope} (hc : HotC X) (hi : PE X iter ti) (hmi : X.mg "int" = none)
    (hk : scope.kind = .function) (hn : ∀ y ∈ scope.names, y.2 ≠ .cell ∧ y.2 ≠ .free) (hx : scope.names.lookup x = some .local) (hg : scope.names.lookup ("int" : Str) = some .globalImplicit) (hnm : ∀ y ∈ scope.names, y.2 = .local → scope.names.lookup y.1 = some .local)
    (hd : (x == ("__debug__" : Str)) = false) (hs : ∀ z, foldedSetIterable iter X.env z = pure z := by intro _; rfl) :
    PE X (.ListComp (.Call (.Name "int" p1) [.Name x p2] [] p3) [⟨.Name x px, iter, [], 0⟩] scope pos) (tInts X.K ti) := by
  refine ⟨fun pins s σ H Q I h => ?_⟩
  have hcl : closureFor scope X.env = pure [] := by
    have z := closure_ok (scope := scope) (env := X.env) fun y hy e => absurd e (hn y hy).2
    rw [z]
    congr 1
    cases q : cloFrom X.env.cells scope.names [] with
    | nil => rfl
    | cons p r =>
      have hm : (p.1, p.2) ∈ cloFrom X.env.cells scope.names [] := by rw [q]; exact List.mem_cons_self
      rcases cloFrom_mem hm with z | z
      · cases z
      · exact absurd rfl (hn _ z.1).2
  refine wpAny_ListComp_free (fun _ => true) (fun v y => ∃ b t, v = Value.bool b ∧ y = Value.int (if b then 1 else 0) t) hcl (fun y hy => (hn y hy).1) hk hnm hx (thn (hi.run pins s σ H _ I h) fun v s1 hh => ?_) hs
  obtain ⟨x0, H1, I1, r1, a, bs, rfl, hq, q⟩ := hh
  cases r1
  obtain ⟨its, rv, pl, hz⟩ := I1.list hq
  obtain ⟨x1, hot⟩ := hc.at I1
  have lt1 : x1 < s1.heap.objs.size := by obtain ⟨_, o, vs, e, _⟩ := hot; exact Heap.lt_size e
  refine wpAny_pyIter_list pl.isList ?_
  have hlt : a < s1.heap.objs.size := pl.lt
  have eb := rv.bls
  refine ⟨_, _, _, _, _, _, rfl, walks_hot (x1 := x1) (Nat.ne_of_lt hlt) (Nat.ne_of_lt lt1) its.toArray, ?_, ⟨⟨_, Heap.get?_push_size _ rfl, rfl, rfl⟩, pl.isList.push _, ?_⟩, fun b hb => ?_, ⟨?_, ?_⟩, ?_⟩
  · rw [List.size_toArray, ← rv.length]
    exact hz
  · obtain ⟨hh, o, vs, e, d, c⟩ := hot
    exact ⟨hh, o, vs, Heap.get?_push_of_some _ e, d, c⟩
  · show b < (s1.heap.push _).objs.size
    rw [Heap.size_push]
    have hb : b = s1.heap.objs.size ∨ b = a ∨ b = x1 := by simpa using hb
    rcases hb with z | z | z
    · rw [z]; exact Nat.lt_succ_self _
    · rw [z]; exact Nat.lt_succ_of_lt hlt
    · rw [z]; exact Nat.lt_succ_of_lt lt1
  · intro C i v s3 m3 E' _ hP hn3 hm3 hk3 ht
    exact wpAny_tests_nil ⟨rfl, ⟨s3.heap, s3.toks, rfl, fun _ _ e => e⟩⟩
  · intro C i v s3 m3 E' hC hP _ hn3 hm3 hk3 ht
    have hv : ∃ b, v = Value.bool b := by
      have z : its[i]? = some v := by simpa using hP
      rw [eb, List.getElem?_map] at z
      obtain ⟨b, _, e⟩ := Option.map_eq_some_iff.mp z
      exact ⟨b, e.symm⟩
    obtain ⟨b, rfl⟩ := hv
    have base3 : ∀ c o, X.base.get? c = some o → s3.heap.get? c = some o := fun c o e => by
      refine hk3 c o ?_ (Heap.get?_push_of_some _ (I1.bk c o e))
      have z := Heap.lt_size (I1.bk c o e)
      intro y
      have y : c = s1.heap.objs.size := by simpa using y
      rw [y] at z
      exact absurd z (Nat.lt_irrefl _)
    obtain ⟨mb, b1, b2⟩ := I1.mod.blt
    have kI : (compEnvC scope [] C X.env).kindOf "int" = some .globalImplicit := lookup_relS_keep (sc := X.env.scope) (by decide) hg
    have kX : (compEnvC scope [] C X.env).kindOf x = some .local := lookup_relabel_local hx
    refine Call_ (Calls.Name_function_global (show (compEnvC scope [] C X.env).scope.kind = .function from hk) kI (Calls.loadGlobal_builtin (v := Value.type "int") (by show s3.heap.Ns X.env.globals X.mg; rw [I1.ok.glob]; exact I1.mod.glob.keeps base3) hmi (by show s3.heap.Ns X.env.builtins mb; rw [I1.ok.blt]; exact b1.keeps base3) ((b2 "int" (by decide)).trans PyProof.Rows.boot_int) ?_) (by decide))
    refine PyProof.Rows.callWith_type1 ?_ (by rfl) (by rfl)
    refine Calls.spliced_cons (wpAny_Name (wpAny_loadName_local (show (compEnvC scope [] C X.env).scope.kind = .function from hk) kX hn3 hm3 (Calls.spliced_nil ?_)) hd)
    refine call_int_bool ?_
    exact ⟨⟨b, _, rfl, rfl⟩, ⟨s3.heap, _, rfl, fun _ _ e => e⟩⟩
  · intro D h' tk ys vs hD hl hpl hlen hP hF hkp
    have e1 : vs = its := by
      apply List.ext_getElem?
      intro j
      by_cases hj : j < vs.length
      · have z := hP j vs[j] (List.getElem?_eq_getElem hj)
        rw [List.getElem?_eq_getElem hj]
        exact (show its[j]? = some vs[j] by simpa using z).symm
      · rw [List.getElem?_eq_none (by omega), List.getElem?_eq_none]
        rw [hlen, List.size_toArray] at hj
        omega
    subst e1
    rw [List.filter_eq_self.mpr (fun _ _ => rfl)] at hF
    rw [eb] at hF
    have vv := ints_vals hF
    have hD1 : s1.heap.get? D = none := by
      cases z : s1.heap.get? D with
      | none => rfl
      | some u =>
        have y := Heap.get?_push_of_some { cls := .type "list_iterator", data := .fields #[.ref a, .int 0 0] } z
        rw [hD] at y
        cases y
    have hHD := I1.hok.gone hD1
    have kk : ∀ b o, s1.heap.get? b = some o → h'.get? b = some o := fun b o e => hkp b o (fun z => by
      have z : b = s1.heap.objs.size := by simpa using z
      have y := Heap.lt_size e
      rw [z] at y
      exact absurd y (Nat.lt_irrefl _)) (Heap.get?_push_of_some _ e)
    obtain ⟨n, hpl⟩ := hpl
    have new : ObjOk X.prog X.w (upd H1 D (.lst (bs.map fun b => V.int (if b then 1 else 0)))) h' D (.lst (bs.map fun b => V.int (if b then 1 else 0))) :=
      ⟨by rw [List.length_map] at hz ⊢; exact hz, ys.toList, n, vv, by simpa using hpl⟩
    exact ⟨.ref D, _, inv_new (s := s1) (t' := tk) I1 kk hD1 hHD new, rfl, q D hHD⟩
end
end DL

set_option Elab.async false
set_option linter.all false
set_option maxRecDepth 100000
set_option autoImplicit false
set_option maxHeartbeats 1000000
/-! A lambda handed to the law's own helper that calls it and tells the class of what is raised. -/
namespace DL
open PySem PySem.Spec PyProof.Rows L2 HotX L2H

/-! ### isinstance of the error that is handled -/
section
variable {X : Cx}
theorem call_isX {a D : Addr} {oe : Obj} (hp : (a, oe) ∈ X.pn) (C : ExcC X.K D) (hz : Zc (.ref D) none oe) (hf : ∃ vs, oe.data = .fields vs) : CallR X (.builtin "isinstance") (rIsE X.K D a) := by
  intro pins s σ H xs us Q I r h
  obtain ⟨c, cv, b, rfl, hcv, e, q⟩ := h
  obtain ⟨u1, u2, rfl, r1, r2⟩ := vals2 r
  cases r1
  have ec := hcv _ r2
  subst ec
  obtain ⟨hget, _⟩ := I.pin (a, oe) (List.mem_append_left _ hp)
  obtain ⟨vs, hv⟩ := hf
  have J : PySem.W.InstAt s.heap a oe D none := by
    obtain ⟨oc, od, oda, osl⟩ := oe
    obtain ⟨h1, h2⟩ := hz
    dsimp only at h1 h2 hv
    subst h1 h2 hv
    exact ⟨hget, rfl, rfl, trivial⟩
  exact PySem.W.kia_one (PySem.W.handS_kitx_exc C.hg C.hk C.hs C.hd C.ha C.hn C.ht C.hm) I.kIn J e (fun z => nomatch z) fun tk => ⟨.bl b, H, I.kept (t' := tk) fun _ _ z => z, rfl, q⟩
end

/-! ### a def of one parameter called in the suite, with the error -/
abbrev cxW (P : Program) (w : World) (K : PySem.W.Frag) (mg : Str → Option Value) (base : Heap) (N : List Str) (qual : Str) (scope : Scope) (f : Addr) (cd : Value) (A : Around) (outer : List Env) (s : Shared) (H : Hp) (p : Addr × Obj) : Cx :=
  (cxH L2.CX0 P w K mg base N qual scope f cd A outer s H E0 p).nox
/-- such a def, as it stands; R: from the error (at a, its class cls), the heap, what is wanted -/
structure HotFn (P : Program) (w : World) (K : PySem.W.Frag) (mg : Str → Option Value) (base : Heap) (x : Str) (k : Nat) (R : Value → Option Addr → Hp → VK → Prop) : Prop where
  ex : ∃ (f : Addr) (par : Arguments) (body : List Stmt) (sc : Scope) (N : List Str) (a : Str) (oc : Value) (od : Option Addr) (dV kV doc pm : Value) (an : Option Addr) (cdv ct : Value) (osl : Array (Option Value)),
    mg x = some (.ref f) ∧ PySem.W.keepIn K (.ref f) = true ∧ K.lookup f = some ⟨oc, od, .func (PySem.W.fnOf x x par body sc dV kV doc pm an cdv ct), osl⟩ ∧ PySem.W.codeIn K cdv x = true ∧ FnScope N [a] sc ∧ Binds K (PySem.W.fnOf x x par body sc dV kV doc pm an cdv ct) [a] [] ∧
    ∀ (A : Around) (outer : List Env) (s : Shared) (H : Hp) (Q : VK) (p : Addr × Obj) (cls : Value) (d : Option Addr), Hot1 A p → RoomH k (A.deeper (envOfC x sc s.heap.objs.size f cdv)) → L2N.Zn cls d p.2 → (∃ vs, p.2.data = .fields vs) → R cls d H Q →
      ∃ t, PSs (cxW P w K mg base N x sc f cdv A outer s H p) body t ∧ t { nx := fun _ H' => Q .non H', rt := Q } (L2.start N [.ref p.1]) H
theorem pe_hot {X : Cx} {a : Addr} {oe : Obj} {pn : List (Addr × Obj)} {cls : Value} {d : Option Addr} {x : Str} {k : Nat} {R : Value → Option Addr → Hp → VK → Prop} {e : Expr} {te : TE} {q pos : Pos} (F : HotFn X.prog X.w X.K X.mg X.base x k R)
    (hr : RoomH (k + 1) X.A) (hz : L2N.Zn cls d oe) (hf : ∃ vs, oe.data = .fields vs) (he : PE (X.suite a ((a, oe) :: pn)) e te) (hg : Gl X x)
    (hdb : (x == ("__debug__" : Str)) = false) (hs : starEach [e] X.env = (false, eval e X.env) :: starEach [] X.env := by rfl) :
    PE (X.suite a ((a, oe) :: pn)) (.Call (.Name x q) [e] [] pos) (fun σ H Q => tCons te tNil σ H fun vs H1 => vs = [.ref a] ∧ R cls d H1 Q) := by
  obtain ⟨f, par, body, sc, N, pa, oc, od, dV, kV, doc, pm, an, cdv, ct, osl, hm, hk, lk, hcd, S, hb, hbody⟩ := F.ex
  refine ⟨fun pins s σ H Q I h => ?_⟩
  refine wpAny_Call_Name_kw (ld_glob (X := X.suite a ((a, oe) :: pn)) I hg hm ?_ hdb)
  have hA : PA (X.suite a ((a, oe) :: pn)) [e] (tCons te tNil) := pa_cons he pa_nil hs
  refine PySem.W.callWith_K (h₀ := X.base) I.ok.mod.kin hk (thn (hA.run pos pins s σ H _ I h) fun us s1 hh => ?_) hs (by rfl)
  obtain ⟨vs, H1, I1, r, rfl, q⟩ := hh
  refine ⟨I1.kIn, ?_⟩
  have hot : Hot1 (X.suite a ((a, oe) :: pn)).A (a, oe) := by
    obtain ⟨vs, hv⟩ := hf
    exact ⟨rfl, vs, hv, hz.2.2 vs hv⟩
  have hrs : RoomH (k + 1) (X.suite a ((a, oe) :: pn)).A := ⟨hr.dp, hr.un⟩
  have P1 := I1.pin (a, oe) (List.mem_append_left _ List.mem_cons_self)
  have hpin : PinOk (X.suite a ((a, oe) :: pn)).stack H1 s1 (a, oe) := ⟨P1.1, P1.2.1, fun hm => (List.mem_cons.mp (I1.stkSub a hm)).elim P1.2.2.1 P1.2.2.2.1, P1.2.2.2.2⟩
  have e0 := I1.env0
  have KX : X.K.In s1.heap := I1.kIn
  have lim : s1.heap.NoLimit := I1.nolimit
  have hl : us.length = 1 := by rw [← r.length]; rfl
  have bt := hb s1 us KX (by rw [List.append_nil]; exact hl)
  rw [List.append_nil] at bt
  have hkind : ∀ y ∈ [pa].zip us, sc.names.lookup y.1 = some .local ∨ (sc.names.lookup y.1 = some .cell ∧ ((cellsFrom (s1.heap.objs.size + 1) sc.names []).lookup y.1).isSome = true) := fun y hy => by
    obtain ⟨n, v⟩ := y
    rcases S.par n (List.of_mem_zip hy).1 with z | z
    · exact .inl z
    · exact .inr ⟨z, PySem.W.cellsFrom_some _ _ _ (.inl z)⟩
  have rc : codeAny (model X.prog X.w) (X.suite a ((a, oe) :: pn)).A (.call (.ref f) ⟨us, []⟩) (CR L2.CX0 X.stack X.prog X.w H1 s1 Q E0) s1 := by
    refine codeAny_call_function hrs.depth (KX _ _ lk) rfl S.co S.gen rfl (PySem.W.codeRec_of KX hcd) (bt _ _ _ _ ?_)
    refine wpAny_newFunctionEnv_cells S.kind hkind fun env hen s2 x => ?_
    subst hen
    refine ⟨lim.keeps x.toInCall.keep, codeAny_func ?_⟩
    obtain ⟨t, ht, hq⟩ := hbody _ X.stack s1 H1 Q (a, oe) cls d hot (hrs.deeper _) hz hf q
    have J := inv_startH (CX := L2.CX0) (E := E0) S hpin e0 rfl r x
    refine wpAny_mono (ht.nox.run [] s2 _ H1 _ J hq) (fun fl s' hs => ?_) fun e s' hs => hs
    cases fl with
    | ret u =>
      obtain ⟨v, σ', H', J', rv, q'⟩ := hs
      exact ⟨v, H', J'.os, J'.bare, J'.base, J'.hok, rv, q'⟩
    | next =>
      obtain ⟨σ', H', J', q'⟩ := hs
      exact ⟨V.non, H', J'.os, J'.bare, J'.base, J'.hok, rfl, q'⟩
    | brk => obtain ⟨_, _, _, q'⟩ := hs; exact q'.elim
    | cont => obtain ⟨_, _, _, q'⟩ := hs; exact q'.elim
  refine wpAny_call (codeAny_mono rc fun rr s' hq => ?_)
  cases rr with
  | error e => exact (show False from hq).elim
  | ok fl =>
    cases fl with
    | ret u => exact I1.after hq
    | next => exact (show False from hq).elim
    | brk => exact (show False from hq).elim
    | cont => exact (show False from hq).elim
end DL

set_option Elab.async false
set_option linter.all false
set_option maxRecDepth 100000
set_option autoImplicit false
set_option maxHeartbeats 1000000
/-! Raising an error of the program. -/
namespace DL
open PySem PySem.Spec PyProof.Rows L2 HotX L2H
/-- an error class of the program, as it stands -/
structure ErOk (K : PySem.W.Frag) (mg : Str → Option Value) (c : Nat) : Prop where
  ex : ∃ C, mg (cnm c) = some (.ref C) ∧ PySem.W.excIn K C He.veBase "ValueError.__new__" = true ∧ PySem.W.keepIn K (.ref C) = true ∧ PySem.W.subIn K (.ref C) (.type "BaseException") = some true ∧ PySem.W.typeIn K (.ref C) = some (.type "type")
def raiseS (c : Nat) : MS := fun _ h => .err c h
theorem ds_raise {X : Cx} {T : TF} {E : XK} (c : Nat) {x m : Str} {j : Nat} {p p2 pos pos2 : Pos} (C : ErOk X.K X.mg c) (hc : X.calm = true) (tk : Tk X E) (hx : x = cnm c := by rfl) (hg : Gl X x := by rfl) (hdb : (x == ("__debug__" : Str)) = false := by decide) :
    DS X T E (.Raise (some (.Call (.Name x p) [.Constant (.str m) j p2] [] pos)) none pos2) (raiseS c) := by
  obtain ⟨C, h1, h2, h3, h4, h5⟩ := C.ex
  subst hx
  refine PS.imp (L2N.ps_raise hc tk (L2N.pmk_own PySem.F.excBase_ValueError h2 h1 h3 (raises_own h4 h5) hg hdb)) fun D σ H ⟨m, h, en, rel, p⟩ => ?_
  exact p m H C (Ex.refl _ _ _) rel.rh h1
end DL

set_option Elab.async false
set_option linter.all false
set_option maxRecDepth 100000
set_option autoImplicit false
set_option maxHeartbeats 1000000
/-! A lambda handed to the helper that calls it and tells the class of what is raised. -/
namespace DL
open PySem PySem.Spec PyProof.Rows L2 HotX L2H
theorem de_wd {X : Cx} {T : TF} {E : XK} (n : Nat) {x : Str} {j : Nat} {pos : Pos} (hx : x = wds n := by decide +kernel) (hn : n < nW := by decide) : DE X T E (.Constant (.str x) j pos) (cE (.wd n)) :=
  PE.imp pe_str fun _ _ _ ⟨_, _, _, r, p⟩ => Post.val p r.rh (.wd hn hx)
/-! ### the tables have grown -/
theorem Ex.extN {m : Mp} {n : Nat} {H H' : Hp} (e : LamX.ExtN H H') : Ex m n H m n H' :=
  ⟨Nat.le_refl _, ⟨fun _ z => z, fun _ z => .inl z⟩, fun _ _ => rfl, fun i h1 h2 => absurd (Nat.lt_of_lt_of_le h2 h1) (Nat.lt_irrefl _), fun a o h _ k => e a o h k, fun a o h k => ⟨o, e a o h k, k⟩, fun _ _ z => z⟩
theorem RH.extN {g : G} {m : Mp} {h : IH} {H H' : Hp} (r : RH g m h H) (e : LamX.ExtN H H') (t : LamX.Tabs g.T.tb H') : RH g m h H' where
  obj := fun i u hi => by
    have q := r.obj i u hi
    obtain ⟨z, e1, k⟩ := q.is
    exact q.mono (Ex.extN e) (by rw [e _ _ e1 k, e1])
  inj := r.inj
  tab := t
  frm := fun p hp => (r.frm p hp).mono (Ex.extN e)
  prt := fun a z => by
    obtain ⟨u, e1, k⟩ := r.prt a z
    exact ⟨u, e _ _ e1 k, k⟩
  npr := r.npr
  fz1 := r.fz1
  fz2 := fun a u z => by
    obtain ⟨v, e1, k⟩ := r.fz2 a u z
    exact ⟨v, e _ _ e1 k, k⟩
  fz3 := r.fz3
/-! ### the lambda's body -/
abbrev lamN (X : Cx) (A : Around) (outer : List Env) (s : Shared) (H : Hp) (E : XK) (sc : Scope) (f c' : Addr) : Cx :=
  (LamX.lamCx X A outer s H E sc f c').wish fun e s' => wpAny (model X.prog X.w) (A.deeper (LamX.lamEnv X sc s.heap.objs.size f c')) (leaving (LamX.lamEnv X sc s.heap.objs.size f c') e) (fun _ s2 => L2N.CX X.prog X.w outer H s E e s2) (fun e' s2 => L2N.CX X.prog X.w outer H s E e' s2) s'
theorem lamN_tk {X : Cx} {A : Around} {outer : List Env} {s : Shared} {H : Hp} {E : XK} {sc : Scope} {f c' : Addr} : Tk (lamN X A outer s H E sc f c') E := L2N.takes_of rfl rfl rfl rfl
/-- what the helper needs of the word's telling -/
def RW (K : PySem.W.Frag) (mg : Str → Option Value) (nE : Nat) (CS : Addr) : Value → Option Addr → Hp → VK → Prop := fun cls d H Q => d = none ∧ ∃ c, c < nE ∧ mg (cnm (11 + c)) = some cls ∧ PySem.W.exmOne K cls (.ref CS) = some true ∧ ∀ H', (∀ b o, H b = some o → H' b = some o) → Q (.str (wds c)) H'
section
variable {X : Cx} {pins : List (Addr × Obj)} {σ : L2.St} {H : Hp} {s : Shared}
/-- the deed is called, in the helper -/
theorem pe_deed {Eg : XK} {Ng : List Str} {qg : Str} {sg : Scope} {g f c' : Addr} {cdg pm ctv : Value} {par : Arguments} {body : Expr} {sc : Scope} {k : Nat} {a : Str} {pn : List (Addr × Obj)} {xe : Value → Shared → Prop} {W : WX} {t : XK → TE} {p1 p2 : Pos}
    (I : Inv X pins σ H s) (L : LamX.LamS X.env.scope sc) (hf : s.heap.get? f = some (PySem.W.kla_obj "<lambda>" (X.env.qual ++ "<lambda>") par body sc (cloFrom X.env.cells sc.names []) pm c' ctv)) (nf : H f = none) (ns : f ∉ frs X.stack)
    (hbi : bindArgs (PySem.W.kla_fn "<lambda>" (X.env.qual ++ "<lambda>") par body sc (cloFrom X.env.cells sc.names []) pm (.ref c') ctv) ⟨[], []⟩ = pure [])
    (tk : L2N.Takes ((cxOf L2.CX0 X.prog X.w X.K X.mg X.base Ng qg sg g cdg X.A X.stack s H Eg).tr pn xe) W) (hr : Room (k + 1) (X.A.deeper (envOfC qg sg s.heap.objs.size g cdg)))
    (hbody : ∀ (A : Around) (outer : List Env) (s : Shared) (H : Hp) (E : XK), Room k (A.deeper (LamX.lamEnv X sc s.heap.objs.size f c')) → PE (lamN X A outer s H E sc f c') body (t E))
    (hN : Ng[0]? = some a) (hv : Vis sg a) (d1 : (a == ("__debug__" : Str)) = false) (d2 : (a == ("__classdict__" : Str)) = false) :
    PE ((cxOf L2.CX0 X.prog X.w X.K X.mg X.base Ng qg sg g cdg X.A X.stack s H Eg).tr pn xe) (.Call (.Name a p1) [] [] p2)
      (fun τ HZ Q => τ[0]? = some (some (.ref f)) ∧ HZ c' = some (LamX.CodeO c' (X.env.qual ++ "<lambda>")) ∧ ∃ E : XK, (∀ cls d H', E cls d H' → W cls d τ H') ∧ t E σ HZ Q) := by
  refine ⟨fun pinsZ sZ τ HZ Q J h => ?_⟩
  obtain ⟨h1, h2, E, hW, h3⟩ := h
  refine wpAny_Call_Name_kw (thn ((pe_var (pos := p1) (i := 0) hN hv d1 d2).run pinsZ sZ τ HZ (fun v H1 => v = .ref f ∧ H1 = HZ) J ⟨.ref f, h1, rfl, rfl⟩) fun u s1 z => ?_)
  obtain ⟨v, H1, J1, r1, ev, eH⟩ := z
  subst ev eH
  have eu : u = Value.ref f := r1
  subst eu
  have of1 : s1.heap.get? f = some (PySem.W.kla_obj "<lambda>" (X.env.qual ++ "<lambda>") par body sc (cloFrom X.env.cells sc.names []) pm c' ctv) :=
    J1.base.keep f _ hf nf ns (fun z => nomatch (show f ∈ ([] : List Addr) from z))
  refine PySem.W.callWith_F0 ⟨_, _, _, _, of1⟩ ?_
  have un : Un (frs X.stack) [] H H1 s.heap s1.heap := J1.base
  obtain ⟨⟨oc, vs, tt, q1, q2, q3⟩, _, _⟩ := J1.hok c' _ h2
  have run : codeAny (model X.prog X.w) (X.A.deeper (envOfC qg sg s.heap.objs.size g cdg)) (.call (.ref f) ⟨[], []⟩) (CR (L2N.CX X.prog X.w) (envOfC qg sg s.heap.objs.size g cdg :: X.stack) X.prog X.w H1 s1 Q E) s1 := by
    refine PySem.W.kla_callFunE hr.depth of1 rfl L.co L.gen rfl ⟨c', oc, vs, tt, rfl, q1, q2, q3⟩ ?_
    rw [hbi]
    refine wpAny_pure (wpAny_newFunctionEnv (fun y hy => (L.own y hy).2) (fun y hy => absurd hy (by simp)) (fun h2 n1 n2 => ⟨J1.nolimit.fresh _ n2, ?_⟩) L.kind)
    show codeAny _ _ (.expr body (LamX.lamEnv X sc s1.heap.objs.size f c')) _ _
    have kp : ∀ b o, s1.heap.get? b = some o → h2.get? b = some o := fun b o e => n2.extBut b o (Nat.ne_of_lt (Heap.lt_size e)) (Heap.get?_push_of_some _ e)
    have Z := LamX.lam_start2 (E := E) (f := f) (c' := c') (tk := s1.toks + ([] : List (Str × Value)).length) I L J1.env0 hr.hd un n1 kp
    refine PySem.W.kla_codeExpr (wpAny_mono ((hbody _ _ s1 H1 E (hr.deeper _)).run [] _ _ H1 Q (Z.wish _) h3) (fun v s' hq => ?_) fun e s' hq => hq)
    obtain ⟨w', H', J', rv, q⟩ := hq
    exact ⟨w', H', J'.os, J'.bare, J'.base, J'.hok, rv, q⟩
  refine wpAny_call (codeAny_mono run fun r s' hq => ?_)
  cases r with
  | error e => exact tk e s' (L2N.XE.of_call J1 hW hq)
  | ok fl =>
    cases fl with
    | ret u => exact J1.after hq
    | next => exact (show False from hq).elim
    | brk => exact (show False from hq).elim
    | cont => exact (show False from hq).elim
end
/-- the helper as it stands: try: return deed() / except x as e: return word(e) -/
structure ToldOk (P : Program) (w : World) (K : PySem.W.Frag) (mg : Str → Option Value) (base : Heap) (nE : Nat) : Prop where
  ex : ∃ (g CS : Addr) (pg : Arguments) (bg : List Stmt) (sg : Scope) (oc : Value) (od : Option Addr) (dV kV doc pm : Value) (an : Option Addr) (cdv ct : Value) (osl : Array (Option Value)) (p1 p2 p3 p4 p5 p6 p7 p8 p9 p10 : Pos),
    mg "_law_told" = some (.ref g) ∧ PySem.W.keepIn K (.ref g) = true ∧ K.lookup g = some ⟨oc, od, .func (PySem.W.fnOf "_law_told" "_law_told" pg bg sg dV kV doc pm an cdv ct), osl⟩ ∧ PySem.W.codeIn K cdv "_law_told" = true ∧
    Binds K (PySem.W.fnOf "_law_told" "_law_told" pg bg sg dV kV doc pm an cdv ct) ["deed"] [] ∧ FnScope ["deed", "e"] ["deed"] sg ∧ sg.names.lookup ("BoardError" : Str) = some .globalImplicit ∧ sg.names.lookup ("_law_word" : Str) = some .globalImplicit ∧ sg.names.lookup ("e" : Str) = some .local ∧ Vis sg "deed" ∧ mg "BoardError" = some (.ref CS) ∧
    bg = [.Try [.Return (some (.Call (.Name "deed" p1) [] [] p2)) p3] [.ExceptHandler (some (.Name "BoardError" p4)) (some "e") [.Return (some (.Call (.Name "_law_word" p5) [.Name "e" p6] [] p7)) p8] p9] [] [] p10] ∧
    (∀ c, c < nE → ∃ C, mg (cnm (11 + c)) = some (.ref C) ∧ PySem.W.exmOne K (.ref C) (.ref CS) = some true) ∧ HotFn P w K mg base "_law_word" 0 (RW K mg nE CS)
theorem takesN0 {X : Cx} : L2N.Takes X (fun _ _ _ _ => False) := fun _ _ ⟨_, _, _, _, _, _, _, _, _, _, _, _, _, _, _, _, z⟩ => z.elim
def toldE (nE : Nat) (f : ME) : ME := fun en h => match f en h with
  | .ok d h' => .ok d h'
  | .err c h' => if 11 ≤ c ∧ c < 11 + nE then .ok (.wd (c - 11)) h' else .bad
  | .bad => .bad
/-- told(lambda: body) -/
theorem de_told {X : Cx} {T : TF} {E : XK} {nE : Nat} {c P : Addr} {k : Nat} {par : Arguments} {body : Expr} {sc : Scope} {fb : ME} {p lpos pos : Pos} (G : ToldOk X.prog X.w X.K X.mg X.base nE) (TB : LamX.TabB X.base X.mg c P) (hcode : X.env.code = .ref c)
    (hmT : (P, X.env.qual ++ "<lambda>") ∈ T.tb) (hu : ∀ p ∈ T.tb, p.1 = P → p.2 = X.env.qual ++ "<lambda>") (hr : Room (k + 3) X.A) (L : LamX.LamS X.env.scope sc)
    (hbody : ∀ (A : Around) (outer : List Env) (s : Shared) (H : Hp) (E : XK) (f c' : Addr), Room (k + 1) (A.deeper (LamX.lamEnv X sc s.heap.objs.size f c')) → DE (lamN X A outer s H E sc f c') T E body fb)
    (hg : Gl X "_law_told" := by rfl) (hnE : nE ≤ 11 := by decide) (hdef : defaultsOf par X.env = ([], []) := by rfl)
    (hbi : ∀ (q : Str) (cl : List (Str × Addr)) (pm cv ctv : Value), bindArgs (PySem.W.kla_fn "<lambda>" q par body sc cl pm cv ctv) ⟨[], []⟩ = pure [] := by intros; rfl) :
    DE X T E (.Call (.Name "_law_told" p) [.Lambda par body sc lpos] [] pos) (toldE nE fb) := by
  obtain ⟨g, CS, pg, bg, sg, oc, od, dV, kV, doc, pm, an, cdv, ct, osl, p1, p2, p3, p4, p5, p6, p7, p8, p9, p10, hm, hk, lk, hcg, hb, Sg, sB, sW, sE, sD, mB, rfl, hcls, HW⟩ := G.ex
  refine ⟨fun pins s σ H Q I hh => ?_⟩
  obtain ⟨m, h, en, rel, post⟩ := hh
  refine wpAny_Call_Name_kw (ld_glob I hg hm ?_ (by decide))
  refine PySem.W.callWith_K (h₀ := X.base) I.ok.mod.kin hk ?_ (by rfl) (by rfl)
  show wpAny _ _ (spliced ((false, eval (.Lambda par body sc lpos) X.env) :: backTo pos (starEach [] X.env))) _ _ s
  refine Calls.spliced_cons (LamX.lam_make2 I TB hcode hmT hu rel.rh.tab hdef (L.has I.ok) fun f c' pm' ctv H1 s' I1 eN T1 hf nf ns hco => ?_)
  refine Calls.spliced_nil ⟨I1.kIn, ?_⟩
  have rh1 := rel.rh.extN eN T1
  have rel1 : Rel (gX X T) m h σ en H1 := rel.next (Ex.extN eN) rh1
  have run : codeAny (model X.prog X.w) X.A (.call (.ref g) ⟨[.ref f], []⟩) (CR L2.CX0 X.stack X.prog X.w H1 s' Q E0) s' := by
    refine LamX.run_ofS (N := ["deed", "e"]) (ps := ["deed"]) (us := [.ref f]) (vs := [.ref f]) lk hcg Sg hr I1.env0 (hb s' [.ref f] I1.kIn rfl) (.cons rfl .nil) rfl fun hr' => ?_
    have gB : Gl (cxOf L2.CX0 X.prog X.w X.K X.mg X.base ["deed", "e"] "_law_told" sg g cdv X.A X.stack s' H1 E0).nox "BoardError" := sB
    refine ⟨_, PSs.nox (pss_one (L2N.ps_try_as (X := (cxOf L2.CX0 X.prog X.w X.K X.mg X.base ["deed", "e"] "_law_told" sg g cdv X.A X.stack s' H1 E0).nox) (i := 1) (c := .ref CS) (Wout := fun _ _ _ _ => False)
      (tb := fun W D τ HZ => τ[0]? = some (some (.ref f)) ∧ HZ c' = some (LamX.CodeO c' (X.env.qual ++ "<lambda>")) ∧ ∃ E : XK, (∀ cls d H', E cls d H' → W cls d τ H') ∧ LE (gX X T) E fb σ HZ D.rt)
      (ts := fun a cls d => tRet fun τ H Q => tCons (tVar 1) tNil τ H fun vs H1 => vs = [.ref a] ∧ RW X.K X.mg nE CS cls d H1 Q)
      rfl rfl Sg.nd rfl sE ⟨gB, by decide, .inl mB⟩ takesN0 (fun W pn xe tk _ => ?_) (fun a oe cls d pn hz hf => ?_))), ?_⟩
    · have hp := pe_deed (t := fun E => LE (gX X T) E fb) (Eg := E0) (cdg := cdv) (p1 := p1) (p2 := p2) (k := k + 1) I1 L hf nf ns (hbi _ _ _ _ _) tk hr' (fun A outer s H E hr2 => hbody A outer s H E f c' hr2) rfl sD (by decide) (by decide)
      have hq := pss_one (ps_ret (pos := p3) hp)
      exact ⟨fun pins s σ H D I h => hq.run pins s σ H D I h⟩
    · have hrw : RoomH (0 + 1) (cxOf L2.CX0 X.prog X.w X.K X.mg X.base ["deed", "e"] "_law_told" sg g cdv X.A X.stack s' H1 E0).nox.A := (roomH_of hr').mono (by omega)
      have gW : Gl (cxOf L2.CX0 X.prog X.w X.K X.mg X.base ["deed", "e"] "_law_told" sg g cdv X.A X.stack s' H1 E0).nox "_law_word" := sW
      exact pss_one (ps_ret (pe_hot HW hrw hz hf (pe_var (i := 1) rfl (.inl sE)) gW (by decide)))
    · refine ⟨rfl, hco, fun cls d H' => RW X.K X.mg nE CS cls d H' Q, fun cls d H' hR => ?_, m, h, en, rel1, ?_⟩
      · obtain ⟨hd, c, hc, e1, e2, e3⟩ := hR
        exact ⟨true, e2, fun _ a ha => ⟨_, rfl, rfl, hd, c, hc, e1, e2, e3⟩, fun z => by cases z⟩
      · unfold toldE at post
        cases q : fb en h with
        | ok d h' =>
          rw [q] at post
          exact fun m' H' v a b z => post m' H' v ((Ex.extN eN).trans a) b z
        | bad =>
          rw [q] at post
          exact post
        | err c h' =>
          rw [q] at post
          dsimp only at post
          split at post
          · rename_i hc
            intro m' H' C a b z
            obtain ⟨C2, y1, y2⟩ := hcls (c - 11) (by omega)
            have ec : 11 + (c - 11) = c := by omega
            rw [ec] at y1
            have e3 := z.symm.trans y1
            cases e3
            refine ⟨rfl, c - 11, by omega, by rw [ec]; exact z, y2, fun H'' hx => ?_⟩
            have eN2 : LamX.ExtN H' H'' := LamX.ExtN.of hx
            exact post m' H'' _ (((Ex.extN eN).trans a).trans (Ex.extN eN2)) (b.extN eN2 (b.tab.ext hx)) (.wd (by show c - 11 < 60; omega) rfl)
          · exact post.elim
  refine wpAny_call (codeAny_mono run fun r s2 hq => ?_)
  cases r with
  | error e => exact (show False from hq).elim
  | ok fl =>
    cases fl with
    | ret u => exact I1.after hq
    | next => exact (show False from hq).elim
    | brk => exact (show False from hq).elim
    | cont => exact (show False from hq).elim
end DL

set_option Elab.async false
set_option linter.all false
set_option maxRecDepth 100000
set_option autoImplicit false
set_option maxHeartbeats 1000000
/-! The word of an error's class. -/
namespace DL
open PySem PySem.Spec PyProof.Rows L2 HotX L2H
/-- isinstance of the error: a flag -/
def tFl (a : Addr) (b : Bool) : TE := fun σ H Q => σ[0]? = some (some (.ref a)) ∧ Q (.bl b) H
abbrev fj (a : Addr) (c j : Nat) : TE := tFl a (decide (j = c))
abbrev L4 (a : Addr) (c j : Nat) : TA := tCons (fj a c j) (tCons (fj a c (j + 1)) (tCons (fj a c (j + 2)) (tCons (fj a c (j + 3)) tNil)))
abbrev L3 (a : Addr) (c j : Nat) : TA := tCons (fj a c j) (tCons (fj a c (j + 1)) (tCons (fj a c (j + 2)) tNil))
abbrev sw (n : Nat) : TE := tC (.str (wds n))
abbrev W9 : TA := tCons (sw 0) (tCons (sw 1) (tCons (sw 2) (tCons (sw 3) (tCons (sw 4) (tCons (sw 5) (tCons (sw 6) (tCons (sw 7) (tCons (sw 8) tNil))))))))
def tTestW (K : PySem.W.Frag) (a : Addr) : TT := tOr (tTest (tOp rNe (tCB (rSum K) (tCons (tInts K (tVar 1)) tNil)) (tC (.int 1)))) (tNot (tB (tFl a true)))
def tEnd9 (K : PySem.W.Frag) (a : Addr) : TS := tSeq (tIfS (tTestW K a) (tRet (sw 11)) tNext) (tSeq (tAsg (tLst W9) (gName 2)) (tRet (tOp (rIxL K) (tVar 2) (tBM K "list" (rIndex K) (tVar 1) (tCons (tC (.bl true)) tNil)))))
def tEnd11 (K : PySem.W.Frag) (a : Addr) : TS := tSeq (tIfS (tTestW K a) (tRet (sw 11)) tNext) (tSeq (tAsg (tLst W9) (gName 2)) (tRet (tOp (rIxL K) (tOp rCat (tVar 2) (tLst (tCons (sw 9) (tCons (sw 10) tNil)))) (tBM K "list" (rIndex K) (tVar 1) (tCons (tC (.bl true)) tNil)))))
def tWord9 (K : PySem.W.Frag) (a : Addr) (c : Nat) : TS := tSeq (tAsg (tLst (L4 a c 0)) (gName 1)) (tSeq (tAsg (tOp rCat (tVar 1) (tLst (L4 a c 4))) (gName 1)) (tSeq (tDrop (tBM K "list" rAppend (tVar 1) (tCons (fj a c 8) tNil))) (tEnd9 K a)))
def tWord11 (K : PySem.W.Frag) (a : Addr) (c : Nat) : TS := tSeq (tAsg (tLst (L4 a c 0)) (gName 1)) (tSeq (tAsg (tOp rCat (tVar 1) (tLst (L4 a c 4))) (gName 1)) (tSeq (tAsg (tOp rCat (tVar 1) (tLst (L3 a c 8))) (gName 1)) (tEnd11 K a)))
def flg (n c : Nat) : List Bool := (List.range n).map fun j => decide (j = c)
theorem flg_sum : ∀ n, n < 12 → ∀ c, c < n → ((flg n c).map fun b => if b then (1 : Int) else 0).sum = 1 := by decide +kernel
theorem flg_at {n c : Nat} (h : c < n) : (flg n c)[c]? = some true := by
  unfold flg
  rw [List.getElem?_map, List.getElem?_range h]
  simp
theorem flg_lt {n c j : Nat} {z : Bool} (h : j < c) (e : (flg n c)[j]? = some z) : z = false := by
  unfold flg at e
  rw [List.getElem?_map] at e
  obtain ⟨k, h1, rfl⟩ := Option.map_eq_some_iff.mp e
  have h2 := List.getElem?_eq_some_iff.mp h1
  obtain ⟨h3, h4⟩ := h2
  rw [List.getElem_range] at h4
  subst h4
  exact decide_eq_false (by omega)
/-- the test, behind the flags -/
theorem test_w {K : PySem.W.Frag} {a l : Addr} {n c : Nat} {σ : L2.St} {H : Hp} {Q : Bool → Hp → Prop} (hn : n < 12) (hc : c < n) (h0 : σ[0]? = some (some (.ref a))) (h1 : σ[1]? = some (some (.ref l))) (hl : H l = some (.lst ((flg n c).map V.bl)))
    (q : ∀ p, H p = none → Q false (upd H p (.lst (((flg n c).map fun b => V.int (if b then 1 else 0)))))) : tTestW K a σ H Q := by
  refine ⟨_, h1, l, flg n c, rfl, .inl (.inl hl), fun p hp => ?_⟩
  refine ⟨p, (flg n c).map fun b => if b then (1 : Int) else 0, rfl, .inl (.inl ?_), rfl, false, ?_, ?_⟩
  · rw [upd_same, List.map_map]
    rfl
  · rw [flg_sum n hn c hc] <;> rfl
  · exact ⟨h0, true, rfl, q p hp⟩
abbrev ExH (H H' : Hp) : Prop := ∀ b o, H b = some o → H' b = some o
theorem ExH.upd {H : Hp} {p : Addr} {o : HO} (h : H p = none) : ExH H (upd H p o) := upd_keeps h
theorem ExH.trans {H H1 H2 : Hp} (a : ExH H H1) (b : ExH H1 H2) : ExH H H2 := fun c o h => b c o (a c o h)
theorem idx_w {K : PySem.W.Frag} {l : Addr} {n c : Nat} {σ : L2.St} {H : Hp} {Q : VK} (hc : c < n) (h1 : σ[1]? = some (some (.ref l))) (hl : H l = some (.lst ((flg n c).map V.bl))) (q : Q (.int (c : Nat)) H) :
    tBM K "list" (rIndex K) (tVar 1) (tCons (tC (.bl true)) tNil) σ H Q := by
  refine ⟨_, h1, .inl ⟨rfl, _, .inl (.inl hl)⟩, l, (flg n c).map V.bl, .bl true, c, .bl true, rfl, rfl, .inl (.inl hl), rfl, ?_, ?_, rfl, fun j z hj hz => ?_, q⟩
  · rw [List.all_map]
    exact List.all_eq_true.mpr fun _ _ => rfl
  · rw [List.getElem?_map, flg_at hc]
    rfl
  · rw [List.getElem?_map] at hz
    obtain ⟨b, e1, rfl⟩ := Option.map_eq_some_iff.mp hz
    rw [flg_lt hj e1]
    rfl
def w9 : List V := (List.range 9).map fun n => V.str (wds n)
def w11 : List V := (List.range 11).map fun n => V.str (wds n)
theorem w9_at : ∀ c, c < 9 → atI w9 (c : Nat) = some (.str (wds c)) := fun c hc => by
  have e : (c : Nat) < w9.length := by unfold w9; rw [List.length_map, List.length_range]; exact hc
  unfold atI
  rw [show ixN w9.length ((c : Nat) : Int) = some c from by unfold ixN; rw [if_pos (Int.natCast_nonneg c), if_pos (by exact_mod_cast e)]; rfl]
  show w9[c]? = _
  unfold w9
  rw [List.getElem?_map, List.getElem?_range hc] <;> rfl
theorem w11_at : ∀ c, c < 11 → atI w11 (c : Nat) = some (.str (wds c)) := fun c hc => by
  have e : (c : Nat) < w11.length := by unfold w11; rw [List.length_map, List.length_range]; exact hc
  unfold atI
  rw [show ixN w11.length ((c : Nat) : Int) = some c from by unfold ixN; rw [if_pos (Int.natCast_nonneg c), if_pos (by exact_mod_cast e)]; rfl]
  show w11[c]? = _
  unfold w11
  rw [List.getElem?_map, List.getElem?_range hc] <;> rfl
theorem seq_set {te : TE} {i : Nat} {u : TS} {D : Ends} {σ : L2.St} {H : Hp} (h : te σ H fun x H1 => u D (σ.set i (some x)) H1) : tSeq (tAsg te (gName i)) u D σ H := h
theorem seq_drop {te : TE} {u : TS} {D : Ends} {σ : L2.St} {H : Hp} (h : te σ H fun _ H1 => u D σ H1) : tSeq (tDrop te) u D σ H := h
theorem sz16 {n : Nat} (h : n ≤ 16) : n ≤ sizeLine := by rw [sizeLine_eq]; omega
theorem end9 {K : PySem.W.Frag} {a l : Addr} {c : Nat} {σ : L2.St} {H : Hp} {D : Ends} (hc : c < 9) (hz : σ.length = 3) (h0 : σ[0]? = some (some (.ref a))) (h1 : σ[1]? = some (some (.ref l))) (hl : H l = some (.lst ((flg 9 c).map V.bl)))
    (q : ∀ H', ExH H H' → D.rt (.str (wds c)) H') : tEnd9 K a D σ H := by
  refine test_w (n := 9) (c := c) (by decide) hc h0 h1 hl fun p hp => ?_
  show (tSeq (tAsg (tLst W9) (gName 2)) (tRet (tOp (rIxL K) (tVar 2) (tBM K "list" (rIndex K) (tVar 1) (tCons (tC (.bl true)) tNil))))) D σ _
  refine seq_set ⟨sz16 (by simp), fun r hr => ?_⟩
  have eH : ExH H (upd (upd H p (.lst ((flg 9 c).map fun b => V.int (if b then 1 else 0)))) r (.lst w9)) := (ExH.upd hp).trans (ExH.upd hr)
  refine ⟨.ref r, by rw [List.getElem?_set_self (by omega)], ?_⟩
  refine idx_w (n := 9) hc (by rw [List.getElem?_set_ne (by decide)]; exact h1) (eH _ _ hl) ?_
  exact ⟨r, w9, _, _, rfl, rfl, .inl (.inl upd_same), w9_at c hc, q _ eH⟩
theorem end11 {K : PySem.W.Frag} {a l : Addr} {c : Nat} {σ : L2.St} {H : Hp} {D : Ends} (hc : c < 11) (hz : σ.length = 3) (h0 : σ[0]? = some (some (.ref a))) (h1 : σ[1]? = some (some (.ref l))) (hl : H l = some (.lst ((flg 11 c).map V.bl)))
    (q : ∀ H', ExH H H' → D.rt (.str (wds c)) H') : tEnd11 K a D σ H := by
  refine test_w (n := 11) (c := c) (by decide) hc h0 h1 hl fun p hp => ?_
  show (tSeq (tAsg (tLst W9) (gName 2)) (tRet (tOp (rIxL K) (tOp rCat (tVar 2) (tLst (tCons (sw 9) (tCons (sw 10) tNil)))) (tBM K "list" (rIndex K) (tVar 1) (tCons (tC (.bl true)) tNil))))) D σ _
  refine seq_set ⟨sz16 (by simp), fun r hr => ?_⟩
  have eH : ExH H (upd (upd H p (.lst ((flg 11 c).map fun b => V.int (if b then 1 else 0)))) r (.lst w9)) := (ExH.upd hp).trans (ExH.upd hr)
  refine ⟨.ref r, by rw [List.getElem?_set_self (by omega)], sz16 (by simp), fun r2 hr2 => ?_⟩
  refine ⟨r, r2, w9, _, rfl, rfl, upd_keeps hr2 _ _ upd_same, upd_same, sz16 (by unfold w9; simp), fun r3 hr3 => ?_⟩
  have eH3 := eH.trans ((ExH.upd hr2).trans (ExH.upd (o := .lst (w9 ++ [V.str (wds 9), V.str (wds 10)])) hr3))
  refine idx_w (n := 11) hc (by rw [List.getElem?_set_ne (by decide)]; exact h1) (eH3 _ _ hl) ?_
  exact ⟨r3, w11, _, _, rfl, rfl, .inl (.inl upd_same), w11_at c hc, q _ eH3⟩
theorem word9 {K : PySem.W.Frag} {a : Addr} {c : Nat} {H : Hp} {D : Ends} (hc : c < 9) (q : ∀ H', ExH H H' → D.rt (.str (wds c)) H') : tWord9 K a c D [some (.ref a), none, none] H := by
  refine seq_set ⟨rfl, rfl, rfl, rfl, sz16 (by simp), fun p1 h1 => ?_⟩
  refine seq_set ⟨_, rfl, rfl, rfl, rfl, rfl, sz16 (by simp), fun p2 h2 => ?_⟩
  refine ⟨p1, p2, _, _, rfl, rfl, upd_keeps h2 _ _ upd_same, upd_same, sz16 (by simp), fun p3 h3 => ?_⟩
  refine seq_drop ⟨_, rfl, .inl ⟨rfl, _, .inl (.inl upd_same)⟩, rfl, p3, _, _, rfl, rfl, upd_same, sz16 (by simp), ?_⟩
  have n3 : H p3 = none := by
    cases e : H p3 with
    | none => rfl
    | some o =>
      rw [((ExH.upd h1).trans (ExH.upd h2)) _ _ e] at h3
      cases h3
  refine end9 (l := p3) hc rfl rfl rfl (by rw [upd_same]; rfl) fun H' hx => q H' fun b o e => hx b o ?_
  have nb : b ≠ p3 := fun z => by rw [z, n3] at e; cases e
  rw [upd_ne nb, upd_ne nb]
  exact ((ExH.upd h1).trans (ExH.upd h2)) _ _ e
theorem word11 {K : PySem.W.Frag} {a : Addr} {c : Nat} {H : Hp} {D : Ends} (hc : c < 11) (q : ∀ H', ExH H H' → D.rt (.str (wds c)) H') : tWord11 K a c D [some (.ref a), none, none] H := by
  refine seq_set ⟨rfl, rfl, rfl, rfl, sz16 (by simp), fun p1 h1 => ?_⟩
  refine seq_set ⟨_, rfl, rfl, rfl, rfl, rfl, sz16 (by simp), fun p2 h2 => ?_⟩
  refine ⟨p1, p2, _, _, rfl, rfl, upd_keeps h2 _ _ upd_same, upd_same, sz16 (by simp), fun p3 h3 => ?_⟩
  refine seq_set ⟨_, rfl, rfl, rfl, rfl, sz16 (by simp), fun p4 h4 => ?_⟩
  refine ⟨p3, p4, _, _, rfl, rfl, upd_keeps h4 _ _ upd_same, upd_same, sz16 (by simp), fun p5 h5 => ?_⟩
  have eH := (ExH.upd (o := HO.lst [V.bl (decide (0 = c)), V.bl (decide (0 + 1 = c)), V.bl (decide (0 + 2 = c)), V.bl (decide (0 + 3 = c))]) h1).trans ((ExH.upd h2).trans ((ExH.upd h3).trans ((ExH.upd h4).trans (ExH.upd (o := .lst ((flg 11 c).map V.bl)) h5))))
  exact end11 (l := p5) hc rfl rfl rfl upd_same fun H' hx => q H' (eH.trans hx)
/-! ### the error classes as isinstance sees them -/
structure WdF (K : PySem.W.Frag) (mg : Str → Option Value) (nE : Nat) : Prop where
  ex : ∀ c, c < nE → ∃ C, mg (cnm (11 + c)) = some (.ref C) ∧ ExcC K C ∧ PySem.W.kitOne K (.ref C) (.type "ValueError") = some true ∧ ∀ j, j < nE → ∃ C', mg (cnm (11 + j)) = some (.ref C') ∧ PySem.W.kitOne K (.ref C) (.ref C') = some (decide (j = c))
section
variable {X : Cx} {a C : Addr} {oe : Obj} {pos p p2 p3 : Pos}
theorem pe_flag {x : Str} {C' : Addr} {b : Bool} (hp : (a, oe) ∈ X.pn) (F : ExcC X.K C) (hz : Zc (.ref C) none oe) (hf : ∃ vs, oe.data = .fields vs) (hm : X.mg x = some (.ref C')) (hk : PySem.W.kitOne X.K (.ref C) (.ref C') = some b)
    (hmi : X.mg "isinstance" = none) (hN : X.N[0]? = some ("e" : Str) := by rfl) (hv : Vis X.env.scope "e" := by exact Or.inl rfl) (hg : Gl X "isinstance" := by rfl) (hgx : Gl X x := by rfl) (hdb : (x == ("__debug__" : Str)) = false := by decide) :
    PE X (.Call (.Name "isinstance" p) [.Name "e" p2, .Name x p3] [] pos) (tFl a b) :=
  PE.imp (pe_callB (call_isX hp F hz hf) hg hmi boot_isinstance (pa_cons (pe_var (i := 0) hN hv) (pa_cons (pe_glob (v := .ref C') hgx hm rfl hdb) pa_nil))) fun σ H Q ⟨h0, q⟩ =>
    ⟨_, h0, .ref C', .ref C', b, rfl, fun u r => r, hk, q⟩
theorem pe_flagV {x : Str} {b : Bool} (hp : (a, oe) ∈ X.pn) (F : ExcC X.K C) (hz : Zc (.ref C) none oe) (hf : ∃ vs, oe.data = .fields vs) (hm : X.mg x = none) (hv' : bootBuiltins x = some (.type "ValueError")) (hk : PySem.W.kitOne X.K (.ref C) (.type "ValueError") = some b)
    (hmi : X.mg "isinstance" = none) (hN : X.N[0]? = some ("e" : Str) := by rfl) (hv : Vis X.env.scope "e" := by exact Or.inl rfl) (hg : Gl X "isinstance" := by rfl) (hgx : Gl X x := by rfl) (hn : x ≠ "__name__" := by decide) (hdb : (x == ("__debug__" : Str)) = false := by decide) :
    PE X (.Call (.Name "isinstance" p) [.Name "e" p2, .Name x p3] [] pos) (tFl a b) :=
  PE.imp (pe_callB (call_isX hp F hz hf) hg hmi boot_isinstance (pa_cons (pe_var (i := 0) hN hv) (pa_cons (pe_bltn (v := .ty "ValueError") hgx hm hv' rfl hn hdb) pa_nil))) fun σ H Q ⟨h0, q⟩ =>
    ⟨_, h0, .ty "ValueError", .type "ValueError", b, rfl, fun u r => r, hk, q⟩
end
end DL

set_option Elab.async false
set_option linter.all false
set_option maxRecDepth 100000
set_option autoImplicit false
set_option maxHeartbeats 1000000
/-! list(x), tuple(x). -/
namespace DL
open PySem PySem.Spec PyProof.Rows L2
section
variable {X : Cx} {T : TF} {E : XK} {a b c e o : Expr} {es rest : List Expr} {pos : Pos} {f k l : ME}
def listD (r : Bool) (x : D) (h : IH) : Out D := match getS h x with
  | some xs => outL r xs h
  | none => .bad
theorem de_list (r : Bool) {t : MA} {p : Pos} (hm : X.mg "list" = none) (ha : DA X T E [e] t) (hg : Gl X "list" := by rfl) (he : starEach (e :: []) X.env = (false, eval e X.env) :: starEach [] X.env := by rfl) : DE X T E (.Call (.Name "list" p) [e] [] pos) (callB (one (listD r)) t) :=
  de_callTy call_list_of (one_ok fun m h H v d E Q rh rv p => by
    unfold listD at p
    cases q : getS h d with
    | none => rw [q] at p; exact p.elim
    | some xs =>
      rw [q] at p
      obtain ⟨a, vs, rfl, s, r2⟩ := getS_ok rh rv q
      exact ⟨a, vs, rfl, s, fun q hq => Post.outL p rh r2 hq⟩) hm (by decide +kernel) ha hg (by decide) (by decide) he
def tupleD (x : D) (h : IH) : Out D := match getL h x with
  | some xs => .ok (.tup xs) h
  | none => .bad
theorem de_tuple {t : MA} {p : Pos} (hm : X.mg "tuple" = none) (ha : DA X T E [e] t) (hg : Gl X "tuple" := by rfl) (he : starEach (e :: []) X.env = (false, eval e X.env) :: starEach [] X.env := by rfl) : DE X T E (.Call (.Name "tuple" p) [e] [] pos) (callB (one tupleD) t) :=
  de_callTy call_tuple_of (one_ok fun m h H v d E Q rh rv p => by
    unfold tupleD at p
    cases q : getL h d with
    | none => rw [q] at p; exact p.elim
    | some xs =>
      rw [q] at p
      obtain ⟨a, vs, rfl, s, r2⟩ := getL_ok rh rv q
      exact ⟨a, vs, rfl, .inl ⟨s, fun l hl => p m _ _ (Ex.fresh hl NT.tup) (rh.fresh hl NT.tup) (.tup (.inr ⟨.inl upd_same, rh.off hl⟩) (r2.mono (Ex.fresh hl NT.tup)))⟩⟩) hm (by decide +kernel) ha hg (by decide) (by decide) he
end
end DL

set_option Elab.async false
set_option linter.all false
set_option maxRecDepth 100000
set_option autoImplicit false
set_option maxHeartbeats 1000000
/-! What the printed texts lean on: defs by name, the helper, the law's end. -/
namespace DL
open PySem PySem.Spec PyProof.Rows L2 HotX L2H
/-! ### fuel of loops -/
def flen (i : Nat) : En → IH → Nat := fun en h => match en[i]? with
  | some (some d) => (match getL h d with
    | some xs => xs.length + 1
    | none => 0)
  | _ => 0
def fint (i : Nat) : En → IH → Nat := fun en _ => match en[i]? with
  | some (some (.int k)) => k.toNat + 1
  | _ => 0
/-! ### defs of the module -/
def DefF (K : PySem.W.Frag) (mg : Str → Option Value) (x : Str) (st : Stmt) : Prop := ∃ f fd, FunD K x x (defArgs st) (defBody st) (defScope st) [] [] f fd ∧ mg x = some (.ref f)
/-- the def's table of lambdas -/
def LamF (base : Heap) (mg : Str → Option Value) (T : TF) (cd : Value) (q : Str) : Prop := ∃ c P, cd = .ref c ∧ LamX.TabB base mg c P ∧ (P, q) ∈ T.tb ∧ ∀ p ∈ T.tb, p.1 = P → p.2 = q
def DefL (K : PySem.W.Frag) (mg : Str → Option Value) (base : Heap) (T : TF) (x : Str) (st : Stmt) : Prop := ∃ f fd, FunD K x x (defArgs st) (defBody st) (defScope st) [] [] f fd ∧ mg x = some (.ref f) ∧ LamF base mg T fd.code (x ++ ".<locals>." ++ "<lambda>")
def CalF (P : Program) (w : World) (K : PySem.W.Frag) (mg : Str → Option Value) (base : Heap) (T : TF) (x : Str) (k n : Nat) (F : List D → IH → Out D) : Prop :=
  ∃ f fd ps, ps.length = n ∧ mg x = some (.ref f) ∧ PySem.W.keepIn K (.ref f) = true ∧ Binds K fd ps [] ∧ FnOk P w K mg base (L2N.CX P w) k f fd ps (SpOf ⟨K, mg, T⟩ n F)
theorem GloIs.tup {K : PySem.W.Frag} {mg : Str → Option Value} {x : Str} {dv : List He.Dv} {ds : List D} (hm : mg x = some (.ref (He.ga K x))) (h : He.tupB K x dv = true) (hr : ∀ m n H, Rvs K m n H (dv.map (He.Dv.v K)) ds) : GloIs K mg x (.tup ds) := by
  refine ⟨.ref (He.ga K x), _, hm, rfl, fun m n H => .tup (.inl ?_) (hr m n H)⟩
  rcases He.tupB_ok h (fun _ => none) with (q | ⟨o, q⟩) | q
  · cases q
  · cases q
  · exact q
theorem GloIs.str {K : PySem.W.Frag} {mg : Str → Option Value} {x : Str} {n : Nat} (h : ∃ t, mg x = some (.str (wds n) t)) (hn : n < nW) : GloIs K mg x (.wd n) := by
  obtain ⟨t, h⟩ := h
  exact ⟨.str (wds n), _, h, ⟨t, rfl⟩, fun _ _ _ => .wd hn rfl⟩
/-! ### the word's def, the helper -/
section
variable {P : Program} {w : World} {K : PySem.W.Frag} {mg : Str → Option Value} {base : Heap}
theorem hot_word {nE : Nat} {CS : Addr} {st : Stmt} {t : Addr → Nat → TS} (F : DefF K mg "_law_word" st) (S : FnScope ["e", "flags", "words"] ["e"] (defScope st)) (W : WdF K mg nE)
    (bi : ∀ {f fd}, FunD K "_law_word" "_law_word" (defArgs st) (defBody st) (defScope st) [] [] f fd → Binds K fd ["e"] [])
    (pure : ∀ (a : Addr) (c : Nat) (D : Ends) (H : Hp), c < nE → (∀ H', ExH H H' → D.rt (.str (wds c)) H') → t a c D [some (.ref a), none, none] H)
    (body : ∀ (f : Addr) (cdv : Value) (A : Around) (outer : List Env) (s : Shared) (H : Hp) (p : Addr × Obj) (C : Addr) (c : Nat), HotC (cxW P w K mg base ["e", "flags", "words"] "_law_word" (defScope st) f cdv A outer s H p) → p ∈ (cxW P w K mg base ["e", "flags", "words"] "_law_word" (defScope st) f cdv A outer s H p).pn →
      ExcC K C → Zc (.ref C) none p.2 → (∃ vs, p.2.data = .fields vs) → PySem.W.kitOne K (.ref C) (.type "ValueError") = some true → (∀ j, j < nE → ∃ C', mg (cnm (11 + j)) = some (.ref C') ∧ PySem.W.kitOne K (.ref C) (.ref C') = some (decide (j = c))) →
      PSs (cxW P w K mg base ["e", "flags", "words"] "_law_word" (defScope st) f cdv A outer s H p) (defBody st) (t p.1 c)) : HotFn P w K mg base "_law_word" 0 (RW K mg nE CS) := by
  obtain ⟨f, fd, F, gF⟩ := F
  have b := bi F
  have kp := F.kp
  obtain ⟨oc, od, dV, kV, doc, pm, an, cdv, ct, osl, rfl, lk, hcd, _⟩ := F.ex
  refine ⟨f, _, _, _, ["e", "flags", "words"], "e", oc, od, dV, kV, doc, pm, an, cdv, ct, osl, gF, kp, lk, hcd, S, b, fun A outer s H Q p cls d hot hr hz hf hR => ?_⟩
  obtain ⟨rfl, c, hc, e1, _, q⟩ := hR
  obtain ⟨C, g1, g2, g3, g4⟩ := W.ex c hc
  have ec := e1.symm.trans g1
  cases ec
  have hp : p ∈ (cxW P w K mg base ["e", "flags", "words"] "_law_word" (defScope st) f cdv A outer s H p).pn := List.mem_cons_self
  exact ⟨t p.1 c, body f cdv A outer s H p C c ⟨p, ⟨hot.1, hot.2⟩, hp⟩ hp g2 hz.zc hf g3 g4, pure p.1 c _ H hc q⟩
theorem told_of {nE : Nat} {st : Stmt} {CS : Addr} {p1 p2 p3 p4 p5 p6 p7 p8 p9 p10 : Pos} (F : DefF K mg "_law_told" st) (S : FnScope ["deed", "e"] ["deed"] (defScope st))
    (bi : ∀ {f fd}, FunD K "_law_told" "_law_told" (defArgs st) (defBody st) (defScope st) [] [] f fd → Binds K fd ["deed"] []) (s1 : (defScope st).names.lookup ("BoardError" : Str) = some .globalImplicit) (s2 : (defScope st).names.lookup ("_law_word" : Str) = some .globalImplicit)
    (s3 : (defScope st).names.lookup ("e" : Str) = some .local) (s4 : (defScope st).names.lookup ("deed" : Str) = some .local) (mB : mg "BoardError" = some (.ref CS))
    (eb : defBody st = [.Try [.Return (some (.Call (.Name "deed" p1) [] [] p2)) p3] [.ExceptHandler (some (.Name "BoardError" p4)) (some "e") [.Return (some (.Call (.Name "_law_word" p5) [.Name "e" p6] [] p7)) p8] p9] [] [] p10])
    (hx : ∀ c, c < nE → ∃ C, mg (cnm (11 + c)) = some (.ref C) ∧ PySem.W.exmOne K (.ref C) (.ref CS) = some true) (hw : HotFn P w K mg base "_law_word" 0 (RW K mg nE CS)) : ToldOk P w K mg base nE := by
  obtain ⟨g, fd, F, gF⟩ := F
  have b := bi F
  have kp := F.kp
  obtain ⟨oc, od, dV, kV, doc, pm, an, cdv, ct, osl, rfl, lk, hcd, _⟩ := F.ex
  exact ⟨g, CS, _, _, _, oc, od, dV, kV, doc, pm, an, cdv, ct, osl, p1, p2, p3, p4, p5, p6, p7, p8, p9, p10, gF, kp, lk, hcd, b, S, s1, s2, s3, .inl s4, mB, eb, hx, hw⟩
end
/-! ### the facts of the head -/
def excB (K : PySem.W.Frag) (D : Addr) : Bool :=
  He.eqO (PySem.W.findIn K (.ref D) "__getattribute__") (some (some (.builtin "BaseException.__getattribute__"))) && (He.eqO (PySem.W.findIn K (.ref D) "__getattr__") (some none) && (decide (PySem.W.subIn K (.ref D) (.type "BaseException") = some true) && (PySem.W.hasDictIn K D &&
  (He.eqO (PySem.W.findIn K (.ref D) "__class__") (some (some (.builtin "object.__class__"))) && (He.eqO (PySem.W.specialIn K (.builtin "object.__class__") "__get__") (some (some (.builtin "getset_descriptor.__get__"))) &&
  (decide (PySem.W.takesIn K (.builtin "object.__class__") = some true) && decide (PySem.W.mroIn K D (.type "object") = some true)))))))
theorem excB_ok {K : PySem.W.Frag} {D : Addr} (h : excB K D = true) : ExcC K D := by
  obtain ⟨h1, h⟩ := He.ba h
  obtain ⟨h2, h⟩ := He.ba h
  obtain ⟨h3, h⟩ := He.ba h
  obtain ⟨h4, h⟩ := He.ba h
  obtain ⟨h5, h⟩ := He.ba h
  obtain ⟨h6, h⟩ := He.ba h
  obtain ⟨h7, h8⟩ := He.ba h
  exact ⟨He.eqO_ok h1, He.eqO_ok h2, of_decide_eq_true h3, h4, He.eqO_ok h5, He.eqO_ok h6, of_decide_eq_true h7, of_decide_eq_true h8⟩
/-- the error classes: what isinstance, what an except clause says of them -/
def wdB (nE : Nat) (K : PySem.W.Frag) : Bool := (List.range nE).all fun c => excB K (He.ga K (cnm (11 + c))) && (decide (PySem.W.kitOne K (.ref (He.ga K (cnm (11 + c)))) (.type "ValueError") = some true) &&
  (decide (PySem.W.exmOne K (.ref (He.ga K (cnm (11 + c)))) (.ref (He.ga K "BoardError")) = some true) && (List.range nE).all fun j => decide (PySem.W.kitOne K (.ref (He.ga K (cnm (11 + c)))) (.ref (He.ga K (cnm (11 + j)))) = some (decide (j = c)))))
theorem wdB_ok {nE : Nat} {K : PySem.W.Frag} {mg : Str → Option Value} (h : wdB nE K = true) (g : ∀ c, c < nE → mg (cnm (11 + c)) = some (.ref (He.ga K (cnm (11 + c))))) :
    WdF K mg nE ∧ ∀ c, c < nE → ∃ C, mg (cnm (11 + c)) = some (.ref C) ∧ PySem.W.exmOne K (.ref C) (.ref (He.ga K "BoardError")) = some true := by
  have key := fun c (hc : c < nE) => He.ba (List.all_eq_true.mp h c (List.mem_range.mpr hc))
  refine ⟨⟨fun c hc => ?_⟩, fun c hc => ?_⟩
  · obtain ⟨h1, h2⟩ := key c hc
    obtain ⟨h3, h4⟩ := He.ba h2
    obtain ⟨h5, h6⟩ := He.ba h4
    exact ⟨_, g c hc, excB_ok h1, of_decide_eq_true h3, fun j hj => ⟨_, g j hj, of_decide_eq_true (List.all_eq_true.mp h6 j (List.mem_range.mpr hj))⟩⟩
  · obtain ⟨h1, h2⟩ := key c hc
    obtain ⟨h3, h4⟩ := He.ba h2
    obtain ⟨h5, h6⟩ := He.ba h4
    exact ⟨_, g c hc, of_decide_eq_true h5⟩
theorem er_ok {K : PySem.W.Frag} {mg : Str → Option Value} {c : Nat} {x : Str} (g : mg x = some (.ref (He.ga K x))) (e : (He.Fa.exc x).ok K = true) (hx : x = cnm c := by rfl) : ErOk K mg c := by
  subst hx
  obtain ⟨h1, h2, h3, h4⟩ := He.exc_ok e
  exact ⟨_, g, h1, h2, h3, h4⟩
/-! ### the law's end -/
def tabL (K : PySem.W.Frag) (tf : List (He.Defn × Str)) : List (Addr × Str) := tf.map fun p => ((He.cT K p.1).2, p.2)
def tabND (K : PySem.W.Frag) (tf : List (He.Defn × Str)) : Bool := decide ((tf.map fun p => (He.cT K p.1).2).Nodup)
theorem tab_uniq {K : PySem.W.Frag} : ∀ {tf : List (He.Defn × Str)} {p : He.Defn × Str}, (tf.map fun p => (He.cT K p.1).2).Nodup → p ∈ tf → ∀ q ∈ tabL K tf, q.1 = (He.cT K p.1).2 → q.2 = p.2
  | [], p, _, hp, _, _, _ => by cases hp
  | a :: tf, p, nd, hp, q, hq, e => by
    have nd' := List.nodup_cons.mp nd
    rcases List.mem_cons.mp hp with z | z
    · rcases List.mem_cons.mp hq with y | y
      · rw [y, z]
      · exfalso
        obtain ⟨u, h1, h2⟩ := List.mem_map.mp y
        rw [← h2] at e
        exact nd'.1 (List.mem_map.mpr ⟨u, h1, by rw [← z]; exact e⟩)
    · rcases List.mem_cons.mp hq with y | y
      · exfalso
        rw [y] at e
        exact nd'.1 (List.mem_map.mpr ⟨p, z, e.symm⟩)
      · exact tab_uniq nd'.2 z q y e
/-- the ideal law says true of every script -/
def LawTrue (F : List D → IH → Out D) (n : Nat) : Prop := ∀ ns : List Int, ns.length ≤ n → (∀ z ∈ ns, Builtin.Int.intBits z ≤ 1048576) → ∃ h, F [.fl (ns.map .int)] [] = .ok (.bl true) h
theorem law_sp {K : PySem.W.Frag} {mg : Str → Option Value} {tb : List (Addr × Str)} {F : List D → IH → Out D} {n : Nat} (L : LawTrue F n) (H : Hp) (a : Addr) (ns : List Int) (h1 : ns.length ≤ n) (h2 : ∀ z ∈ ns, Builtin.Int.intBits z ≤ 1048576) (hT : ∀ p ∈ tb, H p.1 = some (.tbl #[])) (hS : SqL K H a (ns.map V.int)) :
    SpOf ⟨K, mg, .of tb⟩ 1 F [.ref a] H (fun v _ => v = .bl true) fun _ _ _ => False := by
  obtain ⟨h, e⟩ := L ns h1 h2
  have off : Off (⟨fun _ => False, fun _ => 0, fun _ => none⟩ : Mp) 0 a := ⟨fun z => z, fun i hi => absurd hi (Nat.not_lt_zero i)⟩
  refine ⟨rfl, ⟨fun _ => False, fun _ => 0, fun _ => none⟩, [], [.fl (ns.map .int)], ⟨fun i o hi => by simp at hi, fun i j hi => absurd hi (Nat.not_lt_zero i), fun p hp => LamX.TabS.nil (hT p hp), (fun p hp => by cases hp), fun a z => z.elim, fun i hi => absurd hi (Nat.not_lt_zero i), fun i o hi => by simp at hi, fun a u z => (by cases z), fun a z => z.elim⟩, .cons (.fl ?_ (Rvs.of_ints ns)) .nil, ?_⟩
  · rcases hS with q | q
    · exact .inr ⟨q, off⟩
    · exact .inl q
  · rw [e]
    intro m' H' v _ _ r
    cases r
    rfl
theorem noCX {P : Program} {w : World} (H : Hp) (s : Shared) (e : Value) (s' : Shared) (h : L2N.CX P w [] H s (fun _ _ _ => False) e s') : False := by
  obtain ⟨_, _, _, _, _, _, _, _, _, _, _, _, z⟩ := h
  exact z
end DL

set_option Elab.async false
set_option linter.all false
set_option maxRecDepth 100000
set_option autoImplicit false
set_option maxHeartbeats 1000000
/-! Plain tools: how the functions are reckoned. -/
namespace DL
open L2 PySem PySem.Spec PyProof.Rows
section
variable {en : En} {h : IH} {f k l : ME} {t u : MT} {a : MA} {s r : MS} {d x y : D} {i j : Nat}
@[simp] theorem toS_ok {α : Type} {a : α} {k : α → IH → SO} : (Out.ok a h).toS k = k a h := rfl
@[simp] theorem toS_err {α : Type} {c : Nat} {k : α → IH → SO} : (Out.err c h : Out α).toS k = .err c h := rfl
@[simp] theorem seqS_e : seqS s r en h = (s en h).seq r := rfl
@[simp] theorem asgS_e {g : MG} : asgS f g en h = (f en h).toS fun d h1 => match g d en h1 with | .ok en' h2 => .nx en' h2 | _ => .bad := rfl
@[simp] theorem nameG_e : nameG i d en h = .ok (en.set i (some d)) h := rfl
@[simp] theorem cE_e : cE d en h = .ok d h := rfl
@[simp] theorem op2_e {o : D → D → IH → Out D} : op2 o f k en h = (f en h).bind fun x h1 => (k en h1).bind fun y h2 => o x y h2 := rfl
@[simp] theorem op1_e {o : D → IH → Out D} : op1 o f en h = (f en h).bind o := rfl
@[simp] theorem nilA_e : nilA en h = .ok [] h := rfl
@[simp] theorem consA_e : consA f a en h = (f en h).bind fun x h1 => (a en h1).bind fun xs h2 => .ok (x :: xs) h2 := rfl
@[simp] theorem callB_e {o : List D → IH → Out D} : callB o a en h = (a en h).bind o := rfl
@[simp] theorem one_e {o : D → IH → Out D} : one o [x] h = o x h := rfl
@[simp] theorem ifS_e : ifS t s r en h = (t en h).toS fun b h1 => match b with | true => s en h1 | false => r en h1 := rfl
@[simp] theorem tst_e : tst f en h = (f en h).bind asB := rfl
@[simp] theorem asB_e {b : Bool} : asB (.bl b) h = .ok b h := rfl
@[simp] theorem andT_e : andT t u en h = (t en h).bind fun b h1 => match b with | true => u en h1 | false => .ok false h1 := rfl
@[simp] theorem orT_e : orT t u en h = (t en h).bind fun b h1 => match b with | true => .ok true h1 | false => u en h1 := rfl
@[simp] theorem notT_e : notT t en h = (t en h).bind fun b h1 => .ok (!b) h1 := rfl
@[simp] theorem andE_e : andE f k en h = (f en h).bind fun x h1 => (asB x h1).bind fun b h2 => match b with | true => k en h2 | false => .ok (.bl false) h2 := rfl
@[simp] theorem orE_e : orE f k en h = (f en h).bind fun x h1 => (asB x h1).bind fun b h2 => match b with | true => .ok (.bl true) h2 | false => k en h2 := rfl
@[simp] theorem notD_e {b : Bool} : notD (.bl b) h = .ok (.bl (!b)) h := rfl
@[simp] theorem iteE_e : iteE t f k en h = (t en h).bind fun b h1 => match b with | true => f en h1 | false => k en h1 := rfl
@[simp] theorem retS_e : retS f en h = (f en h).toS fun d h1 => .rt d h1 := rfl
@[simp] theorem exprS_e : exprS f en h = (f en h).toS fun _ h1 => .nx en h1 := rfl
@[simp] theorem passS_e : passS en h = .nx en h := rfl
@[simp] theorem contS_e : contS en h = .ct en h := rfl
@[simp] theorem seq_rt : (SO.rt d h).seq r = .rt d h := rfl
@[simp] theorem seq_ct : (SO.ct en h).seq r = .ct en h := rfl
@[simp] theorem seq_err {c : Nat} : (SO.err c h).seq r = .err c h := rfl
@[simp] theorem raiseS_e {c : Nat} : raiseS c en h = .err c h := rfl
@[simp] theorem isN_e : isN x h = .ok (.bl (isNoneD x)) h := rfl
@[simp] theorem isNN_e : isNN x h = .ok (.bl (!isNoneD x)) h := rfl
@[simp] theorem isNoneD_non : isNoneD .non = true := rfl
@[simp] theorem isNoneD_int {z : Int} : isNoneD (.int z) = false := rfl
@[simp] theorem isNoneD_bl {z : Bool} : isNoneD (.bl z) = false := rfl
@[simp] theorem isNoneD_ref : isNoneD (.ref i) = false := rfl
@[simp] theorem isNoneD_tup {xs : List D} : isNoneD (.tup xs) = false := rfl
@[simp] theorem isNoneD_vl {xs : List D} : isNoneD (.vl xs) = false := rfl
@[simp] theorem isNoneD_wd : isNoneD (.wd i) = false := rfl
@[simp] theorem addI_e {p q : Int} {b : Bool} : addD b (.int p) (.int q) h = .ok (.int (p + q)) h := rfl
@[simp] theorem subI_e {p q : Int} : subD (.int p) (.int q) h = .ok (.int (p - q)) h := rfl
@[simp] theorem ltD_e {p q : Int} : ltD (.int p) (.int q) h = .ok (.bl (decide (p < q))) h := rfl
@[simp] theorem leD_e {p q : Int} : leD (.int p) (.int q) h = .ok (.bl (decide (p ≤ q))) h := rfl
@[simp] theorem gtD_e {p q : Int} : gtD (.int p) (.int q) h = .ok (.bl (decide (q < p))) h := rfl
@[simp] theorem geD_e {p q : Int} : geD (.int p) (.int q) h = .ok (.bl (decide (q ≤ p))) h := rfl
theorem mulI_e {p q : Int} {b : Bool} (e : mulOk p q = true) : mulD b (.int p) (.int q) h = .ok (.int (p * q)) h := by
  show (grd (mulOk p q) (.ok (D.int (p * q)) h)).or _ = _
  rw [e]
  rfl
theorem fdivI_e {p q : Int} (e : 0 < q) (e2 : q.natAbs.log2 < 9000) : fdivD (.int p) (.int q) h = .ok (.int (p / q)) h := by
  show grd (decide (0 < q) && decide (q.natAbs.log2 < 9000)) _ = _
  rw [decide_eq_true e, decide_eq_true e2]
  rfl
theorem modI_e {p q : Int} (e : 0 < q) : modD (.int p) (.int q) h = .ok (.int (p % q)) h := by
  show grd (decide (0 < q)) _ = _
  rw [decide_eq_true e]
  rfl
theorem mulOk_l {p q : Int} (e : p.natAbs < 2 ^ 64) : mulOk p q = true := by
  unfold mulOk
  rw [decide_eq_true e]
  rfl
theorem mulOk_r {p q : Int} (e : q.natAbs < 2 ^ 64) : mulOk p q = true := by
  unfold mulOk
  rw [decide_eq_true e]
  simp
theorem mulOk_m {p q : Int} (e : p.natAbs < 2 ^ 1000) (e2 : q.natAbs < 2 ^ 1000) : mulOk p q = true := by
  have h1 : p.natAbs.log2 < 1000 ∨ p.natAbs = 0 := by
    by_cases z : p.natAbs = 0
    · exact .inr z
    · exact .inl ((Nat.log2_lt z).mpr e)
  have h2 : q.natAbs.log2 < 1000 ∨ q.natAbs = 0 := by
    by_cases z : q.natAbs = 0
    · exact .inr z
    · exact .inl ((Nat.log2_lt z).mpr e2)
  rcases h1 with h1 | h1
  · rcases h2 with h2 | h2
    · unfold mulOk
      rw [decide_eq_true (show p.natAbs.log2 + q.natAbs.log2 < 1000000 by omega)]
      simp
    · exact mulOk_r (by rw [h2]; decide)
  · exact mulOk_l (by rw [h1]; decide)
/-! ### defs -/
theorem fnF_rt {N : Nat} {b : MS} {ds : List D} {h' : IH} (e : b (ds.map some ++ List.replicate (N - ds.length) none) h = .rt d h') : fnF N b ds h = .ok d h' := by unfold fnF; rw [e]
theorem fnF_err {N c : Nat} {b : MS} {ds : List D} {h' : IH} (e : b (ds.map some ++ List.replicate (N - ds.length) none) h = .err c h') : fnF N b ds h = .err c h' := by unfold fnF; rw [e]
theorem fnC_rt {N : Nat} {b : MS} {ds : List D} {h' : IH} (e : b (ds.map some ++ List.replicate (N - ds.length) none) h = .rt d h') (e1 : h'.take h.length = h) (e2 : fz h.length h' 3 d = some x) : fnC N b ds h = .ok x h := by
  unfold fnC
  rw [fnF_rt e]
  dsimp only
  rw [if_pos e1, e2]
theorem fnC_err {N c : Nat} {b : MS} {ds : List D} {h' : IH} (e : b (ds.map some ++ List.replicate (N - ds.length) none) h = .err c h') (e1 : h'.take h.length = h) : fnC N b ds h = .err c h := by
  unfold fnC
  rw [fnF_err e]
  dsimp only
  rw [if_pos e1]
theorem fz_cl {n m : Nat} (e : clB n d = true) : fz n h m d = some d := by
  cases m <;> (unfold fz; rw [if_pos e])
/-- .. the heap as it was, nothing new handed back -/
theorem fnC_r0 {N : Nat} {b : MS} {ds : List D} (e : b (ds.map some ++ List.replicate (N - ds.length) none) h = .rt d h) (e1 : clB h.length d = true) : fnC N b ds h = .ok d h := fnC_rt e (List.take_length) (fz_cl e1)
theorem callF_e {n : Nat} {F : List D → IH → Out D} {ds : List D} {h' : IH} (e : a en h = .ok ds h') (hn : ds.length = n) : callF n F a en h = F ds h' := by
  unfold callF
  rw [e, Out.bind_ok, decide_eq_true hn]
  rfl
/-! ### loops -/
theorem forV_run {w : View} {body : D → En → IH → SO} {xs : List D} (I : Nat → En → IH → Prop) (hw : ∀ i en h, I i en h → w h = some xs)
    (step : ∀ i d en h, xs[i]? = some d → I i en h → ∃ en' h', (body d en h = .nx en' h' ∨ body d en h = .ct en' h') ∧ I (i + 1) en' h') : ∀ n i en h, n + i = xs.length → I i en h → ∃ en' h', forV w body n i en h = .nx en' h' ∧ I xs.length en' h' := by
  intro n
  induction n with
  | zero =>
    intro i en h e hi
    refine ⟨en, h, ?_, by rw [← e, Nat.zero_add]; exact hi⟩
    unfold forV
    rw [hw i en h hi]
    dsimp only
    rw [List.getElem?_eq_none (by omega)]
  | succ n ih =>
    intro i en h e hi
    have hl : i < xs.length := by omega
    obtain ⟨en1, h1, q, hi1⟩ := step i xs[i] en h (List.getElem?_eq_getElem hl) hi
    obtain ⟨en2, h2, q2, hi2⟩ := ih (i + 1) en1 h1 (by omega) hi1
    refine ⟨en2, h2, ?_, hi2⟩
    unfold forV
    rw [hw i en h hi]
    dsimp only
    rw [List.getElem?_eq_getElem hl]
    dsimp only
    rcases q with q | q <;> (rw [q]; exact q2)
theorem forS_run {fi : MV} {gf : MG} {b : MS} {w : View} {h1 : IH} {xs : List D} (I : Nat → En → IH → Prop) (e : fi en h = .ok w h1) (e2 : w h1 = some xs) (start : I 0 en h1) (hw : ∀ i en h, I i en h → w h = some xs)
    (step : ∀ i d en h, xs[i]? = some d → I i en h → ∃ en' h', (stepB gf b d en h = .nx en' h' ∨ stepB gf b d en h = .ct en' h') ∧ I (i + 1) en' h') : ∃ en' h', forS fi gf b en h = .nx en' h' ∧ I xs.length en' h' := by
  obtain ⟨en', h', q, z⟩ := forV_run I hw step xs.length 0 en h1 (by omega) start
  refine ⟨en', h', ?_, z⟩
  unfold forS
  rw [e]
  dsimp only [toS_ok]
  rw [e2]
  exact q
/-- a comprehension whose parts change nothing -/
theorem lcV_run {w : View} {p : Pat} {t : MT} {e : ME} {vs : List Nat} {en : En} {xs : List D} {h : IH} (g : D → En) (tb : D → Bool) (fe : D → D) (hw : w h = some xs) (hp : ∀ d ∈ xs, p.set d (wipeE en vs) = some (g d)) (ht : ∀ d ∈ xs, t (g d) h = .ok (tb d) h)
    (he : ∀ d ∈ xs, tb d = true → e (g d) h = .ok (fe d) h) (hz : xs.length < sizeLine) : ∀ n i ys, n + i = xs.length → ys.length ≤ i → lcV w p t e vs en n i ys h = .ok (ys ++ ((xs.drop i).filter tb).map fe) h := by
  intro n
  induction n with
  | zero =>
    intro i ys q _
    unfold lcV
    rw [hw]
    dsimp only
    rw [List.getElem?_eq_none (by omega), List.drop_eq_nil_of_le (by omega)]
    simp
  | succ n ih =>
    intro i ys q hy
    have hl : i < xs.length := by omega
    have hm : xs[i] ∈ xs := List.getElem_mem hl
    have ed : xs.drop i = xs[i] :: xs.drop (i + 1) := List.drop_eq_getElem_cons hl
    unfold lcV
    rw [hw]
    dsimp only
    rw [List.getElem?_eq_getElem hl]
    dsimp only
    rw [hp _ hm]
    dsimp only
    rw [ht _ hm]
    cases z : tb xs[i] with
    | false =>
      dsimp only
      rw [ih (i + 1) ys (by omega) (by omega), ed, List.filter_cons_of_neg (by rw [z]; decide)]
    | true =>
      dsimp only
      rw [he _ hm z]
      dsimp only
      rw [decide_eq_true (show ys.length < sizeLine by omega), grd_true, ih (i + 1) _ (by omega) (by rw [List.length_append]; simp; omega), ed, List.filter_cons_of_pos z]
      simp
theorem lcE_run {r : Bool} {fi : MV} {w : View} {p : Pat} {t : MT} {e : ME} {vs : List Nat} {en : En} {xs : List D} {h h1 : IH} (g : D → En) (tb : D → Bool) (fe : D → D) (hf : fi en h = .ok w h1) (hw : w h1 = some xs) (hp : ∀ d ∈ xs, p.set d (wipeE en vs) = some (g d)) (ht : ∀ d ∈ xs, t (g d) h1 = .ok (tb d) h1)
    (he : ∀ d ∈ xs, tb d = true → e (g d) h1 = .ok (fe d) h1) (hz : xs.length < sizeLine) : lcE r fi p t e vs en h = outL r ((xs.filter tb).map fe) h1 := by
  unfold lcE
  rw [hf, Out.bind_ok, hw]
  dsimp only
  rw [lcV_run g tb fe hw hp ht he hz xs.length 0 [] (by omega) (Nat.le_refl _), Out.bind_ok, List.nil_append, List.drop_zero]
@[simp] theorem outL_f {xs : List D} : outL false xs h = .ok (.vl xs) h := rfl
@[simp] theorem outL_t {xs : List D} : outL true xs h = .ok (.ref h.length) (h ++ [.lst xs]) := rfl
/-! ### lists, tuples -/
@[simp] theorem getL_vl {xs : List D} : getL h (.vl xs) = some xs := rfl
@[simp] theorem getL_fl {xs : List D} : getL h (.fl xs) = some xs := rfl
@[simp] theorem getL_tup {xs : List D} : getL h (.tup xs) = none := rfl
@[simp] theorem getT_tup {xs : List D} : getT (.tup xs) = some xs := rfl
@[simp] theorem getL_ref : getL h (.ref i) = lstAt h i := rfl
@[simp] theorem lstAt_last {xs : List D} : lstAt (h ++ [.lst xs]) h.length = some xs := by simp [lstAt]
theorem getL_lt {xs : List D} (e : lstAt h i = some xs) : i < h.length := by
  unfold lstAt at e
  cases q : h[i]? with
  | none => rw [q] at e; cases e
  | some o => exact (List.getElem?_eq_some_iff.mp q).1
theorem lstAt_app {xs : List D} {g : IH} (e : lstAt h i = some xs) : lstAt (h ++ g) i = some xs := by
  have hl := getL_lt e
  unfold lstAt at e ⊢
  rw [List.getElem?_append_left hl]
  exact e
theorem getL_app {xs : List D} {g : IH} (e : getL h d = some xs) : getL (h ++ g) d = some xs := by
  cases d <;> first | exact e | exact lstAt_app e
theorem getS_L {xs : List D} (e : getL h d = some xs) : getS h d = some xs := by
  unfold getS
  rw [e]
theorem isi_list {xs : List D} (e : getL h d = some xs) : isiD .list d h = .ok (.bl true) h := by
  cases d with
  | ref i =>
    have e : lstAt h i = some xs := e
    have z := lstAt_ok e
    unfold isiD isBT
    dsimp only
    rw [z]
  | vl _ => rfl
  | fl _ => rfl
  | _ => cases e
theorem lenD_e {xs : List D} (e : getS h d = some xs) : lenD [d] h = .ok (.int xs.length) h := by
  cases d with
  | tup ys => cases e; rfl
  | vl ys => cases e; rfl
  | fl ys => cases e; rfl
  | ref i =>
    show (match getS h (.ref i) with | some xs => Out.ok (D.int xs.length) h | none => .bad) = _
    rw [e]
  | _ => cases e
theorem atI_nat {α : Type} {xs : List α} {y : α} (e : xs[i]? = some y) : atI xs ((i : Nat) : Int) = some y := by
  have hl := (List.getElem?_eq_some_iff.mp e).1
  unfold atI ixN
  rw [if_pos (Int.natCast_nonneg _), if_pos (by exact_mod_cast hl)]
  show xs[((i : Nat) : Int).toNat]? = _
  rw [Int.toNat_natCast]
  exact e
theorem ixD_e {xs : List D} (e : getS h d = some xs) (e2 : xs[i]? = some y) : ixD d (.int (i : Nat)) h = .ok y h := by
  unfold ixD
  rw [e]
  dsimp only
  rw [atI_nat e2]
theorem ixD_i {xs : List D} {z : Int} (e : getS h d = some xs) (e2 : atI xs z = some y) : ixD d (.int z) h = .ok y h := by
  unfold ixD
  rw [e]
  dsimp only
  rw [e2]
@[simp] theorem getS_tup {xs : List D} : getS h (.tup xs) = some xs := rfl
@[simp] theorem getS_vl {xs : List D} : getS h (.vl xs) = some xs := rfl
@[simp] theorem getS_fl {xs : List D} : getS h (.fl xs) = some xs := rfl
/-! ### equality of data that is no object -/
mutual
def pl : D → Bool
  | .ref _ => false
  | .fl _ => false
  | .tup xs => pls xs
  | .vl xs => pls xs
  | .str _ => false
  | .non => true
  | .bl _ => true
  | .int _ => true
  | .wd _ => true
def pls : List D → Bool
  | [] => true
  | x :: xs => pl x && pls xs
end
mutual
def dep : D → Nat
  | .tup xs => deps xs + 1
  | .vl xs => deps xs + 1
  | _ => 0
def deps : List D → Nat
  | [] => 0
  | x :: xs => max (dep x) (deps xs)
end
mutual
theorem res_pl : ∀ (d : D) (n : Nat), pl d = true → dep d ≤ n → res h n d = some d
  | .non, n, _, _ => by cases n <;> rfl
  | .bl b, n, _, _ => by cases n <;> rfl
  | .int b, n, _, _ => by cases n <;> rfl
  | .wd b, n, _, _ => by cases n <;> rfl
  | .str s, _, e, _ => by cases e
  | .ref s, _, e, _ => by cases e
  | .fl s, _, e, _ => by cases e
  | .tup xs, n, e, q => by
    cases n with
    | zero => simp [dep] at q
    | succ n =>
      simp only [res]
      rw [ress_pl xs n e (by simp only [dep] at q; omega)]
      rfl
  | .vl xs, n, e, q => by
    cases n with
    | zero => simp [dep] at q
    | succ n =>
      simp only [res]
      rw [ress_pl xs n e (by simp only [dep] at q; omega)]
      rfl
theorem ress_pl : ∀ (xs : List D) (n : Nat), pls xs = true → deps xs ≤ n → optAll (res h n) xs = some xs
  | [], n, _, _ => rfl
  | x :: xs, n, e, q => by
    have e' := Bool.and_eq_true_iff.mp (show (pl x && pls xs) = true from e)
    simp only [deps] at q
    simp only [optAll]
    rw [res_pl x n e'.1 (by omega), ress_pl xs n e'.2 (by omega)]
end
theorem eqD_e (hx : pl x = true) (hy : pl y = true) (h1 : dep x ≤ 8) (h2 : dep y ≤ 8) : eqD x y h = .ok (.bl (eqW x y)) h := by
  unfold eqD dp
  rw [res_pl x 8 hx h1, res_pl y 8 hy h2]
theorem neD_e (hx : pl x = true) (hy : pl y = true) (h1 : dep x ≤ 8) (h2 : dep y ≤ 8) : neD x y h = .ok (.bl (!eqW x y)) h := by
  unfold neD dp
  rw [res_pl x 8 hx h1, res_pl y 8 hy h2]
/-- .. of a list, wherever it lies -/
theorem res_L {xs : List D} {n : Nat} (e : getL h d = some xs) (hx : pls xs = true) (h1 : deps xs ≤ n) : res h (n + 1) d = some (.vl xs) := by
  have z := ress_pl (h := h) xs n hx h1
  cases d with
  | vl ys => cases e; simp only [res]; rw [z]; rfl
  | fl ys => cases e; simp only [res]; rw [z]; rfl
  | ref i =>
    have e : lstAt h i = some xs := e
    simp only [res]
    rw [e]
    dsimp only
    rw [z]
    rfl
  | _ => cases e
theorem eqD_L {xs ys : List D} (e : getL h x = some xs) (e2 : getL h y = some ys) (hx : pls xs = true) (hy : pls ys = true) (h1 : deps xs ≤ 7) (h2 : deps ys ≤ 7) : eqD x y h = .ok (.bl (eqWs xs ys)) h := by
  unfold eqD dp
  rw [res_L e hx h1, res_L e2 hy h2]
  rfl
theorem neD_L {xs ys : List D} (e : getL h x = some xs) (e2 : getL h y = some ys) (hx : pls xs = true) (hy : pls ys = true) (h1 : deps xs ≤ 7) (h2 : deps ys ≤ 7) : neD x y h = .ok (.bl (!eqWs xs ys)) h := by
  unfold neD dp
  rw [res_L e hx h1, res_L e2 hy h2]
  rfl
theorem pls_ints (ns : List Int) : pls (ns.map D.int) = true := by
  induction ns with
  | nil => rfl
  | cons n ns ih => exact ih
theorem deps_ints (ns : List Int) : deps (ns.map D.int) = 0 := by
  induction ns with
  | nil => rfl
  | cons n ns ih => simp only [List.map_cons, deps, dep]; rw [ih]; rfl
mutual
theorem eqW_refl : ∀ (d : D), pl d = true → eqW d d = true
  | .non, _ => rfl
  | .bl b, _ => by simp [eqW]
  | .int b, _ => by simp [eqW]
  | .wd b, _ => by simp [eqW]
  | .str s, e => by cases e
  | .ref s, e => by cases e
  | .fl s, e => by cases e
  | .tup xs, e => eqWs_refl xs e
  | .vl xs, e => eqWs_refl xs e
theorem eqWs_refl : ∀ (xs : List D), pls xs = true → eqWs xs xs = true
  | [], _ => rfl
  | x :: xs, e => by
    have e' := Bool.and_eq_true_iff.mp (show (pl x && pls xs) = true from e)
    show (eqW x x && eqWs xs xs) = true
    rw [eqW_refl x e'.1, eqWs_refl xs e'.2]
    rfl
end
theorem optAll_id {f : D → Option D} : ∀ {xs : List D}, (∀ x ∈ xs, f x = some x) → optAll f xs = some xs
  | [], _ => rfl
  | x :: xs, e => by
    simp only [optAll]
    rw [e x List.mem_cons_self, optAll_id fun y hy => e y (List.mem_cons_of_mem _ hy)]
theorem fz_new {n m : Nat} {xs : List D} (e : lstAt h i = some xs) (hn : n ≤ i) (hx : ∀ x ∈ xs, clB n x = true) : fz n h (m + 1) (.ref i) = some (.vl xs) := by
  unfold fz
  rw [if_neg (by show ¬ decide (i < n) = true; simp; exact hn)]
  dsimp only
  rw [e]
  dsimp only
  rw [optAll_id fun x hx' => fz_cl (hx x hx')]
  rfl
theorem set_mid {g : IH} {o p : O} : (h ++ o :: g).set h.length p = h ++ p :: g := by simp
theorem set_far {g : IH} {o p : O} (e : h.length < i) : (h ++ o :: g).set i p = h ++ o :: g.set (i - h.length - 1) p := by
  rw [List.set_append, if_neg (by omega)]
  obtain ⟨k, rfl⟩ : ∃ k, i = h.length + 1 + k := ⟨i - h.length - 1, by omega⟩
  rw [show h.length + 1 + k - h.length = k + 1 by omega, show k + 1 - 1 = k by omega]
  rfl
theorem lstAt_mid {g : IH} {xs : List D} : lstAt (h ++ .lst xs :: g) h.length = some xs := by simp [lstAt]
theorem lstAt_set {xs : List D} (e : i < h.length) : lstAt (h.set i (.lst xs)) i = some xs := by simp [lstAt, e]
theorem lstAt_set_ne {o : O} (e : j ≠ i) : lstAt (h.set i o) j = lstAt h j := by
  unfold lstAt
  rw [List.getElem?_set_ne (Ne.symm e)]
theorem asBs_map : ∀ (bs : List Bool), asBs (bs.map D.bl) = some bs
  | [] => rfl
  | b :: bs => by
    have ih : optAll _ (bs.map D.bl) = some bs := asBs_map bs
    simp only [asBs, List.map_cons, optAll]
    rw [ih]
theorem asIs_map : ∀ (bs : List Int), asIs (bs.map D.int) = some bs
  | [] => rfl
  | b :: bs => by
    have ih : optAll _ (bs.map D.int) = some bs := asIs_map bs
    simp only [asIs, List.map_cons, optAll]
    rw [ih]
theorem allD_e {bs : List Bool} (e : getL h d = some (bs.map D.bl)) : allD d h = .ok (.bl (bs.all id)) h := by
  unfold allD
  rw [e]
  dsimp only
  rw [asBs_map]
theorem sumD_e {bs : List Int} (e : getL h d = some (bs.map D.int)) : sumD d h = .ok (.int bs.sum) h := by
  unfold sumD
  rw [e]
  dsimp only
  rw [asIs_map]
theorem seqV_L {xs : List D} {h1 : IH} (e : f en h = .ok d h1) (e2 : getL h1 d = some xs) : seqV f en h = .ok (fun h => getL h d) h1 := by
  unfold seqV
  rw [e, Out.bind_ok, e2]
theorem whV_run {t : MT} {b : MS} (I : Nat → En → IH → Prop) (Qd : En → IH → Prop)
    (step : ∀ m en h, I m en h → (t en h = .ok false h ∧ Qd en h) ∨ (t en h = .ok true h ∧ ∃ en' h' m', (b en h = .nx en' h' ∨ b en h = .ct en' h') ∧ m' < m ∧ I m' en' h')) : ∀ fuel m en h, m < fuel → I m en h → ∃ en' h', whV t b fuel en h = .nx en' h' ∧ Qd en' h' := by
  intro fuel
  induction fuel with
  | zero => intro m en h hm; omega
  | succ n ih =>
    intro m en h hm hi
    unfold whV
    rcases step m en h hi with ⟨e, q⟩ | ⟨e, en1, h1, m1, e2, hlt, hi1⟩
    · exact ⟨en, h, by rw [e]; rfl, q⟩
    · obtain ⟨en2, h2, e3, q⟩ := ih m1 en1 h1 (by omega) hi1
      refine ⟨en2, h2, ?_, q⟩
      rw [e]
      dsimp only [toS_ok]
      rcases e2 with e2 | e2 <;> (rw [e2]; exact e3)
theorem rangeL_nat (lo n : Nat) : rangeL ((lo : Nat) : Int) n = (List.range' lo n).map fun k => D.int ((k : Nat) : Int) := by
  unfold rangeL
  rw [List.range'_eq_map_range, List.map_map]
  congr 1
theorem addL_e {a b : List D} {r : Bool} (e1 : getM h x = some a) (e2 : getM h y = some b) (hz : a.length + b.length ≤ sizeLine) : addD r x y h = outL r (a ++ b) h := by
  have z : addL r x y h = outL r (a ++ b) h := by
    unfold addL
    rw [e1, e2]
    dsimp only
    rw [decide_eq_true hz]
    rfl
  unfold addD
  rw [z]
  cases x with
  | vl _ =>
    cases y <;> first | (cases r <;> rfl) | (cases e2)
  | ref _ =>
    cases y <;> first | (cases r <;> rfl) | (cases e2)
  | _ => cases e1
@[simp] theorem getM_vl {xs : List D} : getM h (.vl xs) = some xs := rfl
theorem lcV_map {α : Type} {w : View} {p : Pat} {t : MT} {e : ME} {vs : List Nat} {en : En} {h : IH} (ks : List α) (c : α → D) (g : α → En) (P : α → Bool) (fe : α → D) (hw : w h = some (ks.map c)) (hp : ∀ k ∈ ks, p.set (c k) (wipeE en vs) = some (g k))
    (ht : ∀ k ∈ ks, t (g k) h = .ok (P k) h) (he : ∀ k ∈ ks, P k = true → e (g k) h = .ok (fe k) h) (hz : ks.length < sizeLine) : ∀ n i ys, n + i = ks.length → ys.length ≤ i → lcV w p t e vs en n i ys h = .ok (ys ++ ((ks.drop i).filter P).map fe) h := by
  intro n
  induction n with
  | zero =>
    intro i ys q _
    unfold lcV
    rw [hw]
    dsimp only
    rw [List.getElem?_eq_none (by rw [List.length_map]; omega), List.drop_eq_nil_of_le (by omega)]
    simp
  | succ n ih =>
    intro i ys q hy
    have hl : i < ks.length := by omega
    have hm : ks[i] ∈ ks := List.getElem_mem hl
    have ed : ks.drop i = ks[i] :: ks.drop (i + 1) := List.drop_eq_getElem_cons hl
    unfold lcV
    rw [hw]
    dsimp only
    rw [List.getElem?_map, List.getElem?_eq_getElem hl]
    dsimp only [Option.map_some]
    rw [hp _ hm]
    dsimp only
    rw [ht _ hm]
    cases z : P ks[i] with
    | false =>
      dsimp only
      rw [ih (i + 1) ys (by omega) (by omega), ed, List.filter_cons_of_neg (by rw [z]; decide)]
    | true =>
      dsimp only
      rw [he _ hm z]
      dsimp only
      rw [decide_eq_true (show ys.length < sizeLine by omega), grd_true, ih (i + 1) _ (by omega) (by rw [List.length_append]; simp; omega), ed, List.filter_cons_of_pos z]
      simp
theorem lcE_map {α : Type} {r : Bool} {fi : MV} {w : View} {p : Pat} {t : MT} {e : ME} {vs : List Nat} {en : En} {h h1 : IH} (ks : List α) (c : α → D) (g : α → En) (P : α → Bool) (fe : α → D) (hf : fi en h = .ok w h1) (hw : w h1 = some (ks.map c)) (hp : ∀ k ∈ ks, p.set (c k) (wipeE en vs) = some (g k))
    (ht : ∀ k ∈ ks, t (g k) h1 = .ok (P k) h1) (he : ∀ k ∈ ks, P k = true → e (g k) h1 = .ok (fe k) h1) (hz : ks.length < sizeLine) : lcE r fi p t e vs en h = outL r ((ks.filter P).map fe) h1 := by
  unfold lcE
  rw [hf, Out.bind_ok, hw]
  dsimp only
  rw [List.length_map, lcV_map ks c g P fe hw hp ht he hz ks.length 0 [] (by omega) (Nat.le_refl _), Out.bind_ok, List.nil_append, List.drop_zero]
theorem slD_L {xs : List D} {lo hi : Option Int} {r : Bool} (e : getL h d = some xs) : slD r d lo hi h = outL r (cutL xs lo hi) h := by
  unfold slD
  rw [e]
theorem cutL_take {xs : List D} {c : Nat} : cutL xs none (some ((c : Nat) : Int)) = xs.take c := by
  unfold cutL
  rw [HT.sIx_none, HT.sIx_nat, List.drop_zero, Nat.sub_zero]
  by_cases h : c ≤ xs.length
  · rw [Nat.min_eq_left h]
  · rw [Nat.min_eq_right (by omega), List.take_length, List.take_of_length_le (by omega)]
end
end DL

set_option Elab.async false
set_option linter.all false
set_option maxRecDepth 100000
set_option autoImplicit false
set_option maxHeartbeats 1000000
/-! sorted(), dicts, backwards. -/
namespace DL
open PySem PySem.Spec PyProof.Rows L2
/-! ### ints in order -/
def insI (a : Int) : List Int → List Int
  | [] => [a]
  | b :: l => if a ≤ b then a :: b :: l else b :: insI a l
def sortI : List Int → List Int
  | [] => []
  | a :: l => insI a (sortI l)
theorem insI_perm (a : Int) : ∀ l : List Int, (insI a l).Perm (a :: l)
  | [] => .refl _
  | b :: l => by
    unfold insI
    split
    · exact .refl _
    · exact ((insI_perm a l).cons b).trans (.swap a b l)
theorem sortI_perm : ∀ l : List Int, (sortI l).Perm l
  | [] => .refl _
  | a :: l => (insI_perm a _).trans ((sortI_perm l).cons a)
theorem insI_sorted (a : Int) : ∀ {l : List Int}, l.Pairwise (· ≤ ·) → (insI a l).Pairwise (· ≤ ·)
  | [], _ => List.pairwise_singleton _ _
  | b :: l, h => by
    obtain ⟨h1, h2⟩ := List.pairwise_cons.mp h
    unfold insI
    split
    · rename_i q
      refine List.pairwise_cons.mpr ⟨fun x hx => ?_, h⟩
      rcases List.mem_cons.mp hx with z | z
      · rw [z]; exact q
      · exact Int.le_trans q (h1 x z)
    · rename_i q
      refine List.pairwise_cons.mpr ⟨fun x hx => ?_, insI_sorted a h2⟩
      rcases List.mem_cons.mp ((insI_perm a l).mem_iff.mp hx) with z | z
      · rw [z]; omega
      · exact h1 x z
theorem sortI_sorted : ∀ l : List Int, (sortI l).Pairwise (· ≤ ·)
  | [] => .nil
  | a :: l => insI_sorted a (sortI_sorted l)
theorem sorted_uniq : ∀ {a b : List Int}, a.Perm b → a.Pairwise (· ≤ ·) → b.Pairwise (· ≤ ·) → a = b
  | [], b, p, _, _ => by rw [List.nil_perm.mp p]
  | x :: a, [], p, _, _ => absurd p.length_eq (by simp)
  | x :: a, y :: b, p, h1, h2 => by
    obtain ⟨u1, u2⟩ := List.pairwise_cons.mp h1
    obtain ⟨v1, v2⟩ := List.pairwise_cons.mp h2
    have hxy : x = y := by
      have e1 : x ∈ y :: b := p.mem_iff.mp List.mem_cons_self
      have e2 : y ∈ x :: a := p.mem_iff.mpr List.mem_cons_self
      rcases List.mem_cons.mp e1 with z | z
      · exact z
      · rcases List.mem_cons.mp e2 with w | w
        · exact w.symm
        · have := v1 x z
          have := u1 y w
          omega
    subst hxy
    rw [sorted_uniq ((List.perm_cons x).mp p) u2 v2]
theorem sortI_of {a b : List Int} (p : a.Perm b) (h : a.Pairwise (· ≤ ·)) : a = sortI b := sorted_uniq (p.trans (sortI_perm b).symm) h (sortI_sorted b)
/-- each once -/
def insU (a : Int) : List Int → List Int
  | [] => [a]
  | b :: l => if a < b then a :: b :: l else if a = b then b :: l else b :: insU a l
def sortU : List Int → List Int
  | [] => []
  | a :: l => insU a (sortU l)
theorem insU_mem (a x : Int) : ∀ l : List Int, x ∈ insU a l ↔ x = a ∨ x ∈ l
  | [] => by simp [insU]
  | b :: l => by
    unfold insU
    split
    · simp
    · split
      · rename_i q; subst q; simp
      · rw [List.mem_cons, insU_mem a x l, List.mem_cons]
        constructor
        · rintro (z | z | z)
          · exact .inr (.inl z)
          · exact .inl z
          · exact .inr (.inr z)
        · rintro (z | z | z)
          · exact .inr (.inl z)
          · exact .inl z
          · exact .inr (.inr z)
theorem sortU_mem (x : Int) : ∀ l : List Int, x ∈ sortU l ↔ x ∈ l
  | [] => Iff.rfl
  | a :: l => by
    show x ∈ insU a (sortU l) ↔ _
    rw [insU_mem, sortU_mem x l, List.mem_cons]
theorem insU_sorted (a : Int) : ∀ {l : List Int}, l.Pairwise (· < ·) → (insU a l).Pairwise (· < ·)
  | [], _ => List.pairwise_singleton _ _
  | b :: l, h => by
    obtain ⟨h1, h2⟩ := List.pairwise_cons.mp h
    unfold insU
    split
    · rename_i q
      refine List.pairwise_cons.mpr ⟨fun x hx => ?_, h⟩
      rcases List.mem_cons.mp hx with z | z
      · rw [z]; exact q
      · exact Int.lt_trans q (h1 x z)
    · split
      · exact h
      · rename_i q1 q2
        refine List.pairwise_cons.mpr ⟨fun x hx => ?_, insU_sorted a h2⟩
        rcases (insU_mem a x l).mp hx with z | z
        · rw [z]; omega
        · exact h1 x z
theorem sortU_sorted : ∀ l : List Int, (sortU l).Pairwise (· < ·)
  | [] => .nil
  | a :: l => insU_sorted a (sortU_sorted l)
theorem strict_uniq : ∀ {a b : List Int}, (∀ x, x ∈ a ↔ x ∈ b) → a.Pairwise (· < ·) → b.Pairwise (· < ·) → a = b
  | [], [], _, _, _ => rfl
  | [], y :: b, p, _, _ => by have := (p y).mpr List.mem_cons_self; cases this
  | x :: a, [], p, _, _ => by have := (p x).mp List.mem_cons_self; cases this
  | x :: a, y :: b, p, h1, h2 => by
    obtain ⟨u1, u2⟩ := List.pairwise_cons.mp h1
    obtain ⟨v1, v2⟩ := List.pairwise_cons.mp h2
    have hxy : x = y := by
      rcases List.mem_cons.mp ((p x).mp List.mem_cons_self) with z | z
      · exact z
      · rcases List.mem_cons.mp ((p y).mpr List.mem_cons_self) with w | w
        · exact w.symm
        · have := v1 x z
          have := u1 y w
          omega
    subst hxy
    have : a = b := strict_uniq (fun z => by
      constructor
      · intro hz
        have hz' := u1 z hz
        rcases List.mem_cons.mp ((p z).mp (List.mem_cons_of_mem _ hz)) with w | w
        · omega
        · exact w
      · intro hz
        have hz' := v1 z hz
        rcases List.mem_cons.mp ((p z).mpr (List.mem_cons_of_mem _ hz)) with w | w
        · omega
        · exact w) u2 v2
    rw [this]
theorem sortU_of {a b : List Int} (p : ∀ x, x ∈ a ↔ x ∈ b) (h : a.Pairwise (· < ·)) : a = sortU b := strict_uniq (fun x => (p x).trans (sortU_mem x b).symm) h (sortU_sorted b)
section
variable {X : Cx} {T : TF} {E : XK} {a b c e o : Expr} {es rest : List Expr} {pos : Pos} {f k l : ME}
/-- sorted(x), a list of ints -/
def sortID (x : D) (h : IH) : Out D := match getL h x with
  | some xs => (match asIs xs with
    | some ns => .ok (.vl ((sortI ns).map .int)) h
    | none => .bad)
  | none => .bad
theorem de_sortI {t : MA} {p : Pos} (hc : X.calm = true) (hm : X.mg "sorted" = none) (ha : DA X T E [e] t) (hg : Gl X "sorted" := by rfl) (he : starEach (e :: []) X.env = (false, eval e X.env) :: starEach [] X.env := by rfl) : DE X T E (.Call (.Name "sorted" p) [e] [] pos) (callB (one sortID) t) :=
  de_callB cr_sortedI (one_ok fun m h H v d E Q rh r p => by
    unfold sortID at p
    cases e : getL h d with
    | none => rw [e] at p; exact p.elim
    | some xs =>
      rw [e] at p
      cases e2 : asIs xs with
      | none => dsimp only at p; rw [e2] at p; exact p.elim
      | some ns =>
        dsimp only at p
        rw [e2] at p
        obtain ⟨a, vs, rfl, s, r2⟩ := getL_ok rh r e
        rw [asIs_ok e2] at r2
        rw [r2.ints] at s
        refine ⟨a, ns, rfl, s, fun ns' q pm pw hq => ?_⟩
        rw [sortI_of pm pw]
        exact Post.vl p rh (Rvs.of_ints _) hq) hm (by decide +kernel) ha hg (by decide) (by decide) he
/-- x[::-1] -/
def revD (r : Bool) (x : D) (h : IH) : Out D := match getL h x with
  | some xs => outL r xs.reverse h
  | none => .bad
theorem de_rev (r : Bool) {k : Nat} {p1 p2 p3 : Pos} (ha : DE X T E e f) : DE X T E (.Subscript e (.Slice none none (some (.UnaryOp .USub (.Constant (.int 1) k p1) p2)) p3) pos) (op1 (revD r) f) :=
  PE.imp (pe_revL ha) fun σ H Q ⟨m, h, en, rel, p⟩ => chain rel p fun m1 h1 H1 v d e1 rel1 rv1 p1 => by
    unfold revD at p1
    cases q : getL h1 d with
    | none => rw [q] at p1; exact p1.elim
    | some xs =>
      rw [q] at p1
      obtain ⟨a, vs, rfl, s, r2⟩ := getL_ok rel1.rh rv1 q
      exact ⟨a, vs, rfl, s, fun z hz => Post.outL p1 rel1.rh r2.reverse hz⟩
/-- int(x), a truth or an int -/
def intD (x : D) (h : IH) : Out D := match x with
  | .int i => .ok (.int i) h
  | .bl b => .ok (.int (if b then 1 else 0)) h
  | _ => .bad
theorem de_intB {t : MA} {p : Pos} (hm : X.mg "int" = none) (ha : DA X T E [e] t) (hg : Gl X "int" := by rfl) (he : starEach (e :: []) X.env = (false, eval e X.env) :: starEach [] X.env := by rfl) : DE X T E (.Call (.Name "int" p) [e] [] pos) (callB (one intD) t) :=
  de_callTy call_int1 (one_ok fun m h H v d E Q rh r p => by
    cases d with
    | int i => cases r; exact .inl ⟨i, rfl, Post.val p rh (.int _)⟩
    | bl b => cases r; exact .inr ⟨b, rfl, Post.val p rh (.int _)⟩
    | _ => exact p.elim) hm (by decide +kernel) ha hg (by decide) (by decide) he
end
/-! ### dicts -/
def dctAt (h : IH) : D → Option (Nat × List (DK × D))
  | .ref i => match h[i]? with
    | some (.dct kvs) => some (i, kvs)
    | _ => none
  | _ => none
theorem dctAt_ok {h : IH} {d : D} {i : Nat} {kvs : List (DK × D)} (e : dctAt h d = some (i, kvs)) : d = .ref i ∧ h[i]? = some (.dct kvs) := by
  cases d with
  | ref j =>
    unfold dctAt at e
    dsimp only at e
    split at e
    · rename_i q
      cases e
      exact ⟨rfl, q⟩
    · cases e
  | _ => cases e
def dkOf : D → Option DK
  | .int i => some (.inl i)
  | .wd n => some (.inr n)
  | _ => none
def DKok (k : DK) : Prop := ∀ w, k = .inr w → w < nW
theorem dkOf_ok {K : PySem.W.Frag} {m : Mp} {n : Nat} {H : Hp} {v : V} {d : D} {k : DK} (e : dkOf d = some k) (r : Rv K m n H v d) : v = kV (dkey k) ∧ DKok k := by
  cases r with
  | int i => cases e; exact ⟨rfl, fun w z => by cases z⟩
  | wd h1 h2 => cases e; exact ⟨by rw [h2]; rfl, fun w z => by cases z; exact h1⟩
  | _ => cases e
theorem dkey_inj {a b : DK} (ha : DKok a) (hb : DKok b) (e : dkey a = dkey b) : a = b := by
  cases a with
  | inl i =>
    cases b with
    | inl j => cases e; rfl
    | inr n => cases e
  | inr n =>
    cases b with
    | inl j => cases e
    | inr k =>
      have e : wds n = wds k := by injection e
      rw [words_nd n (ha n rfl) k (hb k rfl) e]
def dval (kvs : List (DK × D)) (k : DK) : Option D := (kvs.find? fun p => decide (p.1 = k)).map (·.2)
def dput (kvs : List (DK × D)) (k : DK) (v : D) : List (DK × D) := if (kvs.any fun p => decide (p.1 = k)) = true then kvs.map (fun p => if p.1 = k then (p.1, v) else p) else kvs ++ [(k, v)]
def ddrop (kvs : List (DK × D)) (k : DK) : List (DK × D) := kvs.filter fun p => decide (p.1 ≠ k)
section
variable {K : PySem.W.Frag} {m : Mp} {n : Nat} {H : Hp} {l : List (Key × V)} {l' : List (DK × D)} {k : DK}
theorem key_dec {p : Key × V} {q : DK × D} (h : p.1 = dkey q.1 ∧ (∀ w, q.1 = .inr w → w < nW) ∧ Rv K m n H p.2 q.2) (hk : DKok k) : decide (p.1 = dkey k) = decide (q.1 = k) := by
  rw [h.1]
  by_cases e : q.1 = k
  · rw [e]; simp
  · rw [decide_eq_false e, decide_eq_false fun z => e (dkey_inj h.2.1 hk z)]
theorem RPs.val (r : RPs K m n H l l') (hk : DKok k) : (dval l' k = none ∧ valV l (dkey k) = none) ∨ ∃ d v, dval l' k = some d ∧ valV l (dkey k) = some v ∧ Rv K m n H v d := by
  induction r with
  | nil => exact .inl ⟨rfl, rfl⟩
  | cons h _ ih =>
    rename_i p q l l' _
    have e := key_dec h hk
    unfold dval valV
    rw [List.find?_cons, List.find?_cons, e]
    cases decide (q.1 = k) with
    | true => exact .inr ⟨_, _, rfl, rfl, h.2.2⟩
    | false => exact ih
theorem RPs.anyK (r : RPs K m n H l l') (hk : DKok k) : (l.any fun kv => decide (kv.1 = dkey k)) = (l'.any fun p => decide (p.1 = k)) := by
  induction r with
  | nil => rfl
  | cons h _ ih => rw [List.any_cons, List.any_cons, key_dec h hk, ih]
theorem RPs.put (r : RPs K m n H l l') (hk : DKok k) {v : V} {d : D} (rv : Rv K m n H v d) : RPs K m n H (putK l (dkey k) v) (dput l' k d) := by
  unfold putK dput
  rw [r.anyK hk]
  split
  · rename_i hx
    clear hx
    induction r with
    | nil => exact .nil
    | cons h _ ih =>
      rename_i p q l l' _
      refine .cons ?_ ih
      have e := key_dec h hk
      dsimp only
      by_cases z : q.1 = k
      · have z2 : p.1 = dkey k := of_decide_eq_true (by rw [e]; exact decide_eq_true z)
        rw [if_pos z, if_pos z2]
        exact ⟨h.1, h.2.1, rv⟩
      · have z2 : ¬ p.1 = dkey k := of_decide_eq_false (by rw [e]; exact decide_eq_false z)
        rw [if_neg z, if_neg z2]
        exact h
  · rename_i hx
    clear hx
    induction r with
    | nil => exact .cons ⟨rfl, hk, rv⟩ .nil
    | cons h _ ih => exact .cons h ih
theorem RPs.drop (r : RPs K m n H l l') (hk : DKok k) : RPs K m n H (dropK l (dkey k)) (ddrop l' k) := by
  unfold dropK ddrop
  induction r with
  | nil => exact .nil
  | cons h _ ih =>
    rename_i p q l l' _
    have e := key_dec h hk
    have e' : decide (p.1 ≠ dkey k) = decide (q.1 ≠ k) := by
      by_cases z : q.1 = k
      · have z2 : p.1 = dkey k := of_decide_eq_true (by rw [e]; exact decide_eq_true z)
        rw [decide_eq_false (fun y => y z2), decide_eq_false (fun y => y z)]
      · have z2 : ¬ p.1 = dkey k := of_decide_eq_false (by rw [e]; exact decide_eq_false z)
        rw [decide_eq_true z2, decide_eq_true z]
    rw [List.filter_cons, List.filter_cons, e']
    split
    · exact .cons h ih
    · exact ih
theorem RPs.length (r : RPs K m n H l l') : l.length = l'.length := by
  induction r with
  | nil => rfl
  | cons _ _ ih => simp [ih]
end
theorem dct_store {g : G} {m : Mp} {h : IH} {H : Hp} {i : Nat} {kvs kvs' : List (DK × D)} {l : List (Key × V)} (rh : RH g m h H) (hi : h[i]? = some (.dct kvs)) (r : RPs g.K m h.length H l kvs') : Ex m h.length H m (h.set i (.dct kvs')).length (upd H (m i) (.dK l)) ∧ RH g m (h.set i (.dct kvs')) (upd H (m i) (.dK l)) := by
  have hl : i < h.length := (List.getElem?_eq_some_iff.mp hi).1
  have ex := Ex.store (o := .dK l) rh hl NT.dK
  refine ⟨by rw [List.length_set]; exact ex, rh.store hl NT.dK (fun _ => rh.fz1 i _ hi (fun _ z => by cases z) (fun _ _ z => by cases z)) ⟨l, upd_same, r.mono ex⟩ (fun _ _ z => by rw [hi] at z; cases z)⟩
section
variable {X : Cx} {T : TF} {E : XK} {a b c e o : Expr} {es rest : List Expr} {pos : Pos} {f k l : ME}
def dnewE : ME := fun _ h => .ok (.ref h.length) (h ++ [.dct []])
theorem de_dnew : DE X T E (.Dict [] [] pos) dnewE := PE.imp pe_dnewK fun σ H Q ⟨m, h, en, rel, p⟩ q hq => by
  have hl : (h ++ [O.dct []]).length = h.length + 1 := by simp
  have hk := upd_keeps (o := .dK []) hq
  have ex : Ex m h.length H (put m h.length q) (h ++ [O.dct []]).length (upd H q (.dK [])) := by rw [hl]; exact Ex.alloc hq hk
  refine p (put m h.length q) _ _ ex (rel.rh.alloc hq hk ⟨[], upd_same, .nil⟩) ?_
  have z : Rv X.K (put m h.length q) (h ++ [O.dct []]).length (upd H q (.dK [])) (.ref (put m h.length q h.length)) (.ref h.length) := .ref (by rw [hl]; omega)
  rw [put_same] at z
  exact z
def dgetD : D → D → IH → Out D := fun x y h => match dctAt h x, dkOf y with
  | some (_, kvs), some k => (match dval kvs k with
    | some v => .ok v h
    | none => .bad)
  | _, _ => .bad
theorem de_dget {nr : Nat} (hr : Room nr X.A) (ha : DE X T E a f) (hb : DE X T E b k) (hp : NoSl b := by exact fun _ _ => rfl) : DE X T E (.Subscript a b pos) (op2 dgetD f k) :=
  PE.imp (pe_dget (by have := hr.un; omega) ha hb hp) fun σ H Q ⟨m, h, en, rel, p⟩ => chain rel p fun m1 h1 H1 v d e1 rel1 rv1 p1 => chain rel1 p1 fun m2 h2 H2 w d2 e2 rel2 rv2 p2 => by
    unfold dgetD at p2
    cases q : dctAt h2 d with
    | none => rw [q] at p2; exact p2.elim
    | some ik =>
      obtain ⟨i, kvs⟩ := ik
      rw [q] at p2
      cases q2 : dkOf d2 with
      | none => rw [q2] at p2; exact p2.elim
      | some kk =>
        rw [q2] at p2
        dsimp only at p2
        obtain ⟨rfl, hi⟩ := dctAt_ok q
        obtain ⟨ew, hk⟩ := dkOf_ok q2 rv2
        obtain ⟨l, z1, z2⟩ := rel2.rh.obj i _ hi
        cases rv1.mono e2
        rcases z2.val hk with ⟨u1, u2⟩ | ⟨x, v, u1, u2, u3⟩
        · rw [u1] at p2; exact p2.elim
        · rw [u1] at p2
          exact ⟨_, v, rfl, .inl ⟨l, dkey kk, .inl z1, ew, u2.symm⟩, Post.val p2 rel2.rh u3⟩
/-- x.get(k, d) -/
def dgetE (f k l : ME) : ME := fun en h => (f en h).bind fun x h1 => grd ((dctAt h1 x).isSome) ((k en h1).bind fun y h2 => (l en h2).bind fun z h3 => match dctAt h3 x, dkOf y with
  | some (_, kvs), some k => .ok ((dval kvs k).getD z) h3
  | _, _ => .bad)
theorem de_dgetd {nr : Nat} {apos : Pos} (hr : Room nr X.A) (ha : DE X T E a f) (hb : DE X T E b k) (hc : DE X T E c l) (hm : M2 X a "get" apos b c pos := by exact ⟨rfl, rfl, rfl, rfl⟩) : DE X T E (.Call (.Attribute a "get" apos) [b, c] [] pos) (dgetE f k l) :=
  PE.imp (pe_dget2 (by have := hr.un; omega) ha hb hc hm) fun σ H Q ⟨m, h, en, rel, p⟩ => chain rel p fun m1 h1 H1 v d e1 rel1 rv1 p1 => by
    obtain ⟨hs, p1⟩ := Post.grd p1
    obtain ⟨⟨i, kvs⟩, q⟩ := Option.isSome_iff_exists.mp hs
    obtain ⟨rfl, hi⟩ := dctAt_ok q
    obtain ⟨l1, z1, z2⟩ := rel1.rh.obj i _ hi
    cases rv1 with
    | ref hlt =>
      refine ⟨m1 i, rfl, .inl ⟨l1, .inl z1⟩, chain rel1 p1 fun m2 h2 H2 w d2 e2 rel2 rv2 p2 => chain rel2 p2 fun m3 h3 H3 u d3 e3 rel3 rv3 p3 => ?_⟩
      cases q3 : dctAt h3 (.ref i) with
      | none => rw [q3] at p3; exact p3.elim
      | some ik =>
        obtain ⟨j, kvs3⟩ := ik
        rw [q3] at p3
        cases q2 : dkOf d2 with
        | none => rw [q2] at p3; exact p3.elim
        | some kk =>
          rw [q2] at p3
          dsimp only at p3
          obtain ⟨ej, hi3⟩ := dctAt_ok q3
          cases ej
          obtain ⟨ew, hk⟩ := dkOf_ok q2 rv2
          obtain ⟨l3, y1, y2⟩ := rel3.rh.obj i _ hi3
          have em : m3 i = m1 i := (e3.same i (Nat.lt_of_lt_of_le hlt e2.le)).trans (e2.same i hlt)
          rw [em] at y1
          rcases y2.val hk with ⟨u1, u2⟩ | ⟨x, v, u1, u2, u3⟩
          · rw [u1] at p3
            exact ⟨none, .inl ⟨l3, dkey kk, .inl y1, ew, u2.symm⟩, Post.val p3 rel3.rh rv3⟩
          · rw [u1] at p3
            exact ⟨some v, .inl ⟨l3, dkey kk, .inl y1, ew, u2.symm⟩, Post.val p3 rel3.rh u3⟩
/-- x[k] = v, x a dict -/
def dputD (x y v : D) (h : IH) : Out Unit := match dctAt h x, dkOf y with
  | some (i, kvs), some k => grd (decide (kvs.length < sizeLine)) (.ok () (h.set i (.dct (dput kvs k v))))
  | _, _ => .bad
def dsetS (fv fo fi : ME) : MS := fun en h => (fv en h).toS fun v h1 => (fo en h1).toS fun x h2 => (fi en h2).toS fun i h3 => (dputD x i v h3).toS fun _ h4 => .nx en h4
theorem ds_dset {nr : Nat} {fv fo fi : ME} {i : Expr} {ipos : Pos} (hr : Room nr X.A) (hv : DE X T E a fv) (ho : DE X T E o fo) (hi : DE X T E i fi) (hs : swapsWith a (some (.Subscript o i ipos)) pos.line X.env = pure false := by rfl) : DS X T E (.Assign [.Subscript o i ipos] a pos) (dsetS fv fo fi) :=
  PS.imp (ps_dput (by have := hr.un; omega) ho hi hv hs) fun D σ H ⟨m, h, en, rel, p⟩ => chainS rel p fun m1 h1 H1 v d e1 rel1 rv1 p1 => chainS rel1 p1 fun m2 h2 H2 ov od e2 rel2 rv2 p2 => chainS rel2 p2 fun m3 h3 H3 iv id e3 rel3 rv3 p3 => by
    unfold dputD at p3
    cases q : dctAt h3 od with
    | none => rw [q] at p3; exact p3.elim
    | some z =>
      obtain ⟨j, kvs⟩ := z
      rw [q] at p3
      cases q2 : dkOf id with
      | none => rw [q2] at p3; exact p3.elim
      | some kk =>
        rw [q2] at p3
        dsimp only at p3
        by_cases hz : kvs.length < sizeLine
        · rw [grd_of _ (decide_eq_true hz)] at p3
          obtain ⟨rfl, hj⟩ := dctAt_ok q
          obtain ⟨ew, hk⟩ := dkOf_ok q2 rv3
          obtain ⟨l3, y1, y2⟩ := rel3.rh.obj j _ hj
          cases rv2.mono e3
          have rv : Rv X.K m3 h3.length H3 v d := (rv1.mono e2).mono e3
          obtain ⟨ex, rh'⟩ := dct_store rel3.rh hj (y2.put hk rv)
          refine ⟨_, _, rfl, .inl ⟨l3, dkey kk, y1, ew, by rw [y2.length]; exact hz, rfl⟩, p3 m3 _ σ ex (rel3.next ex rh')⟩
        · rw [decide_eq_false hz] at p3
          exact p3.elim
/-- sorted(x), a dict whose keys are ints -/
def ikeys : List (DK × D) → Option (List Int) := fun kvs => optAll (fun d => match d with | .inl i => some i | .inr _ => none) (kvs.map (·.1))
theorem ikeys_ok : ∀ {kvs : List (DK × D)} {ks : List Int}, ikeys kvs = some ks → kvs.map (·.1) = ks.map Sum.inl := fun {kvs ks} e => by
  have q := optAll_ok e
  unfold ikeys at e
  clear e
  generalize kvs.map (·.1) = l at q
  induction q with
  | nil => rfl
  | cons h _ ih =>
    rename_i x y _ _ _
    rw [List.map_cons, ih]
    cases x with
    | inl i => cases h; rfl
    | inr n => cases h
def sortDD (x : D) (h : IH) : Out D := match dctAt h x with
  | some (_, kvs) => (match ikeys kvs with
    | some ks => grd (decide (ks.length < 64)) (.ok (.vl ((sortI ks).map .int)) h)
    | none => .bad)
  | none => .bad
theorem RPs.keys {K : PySem.W.Frag} {m : Mp} {n : Nat} {H : Hp} {l : List (Key × V)} {l' : List (DK × D)} (r : RPs K m n H l l') : l.map (·.1) = (l'.map (·.1)).map dkey := by
  induction r with
  | nil => rfl
  | cons h _ ih => rw [List.map_cons, List.map_cons, List.map_cons, ih, h.1]
theorem de_sortD {t : MA} {p : Pos} (hc : X.calm = true) (hm : X.mg "sorted" = none) (ha : DA X T E [e] t) (hg : Gl X "sorted" := by rfl) (he : starEach (e :: []) X.env = (false, eval e X.env) :: starEach [] X.env := by rfl) : DE X T E (.Call (.Name "sorted" p) [e] [] pos) (callB (one sortDD) t) :=
  de_callB (call_sortedDI hc) (one_ok fun m h H v d E Q rh r p => by
    unfold sortDD at p
    cases q : dctAt h d with
    | none => rw [q] at p; exact p.elim
    | some z =>
      obtain ⟨i, kvs⟩ := z
      rw [q] at p
      dsimp only at p
      cases q2 : ikeys kvs with
      | none => rw [q2] at p; exact p.elim
      | some ks =>
        rw [q2] at p
        dsimp only at p
        obtain ⟨hz, p⟩ := Post.grd p
        obtain ⟨rfl, hi⟩ := dctAt_ok q
        obtain ⟨l, y1, y2⟩ := rh.obj i _ hi
        cases r
        refine ⟨_, l, ks, rfl, .inl y1, ?_, of_decide_eq_true hz, fun ys z pm pw hq => ?_⟩
        · rw [y2.keys, ikeys_ok q2, List.map_map]
          rfl
        · rw [sortI_of pm pw]
          exact Post.vl p rh (Rvs.of_ints _) hq) hm (by decide +kernel) ha hg (by decide) (by decide) he
end
end DL

set_option Elab.async false
set_option linter.all false
set_option maxRecDepth 100000
set_option autoImplicit false
set_option maxHeartbeats 4000000
/-! sorted(set(x)), x a list of ints. -/
namespace L2
open PySem PySem.Spec PyProof.Rows
section
variable {P : Program} {w : World} {A : Around} {E : Value → Shared → Prop} {s : Shared}
/-- an empty set, as it is laid -/
abbrev oSet0 (w : World) : Obj := { cls := .type "set", dict := none, data := .set #[] 0 (.fresh 0 0 (!w.params.followText "set-order")) }
theorem set_of_list {l : Addr} {its : Array Value} (ns : List Int) {Q : Value → Shared → Prop} (hd : A.handled = none) (hl : s.heap.IsList l its) (hi : IntsAre its.toList ns) (hb : ns.length + 1 < scanBound)
    (q : ∀ (h' : Heap) (tk c : Nat), SetR w h' s.heap.objs.size (fun j => decide (j ∈ ns)) c → c ≤ ns.length → (∀ b o, s.heap.get? b = some o → h'.get? b = some o) → Q (.ref s.heap.objs.size) { s with heap := h', toks := tk }) :
    wpAny (model P w) A (call (.type "set") [.ref l]) Q E s := by
  have size1 : its.size = ns.length := by rw [← Array.length_toList]; exact IntsAre.length hi
  obtain ⟨c0, tl0, mro0⟩ := F.called_set.mro
  have made0 := F.called_set.made
  have sub0 := F.called_set.sub
  refine wpAny_call (codeAny_of_tree (show wpAny _ _ (callAny (.type "set") _) _ _ _ from wpAny_pure ⟨Code.quiet_builtin _ (by decide +kernel), codeAny_builtin F.entry_type_call ?_⟩))
  rw [Around.under_plain (weight_type_call_type "set" [.ref l] []) rfl]
  have ty0 := F.called_set.notType
  have cr0 := F.called_set.canCreate
  have tc0 := F.typeCall_set_1 (.ref l)
  repeat (any_goals (first | assumption | wp_step))
  refine codeAny_mono (code_set_led1 (.ref l) (E := E) (Q₁ := fun obj z => obj = .ref s.heap.objs.size ∧ z = { s with heap := s.heap.push (oSet0 w) }) ⟨rfl, rfl⟩) fun r z hr => ?_
  cases r with
  | error e => exact hr
  | ok fl =>
    cases fl with
    | ret obj =>
      obtain ⟨rfl, rfl⟩ := hr
      have at0 : (s.heap.push (oSet0 w)).get? s.heap.objs.size = some (oSet0 w) := Heap.get?_push_size _ rfl
      have is0 : Shared.TypeIs { s with heap := s.heap.push (oSet0 w) } (.ref s.heap.objs.size) "set" := ⟨_, at0, rfl⟩
      have il0 := F.called_set.init.lookup
      have ib0 := F.called_set.init.bind (.ref s.heap.objs.size)
      repeat (any_goals (first | assumption | wp_step))
      refine codeAny_mono (codeAny_call_builtin (R := wants (fun r y => r = .none ∧ ∃ h' tk c, y = { s with heap := h', toks := tk } ∧ SetR w h' s.heap.objs.size (fun j => decide (j ∈ ns)) c ∧ c ≤ ns.length ∧ (∀ b o, s.heap.get? b = some o → h'.get? b = some o)) E)
        F.called_set.init.plain F.entry_set_init (check_set_init_1 is0 ?_)) fun r y hr => ?_
      · obtain ⟨ol, g1, g2, g3, g4, g5⟩ := (show ∃ ol, s.heap.get? l = some ol ∧ ol.cls = .type "list" ∧ ∃ (g3 : Nat), ol.data = .seq its g3 ∧ True from by
          obtain ⟨ol, h1, h2, h3, h4⟩ := hl
          exact ⟨ol, h1, h2, h3, h4, trivial⟩)
        obtain ⟨oc, od, oda, osl⟩ := ol
        simp only at g2 g4
        subst g2
        subst g4
        have at1 : (s.heap.push (oSet0 w)).get? l = some { cls := .type "list", dict := od, data := .seq its g3, slots := osl } := Heap.get?_push_of_some _ g1
        have ss0 := F.sub_list_set
        have ss1 := F.sub_list_frozenset
        have ne0 : (Value.type "list" == Value.type "dict") = false := by decide
        have li1 : (s.heap.push (oSet0 w)).IsList l its := ⟨_, at1, rfl, g3, rfl⟩
        unfold Builtin.«set.__init__» noKeywords Builtin.Frozenset.updateFrom
        generalize hPI : pyIter = PI
        wp_walk
        subst hPI
        refine wpAny_pyIter_list li1 (wpAny_bind (wpAny_runValue ?_))
        have lt0 : l < s.heap.objs.size := Heap.lt_size g1
        have hd3 : A.in1.in1.in1.handled = none := by simp [hd]
        have ne1 : l ≠ (s.heap.push (oSet0 w)).objs.size := by
          rw [Heap.size_push]
          exact Nat.ne_of_lt (Nat.lt_succ_of_lt lt0)
        have nf : s.heap.objs.size ∉ [(s.heap.push (oSet0 w)).objs.size, l] := by
          rw [Heap.size_push]
          intro z
          rcases List.mem_cons.mp z with z | z
          · exact absurd z (Nat.ne_of_lt (Nat.lt_succ_self _))
          · exact absurd (List.mem_singleton.mp z) (Nat.ne_of_gt lt0)
        have vals : ∀ (i : Nat) (v : Value), its[i]? = some v → ∃ k t, ns[i]? = some k ∧ v = .int k t := fun i v hv => by
          have hlt : i < ns.length := by
            rw [← size1]
            exact (Array.getElem?_eq_some_iff.mp hv).1
          obtain ⟨t, e⟩ := PyProof.Rows.IntsAre.int_at hi i v (by rw [Array.getElem?_toList]; exact hv)
          exact ⟨ns[i], t, List.getElem?_eq_getElem hlt, by rw [e, List.getD_eq_getElem?_getD, List.getElem?_eq_getElem hlt] <;> rfl⟩
        refine set_update_ints ((Walks.list hd3 _ l ne1 its).toS) s.heap.objs.size nf ns size1 hb vals (its.size - 0) 0 _ (by omega) (Nat.zero_le _) ⟨⟨_, Heap.get?_push_size _ rfl, rfl, rfl⟩, (li1.push _)⟩ ⟨0, Nat.le_refl 0, setR_new_at (Heap.get?_push_of_some _ at0)⟩ ?_
        intro y c mv hc hS
        obtain ⟨h', g', d', tk', os'⟩ := y
        have eg : g' = s.gens := mv.gens
        have ed : d' = s.drawn := mv.drawn
        have eo : os' = s.os := mv.os
        subst eg ed eo
        show wpAny _ _ _ _ _ _
        refine wpAny_pure (show wpAny _ _ (ret Value.none) _ _ _ from ?_)
        rw [size1] at hc
        refine wpAny_pure ⟨rfl, h', tk', c, rfl, hS, hc, fun b o e => ?_⟩
        have b0 : b < s.heap.objs.size := Heap.lt_size e
        refine mv.heap b o (fun z => ?_) (Heap.get?_push_of_some _ (Heap.get?_push_of_some _ e))
        rcases List.mem_cons.mp z with z | z
        · exact absurd z (Nat.ne_of_lt b0)
        · rw [Heap.size_push] at z
          exact absurd (List.mem_singleton.mp z) (Nat.ne_of_lt (Nat.lt_succ_of_lt b0))
      · cases r with
        | error e => exact hr
        | ok f2 =>
          cases f2 with
          | ret r =>
            obtain ⟨rfl, h', tk, c, rfl, hS, hc, hk⟩ := hr
            repeat (any_goals (first | assumption | wp_step))
            exact q _ _ _ hS hc hk
          | _ => exact hr.elim
    | _ => exact hr.elim
end
end L2
namespace DL
open PySem PySem.Spec PyProof.Rows L2
section
variable {X : Cx} {T : TF} {E : XK} {a b c e o : Expr} {es rest : List Expr} {pos : Pos} {f k l : ME}
def rSetL (K : PySem.W.Frag) (w : World) : List V → Hp → VK → Prop := fun xs H Q => ∃ (a : Addr) (ns : List Int), xs = [.ref a] ∧ SqL K H a (ns.map V.int) ∧ ns.length < 64 ∧ ∀ p c, H p = none → c ≤ ns.length → Q (.ref p) (upd H p (SetO w p (fun j => decide (j ∈ ns)) c))
theorem cr_setL (hc : X.calm = true) : CallR X (.type "set") (rSetL X.K X.w) := by
  intro pins s σ H vs us Q I r h
  obtain ⟨a, ns, rfl, hs, hz, q⟩ := h
  have eu := r.ref1
  subst eu
  obtain ⟨its, rv, pl, _⟩ := I.list hs
  refine set_of_list ns (I.ok.hd hc) pl.isList (by simpa using rv.ints) (by unfold scanBound; omega) fun h' tk c R hcn hk => ?_
  have n0 : s.heap.get? s.heap.objs.size = none := by
    cases z : s.heap.get? s.heap.objs.size with
    | none => rfl
    | some o => exact absurd (Heap.lt_size z) (Nat.lt_irrefl _)
  exact ⟨.ref s.heap.objs.size, _, inv_new (t' := tk) I hk n0 (I.hok.fresh (Nat.le_refl _)) (setO_new R), rfl, q _ c (I.hok.fresh (Nat.le_refl _)) hcn⟩
/-- sorted(set(x)), a list of ints -/
def sortSetD (x : D) (h : IH) : Out D := match getL h x with
  | some xs => (match asIs xs with
    | some ns => grd (decide (ns.length < 64)) (.ok (.vl ((sortU ns).map .int)) h)
    | none => .bad)
  | none => .bad
theorem de_sortSet {p p2 pos2 : Pos} (hc : X.calm = true) (hm : X.mg "sorted" = none) (hm2 : X.mg "set" = none) (ha : DE X T E e f) (hg : Gl X "sorted" := by rfl) (hg2 : Gl X "set" := by rfl) (he : starEach (e :: []) X.env = (false, eval e X.env) :: starEach [] X.env := by rfl)
    (he2 : starEach [.Call (.Name "set" p2) [e] [] pos2] X.env = (false, eval (.Call (.Name "set" p2) [e] [] pos2) X.env) :: starEach [] X.env := by rfl) :
    DE X T E (.Call (.Name "sorted" p) [.Call (.Name "set" p2) [e] [] pos2] [] pos) (op1 sortSetD f) :=
  PE.imp (pe_callB (cr_sortedSet hc) hg hm (by decide +kernel) (pa_cons (pe_callTy (cr_setL hc) hg2 hm2 (by decide +kernel) (pa_cons ha pa_nil he) (by decide) (by decide) he) pa_nil he2) (by decide) (by decide) he2) fun σ H Q ⟨m, h, en, rel, p⟩ => chain rel p fun m1 h1 H1 v d e1 rel1 rv1 p1 => by
    unfold sortSetD at p1
    cases e : getL h1 d with
    | none => rw [e] at p1; exact p1.elim
    | some xs =>
      rw [e] at p1
      cases e2 : asIs xs with
      | none => dsimp only at p1; rw [e2] at p1; exact p1.elim
      | some ns =>
        dsimp only at p1
        rw [e2] at p1
        dsimp only at p1
        obtain ⟨hz, p1⟩ := Post.grd p1
        have hz := of_decide_eq_true hz
        obtain ⟨a, vs, rfl, s, r2⟩ := getL_ok rel1.rh rv1 e
        rw [asIs_ok e2] at r2
        rw [r2.ints] at s
        refine ⟨a, ns, rfl, s, hz, fun q c hq hcn => ⟨q, _, c, rfl, upd_same, by omega, fun ns' y z1 z2 z3 hy => ?_⟩⟩
        have e3 : ns' = sortU ns := sortU_of (fun x => by rw [z2 x, decide_eq_true_iff]) z1
        rw [e3]
        have ex1 := Ex.fresh (m := m1) (n := h1.length) (o := SetO X.w q (fun j => decide (j ∈ ns)) c) hq NT.ext
        have rh1 := rel1.rh.fresh (o := SetO X.w q (fun j => decide (j ∈ ns)) c) hq NT.ext
        exact p1 m1 _ _ (ex1.trans (Ex.fresh hy NT.lst)) (rh1.fresh hy NT.lst) (.vl upd_same (rh1.off hy) (Rvs.of_ints _))
end
end DL

set_option Elab.async false
set_option linter.all false
set_option maxRecDepth 100000
set_option autoImplicit false
set_option maxHeartbeats 1000000
/-! Instances: fields stored, methods called, instances made. -/
namespace DL
open PySem PySem.Spec PyProof.Rows L2
/-! ### fields -/
def gFld (K : PySem.W.Frag) (ta : TE) (f : Str) : TG := fun v σ H Q => ta σ H fun x H1 => ∃ a C dx fs, x = .ref a ∧ H1 a = some (.ins C dx fs) ∧ Cls K C ∧ NoAttr K C f ∧ fs.length < 1000 ∧ Q σ (upd H1 a (.ins C dx (putF f v fs)))
theorem pg_fld {X : Cx} {o : Expr} {f : Str} {pos : Pos} {ta : TE} (ho : PE X o ta) : PG X (.Attribute o f pos) (gFld X.K ta f) := by
  refine ⟨fun pins s σ H v u Q I r h => ?_⟩
  rw [assign_Attribute]
  refine wpAny_bind (wpAny_holding (thn (ho.run pins s σ H _ I h) fun ov s1 hh => ?_))
  obtain ⟨x, H1, I1, rx, a, C, dx, fs, rfl, ea, c, n, l, q⟩ := hh
  have eo : ov = Value.ref a := rx
  subst eo
  refine wpAny_bind (wpAny_standAt (wpAny_bind (wpAny_holding (setattr_ok I1 ea c n l r fun s3 I3 => ?_))))
  exact wpAny_release ⟨σ, _, I3, q⟩
def putFD (j : Nat) (v : D) (fs : List D) : Option (List D) := if j < fs.length then some (fs.set j v) else if j = fs.length then some (fs ++ [v]) else none
theorem putF_names {x : Str} {v : V} : ∀ {fvs : List (Str × V)} {ns : List Str} {j k : Nat}, fvs.map (·.1) = ns.take k → fvs.length = k → ns.Nodup → ns[j]? = some x →
    (j < k → (putF x v fvs).map (·.1) = ns.take k ∧ (putF x v fvs).map (·.2) = (fvs.map (·.2)).set j v) ∧ (j = k → (putF x v fvs).map (·.1) = ns.take (k + 1) ∧ (putF x v fvs).map (·.2) = fvs.map (·.2) ++ [v])
  | [], ns, j, k, h1, h2, nd, hx => by
    have hk : k = 0 := by simpa using h2.symm
    subst hk
    refine ⟨fun z => absurd z (Nat.not_lt_zero _), fun z => ?_⟩
    subst z
    cases ns with
    | nil => simp at hx
    | cons y ns =>
      simp at hx
      subst hx
      simp [putF]
  | (y, w) :: fvs, ns, j, k, h1, h2, nd, hx => by
    cases k with
    | zero => simp at h2
    | succ k =>
      cases ns with
      | nil => simp at hx
      | cons z ns =>
        rw [List.map_cons, List.take_succ_cons, List.cons.injEq] at h1
        have e1 : y = z := h1.1
        subst e1
        have nd' := List.nodup_cons.mp nd
        cases j with
        | zero =>
          simp at hx
          subst hx
          refine ⟨fun _ => ?_, fun z => by omega⟩
          have e : putF y v ((y, w) :: fvs) = (y, v) :: fvs := by simp [putF]
          rw [e]
          refine ⟨by rw [List.map_cons, List.take_succ_cons, h1.2], rfl⟩
        | succ j =>
          simp at hx
          have hne : ¬ y = x := fun q => nd'.1 (by rw [q]; exact List.mem_of_getElem? hx)
          have e : putF x v ((y, w) :: fvs) = (y, w) :: putF x v fvs := by simp [putF, hne]
          obtain ⟨i1, i2⟩ := putF_names (v := v) h1.2 (by simpa using h2) nd'.2 hx
          rw [e]
          refine ⟨fun hj => ?_, fun hj => ?_⟩
          · obtain ⟨a1, a2⟩ := i1 (by omega)
            exact ⟨by rw [List.map_cons, a1, List.take_succ_cons], by rw [List.map_cons, a2, List.map_cons, List.set_cons_succ]⟩
          · obtain ⟨a1, a2⟩ := i2 (by omega)
            exact ⟨by rw [List.map_cons, a1, List.take_succ_cons], by rw [List.map_cons, a2, List.map_cons, List.cons_append]⟩
theorem flds_len (c : Nat) : (flds c).length ≤ 6 := by
  unfold flds
  split <;> simp
def fputD (c j : Nat) (x v : D) (h : IH) : Out Unit := match insAt h c x with
  | some (i, fs) => (match putFD j v fs with
    | some fs' => .ok () (h.set i (.ins c fs'))
    | none => .bad)
  | none => .bad
def fldG (c j : Nat) (fo : ME) : MG := fun d en h => (fo en h).bind fun x h1 => (fputD c j x d h1).bind fun _ h2 => .ok en h2
theorem ins_store {g : G} {m : Mp} {h : IH} {H : Hp} {i c j : Nat} {fs fs' : List D} {x : Str} {v : V} {d : D} {C dx : Addr} {fvs : List (Str × V)} (rh : RH g m h H) (hi : h[i]? = some (.ins c fs)) (ha : H (m i) = some (.ins C dx fvs)) (hm : g.mg (cnm c) = some (.ref C)) (hn : fvs.map (·.1) = (flds c).take fs.length) (hr : Rvs g.K m h.length H (fvs.map (·.2)) fs)
    (hx : (flds c)[j]? = some x) (rv : Rv g.K m h.length H v d) (e : putFD j d fs = some fs') : Ex m h.length H m (h.set i (.ins c fs')).length (upd H (m i) (.ins C dx (putF x v fvs))) ∧ RH g m (h.set i (.ins c fs')) (upd H (m i) (.ins C dx (putF x v fvs))) := by
  have hl : i < h.length := (List.getElem?_eq_some_iff.mp hi).1
  have ex := Ex.store (o := .ins C dx (putF x v fvs)) rh hl NT.ins
  have hlen : fvs.length = fs.length := by have := hr.length; rw [List.length_map] at this; exact this
  obtain ⟨p1, p2⟩ := putF_names (v := v) hn hlen (flds_nd c) hx
  refine ⟨by rw [List.length_set]; exact ex, rh.store hl NT.ins (fun _ => rh.fz1 i _ hi (fun _ z => by cases z) (fun _ _ z => by cases z)) ?_ (fun _ _ z => by rw [hi] at z; cases z)⟩
  unfold putFD at e
  split at e
  · rename_i hj
    cases e
    obtain ⟨q1, q2⟩ := p1 hj
    exact ⟨C, dx, _, upd_same, hm, by rw [q1, List.length_set], by rw [q2]; exact (hr.set rv j).mono ex⟩
  · split at e
    · rename_i hj
      cases e
      obtain ⟨q1, q2⟩ := p2 hj
      exact ⟨C, dx, _, upd_same, hm, by rw [q1, List.length_append, List.length_singleton], by rw [q2]; exact (hr.append (.cons rv .nil)).mono ex⟩
    · cases e
section
variable {X : Cx} {T : TF} {E : XK} {a b c e o : Expr} {es rest : List Expr} {pos : Pos} {f k l : ME}
theorem dg_fld (c j : Nat) {x : Str} (C : ClOk X.K X.mg c) (ho : ∀ E, DE X T E o f) (hne : ∀ en h c' h', f en h ≠ .err c' h') (hx : (flds c)[j]? = some x := by rfl) : DG X T (.Attribute o x pos) (fldG c j f) :=
  PG.imp (pg_fld (ho (fun _ _ _ => False))) fun v σ H Q ⟨m, h, en, d, rel, rv, p⟩ => by
    refine ⟨m, h, en, rel, ?_⟩
    unfold fldG at p
    cases q0 : f en h with
    | bad => rw [q0] at p; exact p.elim
    | err c' h' => exact absurd q0 (hne en h c' h')
    | ok y h1 =>
      rw [q0, Out.bind_ok] at p
      intro m1 H1 u ex1 rh1 ru
      unfold fputD at p
      cases q : insAt h1 c y with
      | none => rw [q] at p; exact p.elim
      | some r =>
        obtain ⟨i, fs⟩ := r
        rw [q] at p
        dsimp only at p
        cases q2 : putFD j d fs with
        | none => rw [q2] at p; exact p.elim
        | some fs' =>
          rw [q2] at p
          obtain ⟨rfl, q3⟩ := insAt_ok q
          obtain ⟨C1, dx, fvs, z1, z2, z3, z4⟩ := rh1.obj i _ q3
          obtain ⟨C2, y1, y2, y3⟩ := C.ex
          have eC : some (Value.ref C1) = some (Value.ref C2) := z2.symm.trans y1
          cases eC
          cases ru
          have rel1 := rel.next ex1 rh1
          obtain ⟨ex2, rh2⟩ := ins_store rh1 q3 z1 z2 z3 z4 hx (rv.mono ex1) q2
          have hlen : fvs.length ≤ 6 := by
            have h1 := congrArg List.length z3
            rw [List.length_map, List.length_take] at h1
            have := flds_len c
            omega
          exact ⟨_, C1, dx, fvs, rfl, z1, y2, y3 x (List.mem_of_getElem? hx), by omega, p m1 _ σ (ex1.trans ex2) (rel1.next ex2 rh2)⟩
/-! ### methods -/
/-- a method as it may be called -/
def MetF (P : Program) (w : World) (K : PySem.W.Frag) (mg : Str → Option Value) (base : Heap) (T : TF) (c : Nat) (m : Str) (k n : Nat) (F : List D → IH → Out D) : Prop :=
  ∃ C f fd ps, ps.length = n ∧ mg (cnm c) = some (.ref C) ∧ Cls K C ∧ Meth K C m f ∧ Binds K fd ps [] ∧ FnOk P w K mg base (L2N.CX P w) k f fd ps (SpOf ⟨K, mg, T⟩ n F) ∧ m ∉ flds c
def metE (c n : Nat) (F : List D → IH → Out D) (f : ME) (t : MA) : ME := fun en h => (f en h).bind fun x h1 => grd ((insAt h1 c x).isSome) ((t en h1).bind fun ds h2 => grd (decide (ds.length + 1 = n)) (F (x :: ds) h2))
theorem lookup_no {x : Str} : ∀ {fvs : List (Str × V)}, x ∉ fvs.map (·.1) → fvs.lookup x = none
  | [], _ => rfl
  | (y, v) :: fvs, h => by
    rw [List.map_cons, List.mem_cons] at h
    have hne : (x == y) = false := beq_eq_false_iff_ne.mpr fun z => h (.inl z)
    simp only [List.lookup, hne]
    exact lookup_no fun z => h (.inr z)
theorem ins_at {g : G} {m : Mp} {h : IH} {H : Hp} {c : Nat} {v : V} {d : D} {C : Addr} {nm : Str} (rh : RH g m h H) (rv : Rv g.K m h.length H v d) (e : (insAt h c d).isSome = true) (hm : g.mg (cnm c) = some (.ref C)) (hn : nm ∉ flds c) : ∃ a dx fs, v = .ref a ∧ H a = some (.ins C dx fs) ∧ fs.lookup nm = none := by
  obtain ⟨⟨i, fs⟩, q⟩ := Option.isSome_iff_exists.mp e
  obtain ⟨rfl, hi⟩ := insAt_ok q
  obtain ⟨C1, dx, fvs, z1, z2, z3, z4⟩ := rh.obj i _ hi
  have eC := z2.symm.trans hm
  cases eC
  cases rv
  refine ⟨_, dx, fvs, rfl, z1, lookup_no fun z => hn ?_⟩
  rw [z3] at z
  exact List.mem_of_mem_take z
theorem de_meth {c : Nat} {m : Str} {k n : Nat} {F : List D → IH → Out D} {t : MA} {apos : Pos} {pl : Sem Bool} (G : MetF X.prog X.w X.K X.mg X.base T c m k n F) (hr : Room k X.A) (tk : Tk X E) (ho : DE X T E o f) (ha : DA X T E (e :: es) t)
    (hst : starEach (e :: es) X.env = (false, eval e X.env) :: starEach es X.env := by rfl) (hpl : (backTo pos (starEach es X.env)).any (·.1) = false := by rfl)
    (ht : eval (.Call (.Attribute o m apos) (e :: es) [] pos) X.env = (do
      let ov ← eval o X.env
      standAt apos.atName
      let (f, first) ← holding [ov] (getMethod ov m pl)
      callWith pos f first (backTo pos (starEach (e :: es) X.env)) (backToKw pos (keywordEach [] X.env))) := by rfl) :
    DE X T E (.Call (.Attribute o m apos) (e :: es) [] pos) (metE c n F f t) := by
  obtain ⟨C, g, fd, ps, hn, hm, hc, hme, hb, G, hnf⟩ := G
  refine PE.imp (pe_meth (E := E) (pl := pl) ho hc hme G hr hb .nil (L2N.passes_call tk fun _ _ _ _ h => h) ha hst hpl ht) fun σ H Q ⟨m1, h, en, rel, p⟩ => chain rel p fun m1 h1 H1 v d e1 rel1 rv1 p1 => ?_
  obtain ⟨hs, p1⟩ := Post.grd p1
  obtain ⟨a, dx, fs, rfl, z1, z2⟩ := ins_at rel1.rh rv1 hs hm hnf
  refine ⟨a, dx, fs, rfl, z1, z2, chain rel1 p1 fun m2 h2 H2 vs ds e2 rel2 rv2 p2 => ?_⟩
  obtain ⟨hc2, p2⟩ := Post.grd p2
  rw [List.append_nil]
  exact ⟨by rw [List.length_cons, rv2.length]; exact of_decide_eq_true hc2, m2, h2, d :: ds, rel2.rh, .cons (rv1.mono e2) rv2, p2⟩
theorem de_meth0 {c : Nat} {m : Str} {k : Nat} {F : List D → IH → Out D} {apos : Pos} {pl : Sem Bool} (G : MetF X.prog X.w X.K X.mg X.base T c m k 1 F) (hr : Room k X.A) (tk : Tk X E) (ho : DE X T E o f)
    (ht : eval (.Call (.Attribute o m apos) [] [] pos) X.env = (do
      let ov ← eval o X.env
      standAt apos.atName
      let (f, first) ← holding [ov] (getMethod ov m pl)
      callWith pos f first (backTo pos (starEach [] X.env)) (backToKw pos (keywordEach [] X.env))) := by rfl) :
    DE X T E (.Call (.Attribute o m apos) [] [] pos) (metE c 1 F f nilA) := by
  obtain ⟨C, g, fd, ps, hn, hm, hc, hme, hb, G, hnf⟩ := G
  refine PE.imp (pe_meth0 (E := E) (pl := pl) ho hc hme G hr hb .nil (L2N.passes_call tk fun _ _ _ _ h => h) ht) fun σ H Q ⟨m1, h, en, rel, p⟩ => chain rel p fun m1 h1 H1 v d e1 rel1 rv1 p1 => ?_
  obtain ⟨hs, p1⟩ := Post.grd p1
  obtain ⟨a, dx, fs, rfl, z1, z2⟩ := ins_at rel1.rh rv1 hs hm hnf
  exact ⟨a, dx, fs, rfl, z1, z2, rfl, m1, h1, [d], rel1.rh, .cons rv1 .nil, p1⟩
/-! ### making -/
def MakF (P : Program) (w : World) (K : PySem.W.Frag) (mg : Str → Option Value) (base : Heap) (T : TF) (c : Nat) (k n : Nat) (F : List D → IH → Out D) : Prop :=
  ∃ C f fd ps, ps.length = n ∧ mg (cnm c) = some (.ref C) ∧ Mk K C f ∧ Binds K fd ps [] ∧ FnOk P w K mg base (L2N.CX P w) k f fd ps (SpOf ⟨K, mg, T⟩ n F)
def mkD (F : List D → IH → Out D) (c : Nat) (ds : List D) (h : IH) : Out D := match F (.ref h.length :: ds) (h ++ [.ins c []]) with
  | .ok .non h' => .ok (.ref h.length) h'
  | .err c h' => .err c h'
  | _ => .bad
def makE (c n : Nat) (F : List D → IH → Out D) (t : MA) : ME := fun en h => (t en h).bind fun ds h1 => grd (decide (ds.length + 1 = n)) (mkD F c ds h1)
theorem mk_post {g : G} {m : Mp} {h : IH} {H : Hp} {Q : VK} {c n : Nat} {C x dx : Addr} {vs : List V} {ds : List D} {F : List D → IH → Out D} (rh : RH g m h H) (rv : Rvs g.K m h.length H vs ds) (hm : g.mg (cnm c) = some (.ref C)) (hx : H x = none) (hd : H dx = none) (hne : dx ≠ x) (hl : ds.length + 1 = n)
    (p : Post (Rv g.K) g m h.length H E Q (mkD F c ds h)) : SpOf g n F (.ref x :: vs) (upd (upd H dx (.own x)) x (.ins C dx [])) (fun v H2 => v = .non ∧ Q (.ref x) H2) E := by
  have hk : ∀ a o, H a = some o → upd (upd H dx (.own x)) x (.ins C dx []) a = some o := fun a o e => by rw [upd_ne (ne_of_none e hx), upd_ne (ne_of_none e hd)]; exact e
  have ex : Ex m h.length H (put m h.length x) (h ++ [O.ins c []]).length (upd (upd H dx (.own x)) x (.ins C dx [])) := by
    rw [List.length_append, List.length_singleton]
    exact Ex.alloc hx hk
  have rh2 : RH g (put m h.length x) (h ++ [O.ins c []]) (upd (upd H dx (.own x)) x (.ins C dx [])) := rh.alloc hx hk ⟨C, dx, [], upd_same, hm, by simp, .nil⟩
  have hr : Rv g.K (put m h.length x) (h ++ [O.ins c []]).length (upd (upd H dx (.own x)) x (.ins C dx [])) (.ref x) (.ref h.length) := by
    have z : Rv g.K (put m h.length x) (h ++ [O.ins c []]).length (upd (upd H dx (.own x)) x (.ins C dx [])) (.ref (put m h.length x h.length)) (.ref h.length) := .ref (by simp)
    rw [put_same] at z
    exact z
  refine ⟨by rw [List.length_cons, rv.length]; exact hl, put m h.length x, h ++ [.ins c []], .ref h.length :: ds, rh2, .cons hr (rv.mono ex), ?_⟩
  unfold mkD at p
  cases e : F (.ref h.length :: ds) (h ++ [.ins c []]) with
  | bad => rw [e] at p; exact p.elim
  | err c' h' =>
    rw [e] at p
    exact fun m' H' C' a b z => p m' H' C' (ex.trans a) b z
  | ok d h' =>
    rw [e] at p
    cases d with
    | non =>
      intro m' H' v a b z
      cases z
      refine ⟨rfl, p m' H' _ (ex.trans a) b ?_⟩
      have hlt : h.length < (h ++ [O.ins c []]).length := by simp
      have e2 := a.same h.length hlt
      rw [put_same] at e2
      rw [← e2]
      exact .ref (Nat.lt_of_lt_of_le hlt a.le)
    | _ => exact p.elim
theorem de_make (c : Nat) {k n : Nat} {F : List D → IH → Out D} {t : MA} {x : Str} {p : Pos} (G : MakF X.prog X.w X.K X.mg X.base T c k n F) (hr : Room (k + 1) X.A) (tk : Tk X E) (ha : DA X T E (e :: es) t) (hxc : x = cnm c := by rfl) (hg : Gl X x := by rfl) (hdb : (x == ("__debug__" : Str)) = false := by decide)
    (he : starEach (e :: es) X.env = (false, eval e X.env) :: starEach es X.env := by rfl) (hpl : (backTo pos (starEach es X.env)).any (·.1) = false := by rfl) : DE X T E (.Call (.Name x p) (e :: es) [] pos) (makE c n F t) := by
  obtain ⟨C, g, fd, ps, hn, hm, hk, hb, G⟩ := G
  subst hxc
  refine PE.imp (pe_make (E := E) hk G hr hg hm hb .nil (L2N.passes_call tk fun _ _ _ _ h => h) ha hdb he hpl) fun σ H Q ⟨m, h, en, rel, p⟩ => chain rel p fun m1 h1 H1 v d e1 rel1 rv1 p1 => ?_
  obtain ⟨hc, p1⟩ := Post.grd p1
  intro x dx hx hd hne
  rw [List.append_nil]
  exact mk_post rel1.rh rv1 hm hx hd hne (of_decide_eq_true hc) p1
theorem de_make0 (c : Nat) {k : Nat} {F : List D → IH → Out D} {x : Str} {p : Pos} (G : MakF X.prog X.w X.K X.mg X.base T c k 1 F) (hr : Room (k + 1) X.A) (tk : Tk X E) (hxc : x = cnm c := by rfl) (hg : Gl X x := by rfl) (hdb : (x == ("__debug__" : Str)) = false := by decide) : DE X T E (.Call (.Name x p) [] [] pos) (makE c 1 F nilA) := by
  obtain ⟨C, g, fd, ps, hn, hm, hk, hb, G⟩ := G
  subst hxc
  refine PE.imp (pe_make0 (E := E) hk G hr hg hm hb .nil (L2N.passes_call tk fun _ _ _ _ h => h) hdb) fun σ H Q ⟨m, h, en, rel, p⟩ => ?_
  intro x dx hx hd hne
  exact mk_post rel.rh .nil hm hx hd hne rfl p
end
end DL

set_option Elab.async false
set_option linter.all false
set_option maxRecDepth 100000
set_option autoImplicit false
set_option maxHeartbeats 1000000
/-! Lists of any things asked whether they are empty; dicts copied, asked, popped; list(range()), max, min, pop(i), extend, clear. -/
namespace PySem.SeqAt
open AutoSeq1 (wpAny_loadPart')
open MeetsSeq MeetsSeq2 MeetsSeq3 SeqRoads2
section
variable {prog : Program} {w : World}
theorem list_sizes_in (l b : Addr) (xs ys : Array Value) (n n2 : Nat) (dd dd2 : Option Addr) (sl sl2 : Array (Option Value)) (hz : xs.size ≠ ys.size) :
    MeetsIn prog w (Builtin.«list.__eq__» ⟨[.ref l, .ref b], []⟩)
      (fun A R s => s.heap.get? l = some { cls := .type "list", dict := dd, data := .seq xs n, slots := sl } ∧ s.heap.get? b = some { cls := .type "list", dict := dd2, data := .seq ys n2, slots := sl2 } ∧ R (.ok (.ret (.bool false))) s) := by
  intro A R s h
  obtain ⟨hp, g, d, tk, os⟩ := s
  obtain ⟨h1, h2, h⟩ := h
  have f3 := AutoSeq1.sub_list_list
  have hne : (xs.size != ys.size) = true := by simp [hz]
  wp_walk using wpAny_loadPart' h1, wpAny_loadPart' h2
  exact h
theorem rc_sizes {A : Around} {s : Shared} {l b : Addr} {xs ys : Array Value} (h1 : s.heap.IsList l xs) (h2 : s.heap.IsList b ys) (hz : xs.size ≠ ys.size) (hu : A.units < cLine) (E Q : Value → Shared → Prop) (h : Q (.bool false) s) : wpAny (model prog w) A (richCompare .Eq (.ref l) (.ref b)) Q E s := by
  obtain ⟨⟨c1, dd, d1, sl⟩, ho, hc, n, hd⟩ := id h1
  obtain ⟨⟨c2, dd2, d2, sl2⟩, ho2, hc2, n2, hd2⟩ := id h2
  simp only at hc hd hc2 hd2
  subst hc hd hc2 hd2
  have ta : s.TypeIs (.ref l) "list" := ⟨_, ho, rfl⟩
  have tb : s.TypeIs (.ref b) "list" := ⟨_, ho2, rfl⟩
  exact wpAny_richCompare_same_room (op := .Eq) ta tb F.slot_list_eq (call_meetsIn F.slot_list_eq ta F.entry_list_eq (F.args_list_eq_2 _ _) (list_sizes_in l b xs ys n n2 dd dd2 sl sl2 hz)
    ⟨ho, ho2, show Value.bool false ≠ Value.notImplemented ∧ Q (.bool false) s from ⟨(fun x => nomatch x), h⟩⟩) hu
end
end PySem.SeqAt
namespace DL
open PySem PySem.Spec PyProof.Rows L2
section
variable {X : Cx} {T : TF} {E : XK} {a b c e o : Expr} {es rest : List Expr} {pos : Pos} {f k l : ME}
/-- x == [], the things of x may be any -/
theorem op_eqNil {n : Nat} (hr : Room n X.A) : OpR X (compareOp .Eq) (fun x y H Q => ∃ p q xs, x = .ref p ∧ y = .ref q ∧ SqL X.K H p xs ∧ SqL X.K H q [] ∧ Q (.bl xs.isEmpty) H) := by
  intro pins s σ H x y v u Q I rx ry h
  obtain ⟨p, q, xs, rfl, rfl, hp, hq, hQ⟩ := h
  cases rx
  cases ry
  obtain ⟨us, r1, p1, _⟩ := I.list hp
  obtain ⟨ws, r2, p2, _⟩ := I.list hq
  cases r2
  have hu : X.A.units < cLine := by have := hr.un; omega
  cases xs with
  | nil =>
    cases r1
    refine SeqAt.rcP_lists (e := fun _ => true) p1.isList p2.isList rfl hu (fun j h1 _ => absurd h1 (Nat.not_lt_zero j)) _ _ ?_
    exact ⟨.bl true, H, I, rfl, hQ⟩
  | cons z zs =>
    refine SeqAt.rc_sizes p1.isList p2.isList ?_ hu _ _ ?_
    · have := r1.length
      rw [List.size_toArray, ← this]
      simp
    · exact ⟨.bl false, H, I, rfl, hQ⟩
def eqNilD : D → D → IH → Out D := fun x y h => match getL h x, getL h y with
  | some xs, some [] => .ok (.bl xs.isEmpty) h
  | _, _ => .bad
theorem cr_eqNil {n : Nat} (hr : Room n X.A) : CmpRule X T .Eq eqNilD := ⟨_, op_eqNil hr, fun m h H x y dx dy E Q rh rx ry p => by
  unfold eqNilD at p
  cases q : getL h dx with
  | none => rw [q] at p; exact p.elim
  | some xs =>
    rw [q] at p
    cases q2 : getL h dy with
    | none => rw [q2] at p; exact p.elim
    | some ys =>
      rw [q2] at p
      cases ys with
      | cons _ _ => exact p.elim
      | nil =>
        obtain ⟨a1, vs, rfl, s1, r1⟩ := getL_ok rh rx q
        obtain ⟨a2, ws, rfl, s2, r2⟩ := getL_ok rh ry q2
        cases r2
        refine ⟨a1, a2, vs, rfl, rfl, s1, s2, ?_⟩
        have e : vs.isEmpty = xs.isEmpty := by cases r1 <;> rfl
        rw [e]
        exact Post.val p rh (.bl _)⟩
/-! ### dicts -/
def dcopyD (x : D) (h : IH) : Out D := match dctAt h x with
  | some (_, kvs) => .ok (.ref h.length) (h ++ [.dct kvs])
  | none => .bad
theorem de_dcopy {t : MA} {p : Pos} (hm : X.mg "dict" = none) (ha : DA X T E [e] t) (hg : Gl X "dict" := by rfl) (he : starEach (e :: []) X.env = (false, eval e X.env) :: starEach [] X.env := by rfl) : DE X T E (.Call (.Name "dict" p) [e] [] pos) (callB (one dcopyD) t) :=
  de_callTy call_dictD (one_ok fun m h H v d E Q rh r p => by
    unfold dcopyD at p
    cases q : dctAt h d with
    | none => rw [q] at p; exact p.elim
    | some z =>
      obtain ⟨i, kvs⟩ := z
      rw [q] at p
      obtain ⟨rfl, hi⟩ := dctAt_ok q
      obtain ⟨l, y1, y2⟩ := rh.obj i _ hi
      cases r
      refine ⟨_, l, rfl, .inl y1, fun q hq => ?_⟩
      have hl : (h ++ [O.dct kvs]).length = h.length + 1 := by simp
      have hk := upd_keeps (o := .dK l) hq
      have ex : Ex m h.length H (put m h.length q) (h ++ [O.dct kvs]).length (upd H q (.dK l)) := by rw [hl]; exact Ex.alloc hq hk
      refine p (put m h.length q) _ _ ex (rh.alloc hq hk ⟨l, upd_same, ?_⟩) ?_
      · rw [← hl]; exact y2.mono ex
      · have z : Rv X.K (put m h.length q) (h ++ [O.dct kvs]).length (upd H q (.dK l)) (.ref (put m h.length q h.length)) (.ref h.length) := .ref (by rw [hl]; omega)
        rw [put_same] at z
        exact z) hm (by decide +kernel) ha hg (by decide) (by decide) he
end
end DL

set_option Elab.async false
set_option linter.all false
set_option maxRecDepth 100000
set_option autoImplicit false
set_option maxHeartbeats 1000000
/-! Methods as the printed texts give them; tuples joined, the left one empty too. -/
namespace DL
open PySem PySem.Spec PyProof.Rows L2
def DefM (K : PySem.W.Frag) (mg : Str → Option Value) (c : Nat) (m q : Str) (st : Stmt) : Prop := ∃ C f fd, mg (cnm c) = some (.ref C) ∧ Cls K C ∧ Meth K C m f ∧ FunD K m q (defArgs st) (defBody st) (defScope st) [] [] f fd
def DefI (K : PySem.W.Frag) (mg : Str → Option Value) (c : Nat) (q : Str) (st : Stmt) : Prop := ∃ C f fd, mg (cnm c) = some (.ref C) ∧ Mk K C f ∧ FunD K "__init__" q (defArgs st) (defBody st) (defScope st) [] [] f fd
theorem varE_ne {i : Nat} : ∀ (en : En) (h : IH) (c' : Nat) (h' : IH), varE i en h ≠ .err c' h' := fun en h c' h' z => by
  unfold varE at z
  split at z <;> cases z
theorem fld_ne {c j : Nat} {f : ME} (hf : ∀ (en : En) (h : IH) (c' : Nat) (h' : IH), f en h ≠ .err c' h') : ∀ (en : En) (h : IH) (c' : Nat) (h' : IH), op1 (fldD c j) f en h ≠ .err c' h' := fun en h c' h' z => by
  have z : (f en h).bind (fldD c j) = .err c' h' := z
  cases q : f en h with
  | ok x h1 =>
    rw [q, Out.bind_ok] at z
    unfold fldD at z
    split at z
    · split at z <;> cases z
    · cases z
  | err c2 h2 => exact hf _ _ _ _ q
  | bad => rw [q] at z; cases z
theorem cl_ok {K : PySem.W.Frag} {mg : Str → Option Value} {c : Nat} {x : Str} (g : mg x = some (.ref (He.ga K x))) (h : Cls K (He.ga K x)) (hn : ∀ f ∈ flds c, (He.Fa.noat x f).ok K = true) (hx : x = cnm c := by rfl) : ClOk K mg c := by
  subst hx
  exact ⟨_, g, h, fun f hf => He.noat_ok (hn f hf)⟩
end DL

set_option Elab.async false
set_option linter.all false
set_option maxRecDepth 100000
set_option autoImplicit false
set_option maxHeartbeats 1000000
/-! The heap cut back; dicts walked while they stand still; dicts asked, popped. -/
namespace DL
open PySem PySem.Spec PyProof.Rows L2
/-! ### the heap is cut back -/
def clo (n : Nat) (o : Option D) : Option D := match o with
  | some d => if clB n d then some d else none
  | none => none
theorem clo_some {n : Nat} {o : Option D} {d : D} (e : clo n o = some d) : o = some d ∧ clB n d = true := by
  cases o with
  | none => cases e
  | some x =>
    unfold clo at e
    dsimp only at e
    split at e
    · rename_i hx
      cases e
      exact ⟨rfl, hx⟩
    · cases e
def cutS (b : MS) : MS := fun en h => match b en h with
  | .nx en' h' => if h'.take h.length = h then .nx (en'.map (clo h.length)) h else .bad
  | .ct en' h' => if h'.take h.length = h then .ct (en'.map (clo h.length)) h else .bad
  | .bk en' h' => if h'.take h.length = h then .bk (en'.map (clo h.length)) h else .bad
  | .rt d h' => if h'.take h.length = h then (if clB h.length d then .rt d h else .bad) else .bad
  | .err c h' => if h'.take h.length = h then .err c h else .bad
  | .bad => .bad
theorem Rel.cut {g : G} {m m' : Mp} {h h' : IH} {σ σ' : L2.St} {en en' : En} {H H' : Hp} (r : Rel g m h σ en H) (r' : Rel g m' h' σ' en' H') (e : Ex m h.length H m' h'.length H') (q : h'.take h.length = h) : Rel g m' h σ' (en'.map (clo h.length)) H' := by
  refine ⟨r.rh.cut r'.rh e q, by rw [r'.len, List.length_map], fun i d hd => ?_⟩
  rw [List.getElem?_map] at hd
  cases z : en'[i]? with
  | none => rw [z] at hd; cases hd
  | some o =>
    rw [z] at hd
    have hd : clo h.length o = some d := by simpa using hd
    obtain ⟨rfl, hc⟩ := clo_some hd
    obtain ⟨v, h1, h2⟩ := r'.env i d z
    exact ⟨v, h1, h2.shrink e.le hc⟩
section
variable {X : Cx} {T : TF} {E : XK} {a b c e o : Expr} {es rest : List Expr} {pos : Pos} {f k l : ME} {st : Stmt} {sts sts2 : List Stmt} {fs ks : MS} {tA : MT}
theorem dss_cut (hb : DSs X T E sts fs) : DSs X T E sts (cutS fs) :=
  PSs.imp hb fun D σ H ⟨m, h, en, rel, p⟩ => by
    refine ⟨m, h, en, rel, ?_⟩
    unfold cutS at p
    cases q : fs en h with
    | nx en' h' =>
      rw [q] at p
      dsimp only at p
      split at p
      · rename_i z
        exact fun m' H' σ' e1 rel' => p m' H' σ' e1.cut (rel.cut rel' e1 z)
      · exact p.elim
    | ct en' h' =>
      rw [q] at p
      dsimp only at p
      split at p
      · rename_i z
        exact fun m' H' σ' e1 rel' => p m' H' σ' e1.cut (rel.cut rel' e1 z)
      · exact p.elim
    | bk en' h' =>
      rw [q] at p
      dsimp only at p
      split at p
      · rename_i z
        exact fun m' H' σ' e1 rel' => p m' H' σ' e1.cut (rel.cut rel' e1 z)
      · exact p.elim
    | rt d h' =>
      rw [q] at p
      dsimp only at p
      split at p
      · rename_i z
        split at p
        · rename_i y
          exact fun m' H' v e1 rh' rv => p m' H' v e1.cut (rel.rh.cut rh' e1 z) (rv.shrink e1.le y)
        · exact p.elim
      · exact p.elim
    | err c h' =>
      rw [q] at p
      dsimp only at p
      split at p
      · rename_i z
        exact fun m' H' C e1 rh' hC => p m' H' C e1.cut (rel.rh.cut rh' e1 z) hC
      · exact p.elim
    | bad => rw [q] at p; exact p.elim
end
/-! ### a dict stands still -/
def Mp.rf (m : Mp) (F : Addr → Option HO) : Mp := ⟨m.P, m.pt, F⟩
section
variable {K : PySem.W.Frag} {m : Mp} {n : Nat} {H : Hp} {F : Addr → Option HO}
mutual
theorem Rv.rf : ∀ {v : V} {d : D}, Rv K m n H v d → Rv K (m.rf F) n H v d
  | _, _, .non => .non
  | _, _, .bl b => .bl b
  | _, _, .int i => .int i
  | _, _, .str x => .str x
  | _, _, .wd h1 h2 => .wd h1 h2
  | _, _, .tup (.inl h) r => .tup (.inl h) (Rvs.rf r)
  | _, _, .tup (.inr h) r => .tup (.inr ⟨h.1, h.2⟩) (Rvs.rf r)
  | _, _, .vl h q r => .vl h q (Rvs.rf r)
  | _, _, .fl (.inl h) r => .fl (.inl h) (Rvs.rf r)
  | _, _, .fl (.inr h) r => .fl (.inr ⟨h.1, h.2⟩) (Rvs.rf r)
  | _, _, .ref (i := i) hi => Rv.ref (m := m.rf F) hi
theorem Rvs.rf : ∀ {vs : List V} {ds : List D}, Rvs K m n H vs ds → Rvs K (m.rf F) n H vs ds
  | _, _, .nil => .nil
  | _, _, .cons a b => .cons (Rv.rf a) (Rvs.rf b)
end
theorem RPs.rf {l : List (Key × V)} {l' : List (DK × D)} (r : RPs K m n H l l') : RPs K (m.rf F) n H l l' := Paired.mapP r fun _ _ z => ⟨z.1, z.2.1, z.2.2.rf⟩
end
theorem RO.rf {g : G} {m : Mp} {n : Nat} {H : Hp} {F : Addr → Option HO} {a : Addr} {o : O} (r : RO g m n H a o) (q : F a = m.F a) : RO g (m.rf F) n H a o := by
  cases o with
  | lst ds => obtain ⟨vs, h, k⟩ := r; exact ⟨vs, h, k.rf⟩
  | dct kvs => obtain ⟨vs, h, k⟩ := r; exact ⟨vs, h, k.rf⟩
  | ins c fs => obtain ⟨C, dx, fvs, h, k, l, l2⟩ := r; exact ⟨C, dx, fvs, h, k, l, l2.rf⟩
  | frz kvs => obtain ⟨od, vs, h, k0, k⟩ := r; exact ⟨od, vs, h, q.trans k0, k.rf⟩
  | ext t ds => obtain ⟨φ, vs, h, kf, k0, kc, k⟩ := r; exact ⟨φ, vs, h, q.trans kf, k0, kc.as (fun _ _ z _ => z) (fun _ _ _ z => z), k.rf⟩
def lkF (m : Mp) (i : Nat) (o : Option HO) : Addr → Option HO := fun a => if a = m i then o else m.F a
theorem lkF_ne {m : Mp} {i : Nat} {o : Option HO} {a : Addr} (h : a ≠ m i) : lkF m i o a = m.F a := if_neg h
theorem lkF_same {m : Mp} {i : Nat} {o : Option HO} : lkF m i o (m i) = o := if_pos rfl
/-- an object of the ideal heap is laid anew, frozen or thawed -/
theorem RH.relay {g : G} {m : Mp} {h : IH} {H : Hp} {i : Nat} {o : HO} {u : O} {w : Option HO} (r : RH g m h H) (hi : i < h.length) (ho : NT o) (hw : (∀ kvs, u ≠ .frz kvs) → w = none) (hw2 : ∀ z, w = some z → True) (hu : RO g (m.rf (lkF m i w)) h.length (upd H (m i) o) (m i) u) (hx : ∀ t ds, h[i]? ≠ some (.ext t ds)) : RH g (m.rf (lkF m i w)) (h.set i u) (upd H (m i) o) where
  obj := fun j x hj => by
    rw [List.length_set]
    by_cases hij : j = i
    · subst hij
      rw [List.getElem?_set_self hi] at hj
      cases hj
      exact hu
    · rw [List.getElem?_set_ne (Ne.symm hij)] at hj
      have q := r.obj j x hj
      have hjl : j < h.length := (List.getElem?_eq_some_iff.mp hj).1
      have ne : m j ≠ m i := fun z => hij (r.inj j i hjl hi z)
      exact (q.mono (Ex.store r hi ho) (by rw [upd_ne ne])).rf (lkF_ne ne)
  inj := fun a b ha hb => r.inj a b (by rwa [List.length_set] at ha) (by rwa [List.length_set] at hb)
  tab := by
    have q := r.obj i h[i] (List.getElem?_eq_getElem hi)
    cases e : h[i] with
    | lst ds => rw [e] at q; obtain ⟨vs, z, _⟩ := q; exact tabs_store r.tab z NT.lst (fun _ y => by cases y)
    | dct kvs => rw [e] at q; obtain ⟨vs, z, _⟩ := q; exact tabs_store r.tab z NT.dK (fun _ y => by cases y)
    | ins c fs => rw [e] at q; obtain ⟨C, dx, fvs, z, _⟩ := q; exact tabs_store r.tab z NT.ins (fun _ y => by cases y)
    | frz kvs => rw [e] at q; obtain ⟨od, vs, z, _⟩ := q; exact tabs_store r.tab z NT.frz (fun _ y => by cases y)
    | ext t ds => exact absurd (by rw [List.getElem?_eq_getElem hi, e]) (hx t ds)
  frm := fun q hq => by
    rw [List.length_set]
    exact ((r.frm q hq).mono (Ex.store r hi ho)).rf
  prt := fun a z => by
    obtain ⟨v, e, k⟩ := r.prt a z
    by_cases ha : a = m i
    · exact ⟨o, by rw [ha, upd_same], ho⟩
    · exact ⟨v, by rw [upd_ne ha]; exact e, k⟩
  npr := fun j hj => r.npr j (by rwa [List.length_set] at hj)
  fz1 := fun j x hj nf nx => by
    show lkF m i w (m j) = none
    by_cases hij : j = i
    · subst hij
      rw [List.getElem?_set_self hi] at hj
      cases hj
      rw [lkF_same]
      exact hw nf
    · rw [List.getElem?_set_ne (Ne.symm hij)] at hj
      have hjl : j < h.length := (List.getElem?_eq_some_iff.mp hj).1
      rw [lkF_ne fun z => hij (r.inj j i hjl hi z)]
      exact r.fz1 j x hj nf nx
  fz2 := fun a v z => by
    by_cases ha : a = m i
    · exact ⟨o, by rw [ha, upd_same], ho⟩
    · have z : lkF m i w a = some v := z
      rw [lkF_ne ha] at z
      obtain ⟨x, e, k⟩ := r.fz2 a v z
      exact ⟨x, by rw [upd_ne ha]; exact e, k⟩
  fz3 := fun a z => by
    show lkF m i w a = none
    rw [lkF_ne fun q => r.npr i hi (by rw [← q]; exact z)]
    exact r.fz3 a z
theorem Ex.lk {g : G} {m : Mp} {h : IH} {H : Hp} {i : Nat} {o : HO} {w : Option HO} (r : RH g m h H) (hi : i < h.length) (ho : NT o) (hf : m.F (m i) = none) : Ex m h.length H (m.rf (lkF m i w)) h.length (upd H (m i) o) := by
  have ex := Ex.store (o := o) r hi ho
  refine ⟨ex.le, ex.prot, ex.same, ex.new, ex.keep, ex.dom, fun a u z => ?_⟩
  show lkF m i w a = some u
  rw [lkF_ne fun q => by rw [q, hf] at z; cases z]
  exact z
theorem Ex.unlk {m m' : Mp} {h h' : IH} {H H' : Hp} {i : Nat} {o : HO} (e : Ex m h.length H m' h'.length H') (hi : i < h.length) (ho : NT o) (hf : m.F (m i) = none) : Ex m h.length H (m'.rf (lkF m' i none)) h'.length (upd H' (m' i) o) := by
  have e0 := e.same i hi
  refine ⟨e.le, e.prot, e.same, e.new, fun a x hx q k => ?_, fun a x hx k => ?_, fun a u z => ?_⟩
  · rw [upd_ne (by rw [e0]; exact Ne.symm (q i hi))]
    exact e.keep a x hx q k
  · by_cases ha : a = m' i
    · exact ⟨o, by rw [ha, upd_same], ho⟩
    · rw [upd_ne ha]
      exact e.dom a x hx k
  · show lkF m' i none a = some u
    rw [lkF_ne fun q => by rw [q, e0, hf] at z; cases z]
    exact e.fz a u z
section
variable {X : Cx}
def tLockX (t : TE) : TE := fun σ H Q => ∃ d u, H d = some u ∧ Mut (some u) ∧ ∀ od, t σ (upd H d (.frz od u)) fun v H' => ∃ od' u', H' d = some (.frz od' u') ∧ Q v (upd H' d u')
theorem pe_lockX {e : Expr} {t : TE} (h : PE X e t) : PE X e (tLockX t) := by
  refine ⟨fun pins s σ H Q I hw => ?_⟩
  obtain ⟨d, u, hd, mu, hw⟩ := hw
  obtain ⟨od, I1⟩ := I.lock hd mu
  refine thn (h.run pins s σ _ _ I1 (hw od)) fun v s1 ⟨x, H1, I2, r, od', u', e2, q⟩ => ?_
  exact ⟨x, _, I2.unlock e2 (I.nofrz hd mu), r, q⟩
def tLockSX (t : TS) : TS := fun D σ H => ∃ d u, H d = some u ∧ Mut (some u) ∧ ∀ od, t ⟨fun σ' H' => ∃ od' u', H' d = some (.frz od' u') ∧ D.nx σ' (upd H' d u'), fun v H' => ∃ od' u', H' d = some (.frz od' u') ∧ D.rt v (upd H' d u'),
  fun σ' H' => ∃ od' u', H' d = some (.frz od' u') ∧ D.bk σ' (upd H' d u'), fun σ' H' => ∃ od' u', H' d = some (.frz od' u') ∧ D.ct σ' (upd H' d u')⟩ σ (upd H d (.frz od u))
theorem ps_lockX {st : Stmt} {t : TS} (h : PS X st t) : PS X st (tLockSX t) := by
  refine ⟨fun pins s σ H D I hw => ?_⟩
  obtain ⟨d, u, hd, mu, hw⟩ := hw
  obtain ⟨od, I1⟩ := I.lock hd mu
  refine thn (h.run pins s σ _ _ I1 (hw od)) fun f s1 q => ?_
  cases f with
  | next => obtain ⟨σ', H', I2, od', u', e, q⟩ := q; exact ⟨σ', _, I2.unlock e (I.nofrz hd mu), q⟩
  | brk => obtain ⟨σ', H', I2, od', u', e, q⟩ := q; exact ⟨σ', _, I2.unlock e (I.nofrz hd mu), q⟩
  | cont => obtain ⟨σ', H', I2, od', u', e, q⟩ := q; exact ⟨σ', _, I2.unlock e (I.nofrz hd mu), q⟩
  | ret v => obtain ⟨x, σ', H', I2, r, od', u', e, q⟩ := q; exact ⟨x, σ', _, I2.unlock e (I.nofrz hd mu), r, q⟩
end
def lockE (fd b : ME) : ME := fun en h => match fd en h with
  | .ok x _ => (match dctAt h x with
    | some (i, kvs) => (match b en (h.set i (.frz kvs)) with
      | .ok d h2 => if h2[i]? = some (.frz kvs) then .ok d (h2.set i (.dct kvs)) else .bad
      | _ => .bad)
    | none => .bad)
  | _ => .bad
def unl (i : Nat) (kvs : List (DK × D)) (h : IH) (k : IH → SO) : SO := if h[i]? = some (.frz kvs) then k (h.set i (.dct kvs)) else .bad
def lockS (fd : ME) (b : MS) : MS := fun en h => match fd en h with
  | .ok x _ => (match dctAt h x with
    | some (i, kvs) => (match b en (h.set i (.frz kvs)) with
      | .nx en' h2 => unl i kvs h2 fun h3 => .nx en' h3
      | .rt d h2 => unl i kvs h2 fun h3 => .rt d h3
      | .bk en' h2 => unl i kvs h2 fun h3 => .bk en' h3
      | .ct en' h2 => unl i kvs h2 fun h3 => .ct en' h3
      | .err c h2 => .err c h2
      | .bad => .bad)
    | none => .bad)
  | _ => .bad
section
variable {g : G} {m : Mp} {h : IH} {H : Hp} {i : Nat} {kvs : List (DK × D)}
/-- it is frozen -/
theorem lock_rh (rh : RH g m h H) (hi : h[i]? = some (.dct kvs)) : ∃ kws, H (m i) = some (.dK kws) ∧ ∀ od, Ex m h.length H (m.rf (lkF m i (some (.frz od (.dK kws))))) (h.set i (.frz kvs)).length (upd H (m i) (.frz od (.dK kws))) ∧ RH g (m.rf (lkF m i (some (.frz od (.dK kws))))) (h.set i (.frz kvs)) (upd H (m i) (.frz od (.dK kws))) := by
  have hl : i < h.length := (List.getElem?_eq_some_iff.mp hi).1
  have hf := rh.fz1 i _ hi (fun _ z => by cases z) (fun _ _ z => by cases z)
  obtain ⟨kws, y1, y2⟩ := rh.obj i _ hi
  refine ⟨kws, y1, fun od => ?_⟩
  have ex := Ex.lk (o := .frz od (.dK kws)) (w := some (.frz od (.dK kws))) rh hl NT.frz hf
  refine ⟨by rw [List.length_set]; exact ex, rh.relay hl NT.frz (fun z => absurd rfl (z kvs)) (fun _ _ => trivial) ⟨od, kws, upd_same, lkF_same, y2.mono ex⟩ (fun _ _ z => by rw [hi] at z; cases z)⟩
/-- it thaws -/
theorem unlock_rh {m' : Mp} {h' : IH} {H' : Hp} (rh : RH g m h H) (hi : h[i]? = some (.dct kvs)) (e : Ex m h.length H m' h'.length H') (rh' : RH g m' h' H') (hi' : h'[i]? = some (.frz kvs)) :
    ∃ od kws, H' (m i) = some (.frz od (.dK kws)) ∧ Ex m h.length H (m'.rf (lkF m' i none)) (h'.set i (.dct kvs)).length (upd H' (m i) (.dK kws)) ∧ RH g (m'.rf (lkF m' i none)) (h'.set i (.dct kvs)) (upd H' (m i) (.dK kws)) ∧
      ∀ v d, Rv g.K m' h'.length H' v d → Rv g.K (m'.rf (lkF m' i none)) (h'.set i (.dct kvs)).length (upd H' (m i) (.dK kws)) v d := by
  have hl : i < h.length := (List.getElem?_eq_some_iff.mp hi).1
  have hl' : i < h'.length := (List.getElem?_eq_some_iff.mp hi').1
  have hf := rh.fz1 i _ hi (fun _ z => by cases z) (fun _ _ z => by cases z)
  have e0 := e.same i hl
  obtain ⟨od, kws, y1, y0, y2⟩ := rh'.obj i _ hi'
  have ex := Ex.store (o := .dK kws) rh' hl' NT.dK
  have q1 := Ex.unlk (o := .dK kws) e hl NT.dK hf
  have q2 := rh'.relay (w := none) (u := .dct kvs) hl' (NT.dK (xs := kws)) (fun _ => rfl) (fun _ _ => trivial) ⟨kws, upd_same, (y2.mono ex).rf⟩ (fun _ _ z => by rw [hi'] at z; cases z)
  rw [e0] at y1 q1 q2
  refine ⟨od, kws, y1, by rw [List.length_set]; exact q1, q2, fun v d r => ?_⟩
  rw [List.length_set]
  have := (r.mono ex).rf (F := lkF m' i none)
  rw [e0] at this
  exact this
end
section
variable {X : Cx} {T : TF} {E : XK} {a b c e o : Expr} {es rest : List Expr} {pos : Pos} {f k l : ME} {st : Stmt} {sts sts2 : List Stmt} {fs ks : MS} {tA : MT}
theorem de_lock (fd : ME) (hb : DE X T E e f) : DE X T E e (lockE fd f) :=
  PE.imp (pe_lockX hb) fun σ H Q ⟨m, h, en, rel, p⟩ => by
    unfold lockE at p
    split at p
    · rename_i x h1 _
      split at p
      · rename_i i kvs hx
        obtain ⟨rfl, hi⟩ := dctAt_ok hx
        obtain ⟨kws, y1, y2⟩ := lock_rh rel.rh hi
        refine ⟨m i, .dK kws, y1, trivial, fun od => ?_⟩
        obtain ⟨ex, rh1⟩ := y2 od
        refine ⟨_, h.set i (.frz kvs), en, rel.next ex rh1, ?_⟩
        cases q : f en (h.set i (.frz kvs)) with
        | bad => rw [q] at p; exact p.elim
        | err c h2 => rw [q] at p; exact p.elim
        | ok d h2 =>
          rw [q] at p
          dsimp only at p
          split at p
          · rename_i hi2
            intro m' H' v e2 rh2 rv2
            obtain ⟨od', kws', z1, z2, z3, z4⟩ := unlock_rh rel.rh hi (ex.trans e2) rh2 hi2
            exact ⟨od', .dK kws', z1, p _ _ v z2 z3 (z4 _ _ rv2)⟩
          · exact p.elim
      · exact p.elim
    · exact p.elim
theorem ds_lock (fd : ME) (hb : DS X T E st fs) : DS X T E st (lockS fd fs) :=
  PS.imp (ps_lockX hb) fun D σ H ⟨m, h, en, rel, p⟩ => by
    unfold lockS at p
    split at p
    · rename_i x h1 _
      split at p
      · rename_i i kvs hx
        obtain ⟨rfl, hi⟩ := dctAt_ok hx
        obtain ⟨kws, y1, y2⟩ := lock_rh rel.rh hi
        refine ⟨m i, .dK kws, y1, trivial, fun od => ?_⟩
        obtain ⟨ex, rh1⟩ := y2 od
        refine ⟨_, h.set i (.frz kvs), en, rel.next ex rh1, ?_⟩
        cases q : fs en (h.set i (.frz kvs)) with
        | bad => rw [q] at p; exact p.elim
        | err c h2 =>
          rw [q] at p
          exact fun m' H' C e2 rh2 hC => p m' H' C (ex.trans e2) rh2 hC
        | nx en' h2 =>
          rw [q] at p
          dsimp only at p
          unfold unl at p
          split at p
          · rename_i hi2
            intro m' H' σ' e2 rel2
            obtain ⟨od', kws', z1, z2, z3, z4⟩ := unlock_rh rel.rh hi (ex.trans e2) rel2.rh hi2
            exact ⟨od', .dK kws', z1, p _ _ σ' z2 ⟨z3, rel2.len, fun j d hj => let ⟨v, h1, h2⟩ := rel2.env j d hj; ⟨v, h1, z4 _ _ h2⟩⟩⟩
          · exact p.elim
        | bk en' h2 =>
          rw [q] at p
          dsimp only at p
          unfold unl at p
          split at p
          · rename_i hi2
            intro m' H' σ' e2 rel2
            obtain ⟨od', kws', z1, z2, z3, z4⟩ := unlock_rh rel.rh hi (ex.trans e2) rel2.rh hi2
            exact ⟨od', .dK kws', z1, p _ _ σ' z2 ⟨z3, rel2.len, fun j d hj => let ⟨v, h1, h2⟩ := rel2.env j d hj; ⟨v, h1, z4 _ _ h2⟩⟩⟩
          · exact p.elim
        | ct en' h2 =>
          rw [q] at p
          dsimp only at p
          unfold unl at p
          split at p
          · rename_i hi2
            intro m' H' σ' e2 rel2
            obtain ⟨od', kws', z1, z2, z3, z4⟩ := unlock_rh rel.rh hi (ex.trans e2) rel2.rh hi2
            exact ⟨od', .dK kws', z1, p _ _ σ' z2 ⟨z3, rel2.len, fun j d hj => let ⟨v, h1, h2⟩ := rel2.env j d hj; ⟨v, h1, z4 _ _ h2⟩⟩⟩
          · exact p.elim
        | rt d h2 =>
          rw [q] at p
          dsimp only at p
          unfold unl at p
          split at p
          · rename_i hi2
            intro m' H' v e2 rh2 rv2
            obtain ⟨od', kws', z1, z2, z3, z4⟩ := unlock_rh rel.rh hi (ex.trans e2) rh2 hi2
            exact ⟨od', .dK kws', z1, p _ _ v z2 z3 (z4 _ _ rv2)⟩
          · exact p.elim
      · exact p.elim
    · exact p.elim
end
/-! ### a frozen dict is walked -/
def frzAt (h : IH) : D → Option (Nat × List (DK × D))
  | .ref i => match h[i]? with
    | some (.frz kvs) => some (i, kvs)
    | _ => none
  | _ => none
theorem frzAt_ok {h : IH} {d : D} {i : Nat} {kvs : List (DK × D)} (e : frzAt h d = some (i, kvs)) : d = .ref i ∧ h[i]? = some (.frz kvs) := by
  cases d with
  | ref j =>
    unfold frzAt at e
    dsimp only at e
    split at e
    · rename_i q
      cases e
      exact ⟨rfl, q⟩
    · cases e
  | _ => cases e
def keyD : DK → D
  | .inl i => .int i
  | .inr n => .wd n
theorem RPs.at {K : PySem.W.Frag} {m : Mp} {n : Nat} {H : Hp} {l : List (Key × V)} {l' : List (DK × D)} (r : RPs K m n H l l') : ∀ {i : Nat} {q : DK × D}, l'[i]? = some q → ∃ p, l[i]? = some p ∧ p.1 = dkey q.1 ∧ DKok q.1 ∧ Rv K m n H p.2 q.2 := by
  induction r with
  | nil => intro i q h; simp at h
  | cons h _ ih =>
    intro i q hq
    cases i with
    | zero =>
      simp at hq
      subst hq
      exact ⟨_, rfl, h.1, h.2.1, h.2.2⟩
    | succ i =>
      obtain ⟨p, h1, h2⟩ := ih (by simpa using hq)
      exact ⟨p, by simpa using h1, h2⟩
theorem keyD_ok {K : PySem.W.Frag} {m : Mp} {n : Nat} {H : Hp} {k : DK} (h : DKok k) : Rv K m n H (kV (dkey k)) (keyD k) := by
  cases k with
  | inl i => exact .int i
  | inr w => exact .wd (h w rfl) rfl
def walkV (fn : DK × D → D) (f : ME) : MV := fun en h => (f en h).bind fun d h1 => match frzAt h1 d with
  | some _ => .ok (fun h => (frzAt h d).map fun p => p.2.map fn) h1
  | none => .bad
section
variable {g : G} {m : Mp} {h : IH} {H : Hp} {i : Nat}
theorem frz_keep {od : Obj} {kws : List (Key × V)} {m1 : Mp} {h1 : IH} {H1 : Hp} {kvs : List (DK × D)} (hi : i < h.length) (hF : m.F (m i) = some (.frz od (.dK kws))) (ex : Ex m h.length H m1 h1.length H1) (rh : RH g m1 h1 H1) (e : h1[i]? = some (.frz kvs)) : H1 (m i) = some (.frz od (.dK kws)) ∧ RPs g.K m1 h1.length H1 kws kvs := by
  obtain ⟨od', kws', y1, y0, y2⟩ := rh.obj i _ e
  rw [ex.same i hi] at y1 y0
  have z := (ex.fz _ _ hF).symm.trans y0
  cases z
  exact ⟨y1, y2⟩
theorem its_vals {od : Obj} {kws : List (Key × V)} (hi : i < h.length) (hF : m.F (m i) = some (.frz od (.dK kws))) : ItS g m h.length H (Itd (m i) od kws) (fun h => (frzAt h (.ref i)).map fun p => p.2.map (·.2)) := by
  intro m1 h1 H1 ex rh xs e j
  obtain ⟨⟨i', kvs⟩, q, rfl⟩ := Option.map_eq_some_iff.mp e
  obtain ⟨ei, q⟩ := frzAt_ok q
  cases ei
  obtain ⟨y1, y2⟩ := frz_keep hi hF ex rh q
  have hlen := y2.length
  refine ⟨fun d hd => ?_, fun hl => ⟨y1, by rw [hlen]; simpa using hl⟩⟩
  have hd : (kvs.map (·.2))[j]? = some d := hd
  rw [List.getElem?_map] at hd
  obtain ⟨p, hp, rfl⟩ := Option.map_eq_some_iff.mp hd
  obtain ⟨u, z1, z2, z3, z4⟩ := y2.at hp
  refine ⟨⟨y1, (List.getElem?_eq_some_iff.mp z1).1⟩, fun x H' ⟨eH, k, hk⟩ => ?_⟩
  subst eH
  rw [z1] at hk
  cases hk
  exact ⟨Ex.refl _ _ _, rh, z4⟩
theorem its_keys {od : Obj} {kws : List (Key × V)} (hi : i < h.length) (hF : m.F (m i) = some (.frz od (.dK kws))) : ItS g m h.length H (Itk (m i) od kws) (fun h => (frzAt h (.ref i)).map fun p => p.2.map fun q => keyD q.1) := by
  intro m1 h1 H1 ex rh xs e j
  obtain ⟨⟨i', kvs⟩, q, rfl⟩ := Option.map_eq_some_iff.mp e
  obtain ⟨ei, q⟩ := frzAt_ok q
  cases ei
  obtain ⟨y1, y2⟩ := frz_keep hi hF ex rh q
  have hlen := y2.length
  refine ⟨fun d hd => ?_, fun hl => ⟨y1, by rw [hlen]; simpa using hl⟩⟩
  have hd : (kvs.map fun q => keyD q.1)[j]? = some d := hd
  rw [List.getElem?_map] at hd
  obtain ⟨p, hp, rfl⟩ := Option.map_eq_some_iff.mp hd
  obtain ⟨u, z1, z2, z3, z4⟩ := y2.at hp
  refine ⟨⟨y1, (List.getElem?_eq_some_iff.mp z1).1⟩, fun x H' ⟨eH, k, v, hk, hx⟩ => ?_⟩
  subst eH
  rw [z1] at hk
  cases hk
  rw [hx]
  have z2 : k = dkey p.1 := z2
  rw [z2]
  exact ⟨Ex.refl _ _ _, rh, keyD_ok z3⟩
end
section
variable {X : Cx} {T : TF} {E : XK} {a b c e o tg : Expr} {es rest : List Expr} {pos apos cpos : Pos} {f k l : ME}
theorem walk_red {fn : DK × D → D} {R : It → Hp → Prop} {σ : L2.St} {H : Hp} {J : Addr → Obj → List (Key × V) → It} (hJ : ∀ {g : G} {m : Mp} {h : IH} {H : Hp} {i : Nat} {od : Obj} {kws : List (Key × V)}, i < h.length → m.F (m i) = some (.frz od (.dK kws)) → ItS g m h.length H (J (m i) od kws) (fun h => (frzAt h (.ref i)).map fun p => p.2.map fn))
    (q : LX (ItS (gX X T)) (gX X T) E (walkV fn f) σ H R) : LE (gX X T) E f σ H fun x H1 => ∃ d o kvs, x = .ref d ∧ H1 d = some (.frz o (.dK kvs)) ∧ R (J d o kvs) H1 := by
  obtain ⟨m, h, en, rel, p⟩ := q
  refine chain rel p fun m1 h1 H1 v d e1 rel1 rv1 p1 => ?_
  cases z : frzAt h1 d with
  | none => rw [z] at p1; exact p1.elim
  | some y =>
    obtain ⟨i, kvs⟩ := y
    rw [z] at p1
    obtain ⟨rfl, hi⟩ := frzAt_ok z
    obtain ⟨od, kws, y1, y0, y2⟩ := rel1.rh.obj i _ hi
    cases rv1
    exact ⟨_, od, kws, rfl, y1, p1 m1 H1 _ (Ex.refl _ _ _) rel1.rh (hJ (List.getElem?_eq_some_iff.mp hi).1 y0)⟩
theorem di_vals (ha : DE X T E e f) (hbase : attributeBase e "values" X.env (eval e X.env) = eval e X.env := by rfl) (hline : (apos.endLine == cpos.line) = true := by rfl) : DI X T E tg (.Call (.Attribute e "values" apos) [] [] cpos) (walkV (·.2) f) :=
  PI.imp (pi_values ha hbase hline) fun σ H R q => walk_red (J := Itd) (fun h1 h2 => its_vals h1 h2) q
theorem di_keys (ha : DE X T E e f) : DI X T E tg e (walkV (fun q => keyD q.1) f) :=
  PI.imp (pi_keys ha) fun σ H R q => by
    have z := walk_red (J := Itk) (fun h1 h2 => its_keys h1 h2) q
    obtain ⟨m, h, en, rel, p⟩ := z
    refine ⟨m, h, en, rel, ?_⟩
    cases y : f en h with
    | bad => rw [y] at p; exact p
    | err c h1 => rw [y] at p; exact p
    | ok d h1 =>
      rw [y] at p
      intro m' H' v e1 rh rv
      obtain ⟨d', o, kvs, rfl, z1, z2⟩ := p m' H' v e1 rh rv
      exact ⟨d', o, rfl, .inl ⟨kvs, z1, z2⟩⟩
end
/-! ### dicts asked, popped -/
/-- a dict is read, frozen or not -/
def rdAt (h : IH) (d : D) : Option (List (DK × D)) := match dctAt h d with
  | some p => some p.2
  | none => (frzAt h d).map (·.2)
theorem rdAt_ok {g : G} {m : Mp} {h : IH} {H : Hp} {v : V} {d : D} {kvs : List (DK × D)} (rh : RH g m h H) (rv : Rv g.K m h.length H v d) (e : rdAt h d = some kvs) : ∃ a kws, v = .ref a ∧ Rd H a (.dK kws) ∧ RPs g.K m h.length H kws kvs := by
  unfold rdAt at e
  split at e
  · rename_i p hp
    obtain ⟨i, l⟩ := p
    cases e
    obtain ⟨rfl, hi⟩ := dctAt_ok hp
    obtain ⟨kws, y1, y2⟩ := rh.obj i _ hi
    cases rv
    exact ⟨_, kws, rfl, .inl y1, y2⟩
  · obtain ⟨⟨i, l⟩, hp, rfl⟩ := Option.map_eq_some_iff.mp e
    obtain ⟨rfl, hi⟩ := frzAt_ok hp
    obtain ⟨od, kws, y1, y0, y2⟩ := rh.obj i _ hi
    cases rv
    exact ⟨_, kws, rfl, .inr ⟨od, y1⟩, y2⟩
def dinD (neg : Bool) : D → D → IH → Out D := fun y x h => match rdAt h x, dkOf y with
  | some kvs, some k => .ok (.bl (if neg then !(dval kvs k).isSome else (dval kvs k).isSome)) h
  | _, _ => .bad
theorem din_red {g : G} {m : Mp} {h : IH} {H : Hp} {x y : V} {dx dy : D} {Q : VK} {E : XK} {neg : Bool} (rh : RH g m h H) (ry : Rv g.K m h.length H y dy) (rx : Rv g.K m h.length H x dx) (p : Post (Rv g.K) g m h.length H E Q (dinD neg dy dx h)) : ∃ a o, x = .ref a ∧ DGet H a y o ∧ Q (.bl (if neg then !o.isSome else o.isSome)) H := by
  unfold dinD at p
  split at p
  · rename_i kvs k h1 h2
    obtain ⟨a, kws, rfl, r1, r2⟩ := rdAt_ok rh rx h1
    obtain ⟨rfl, hk⟩ := dkOf_ok h2 ry
    have eq : (valV kws (dkey k)).isSome = (dval kvs k).isSome := by
      rcases r2.val hk with ⟨z1, z2⟩ | ⟨d, v, z1, z2, _⟩
      · rw [z1, z2]; rfl
      · rw [z1, z2]; rfl
    refine ⟨a, valV kws (dkey k), rfl, .inl ⟨kws, dkey k, r1, rfl, rfl⟩, ?_⟩
    rw [eq]
    exact Post.val p rh (.bl _)
  · exact p.elim
section
variable {X : Cx} {T : TF} {E : XK} {a b c e o tg : Expr} {es rest : List Expr} {pos apos cpos : Pos} {f k l : ME}
theorem de_din {n : Nat} (hr : Room n X.A) (ha : DE X T E a f) (hb : DE X T E b k) (hm : behindInMarks .In b = false := by first | exact nomark _ | rfl) : DE X T E (.Compare a [.In] [b] pos) (op2 (dinD false) f k) :=
  PE.imp (pe_cmp (pc_din (by have := hr.un; omega) ha hb) hm) fun σ H Q ⟨m, h, en, rel, p⟩ => chain rel p fun m1 h1 H1 v d e1 rel1 rv1 p1 => chain rel1 p1 fun m2 h2 H2 w d2 e2 rel2 rv2 p2 => din_red (neg := false) rel2.rh (rv1.mono e2) rv2 p2
theorem de_dnotin {n : Nat} (hr : Room n X.A) (ha : DE X T E a f) (hb : DE X T E b k) (hm : behindInMarks .NotIn b = false := by first | exact nomark _ | rfl) : DE X T E (.Compare a [.NotIn] [b] pos) (op2 (dinD true) f k) :=
  PE.imp (pe_cmp (pc_dnotin (by have := hr.un; omega) ha hb) hm) fun σ H Q ⟨m, h, en, rel, p⟩ => chain rel p fun m1 h1 H1 v d e1 rel1 rv1 p1 => chain rel1 p1 fun m2 h2 H2 w d2 e2 rel2 rv2 p2 => din_red (neg := true) rel2.rh (rv1.mono e2) rv2 p2
theorem dt_din {n : Nat} (hr : Room n X.A) (ha : DE X T E a f) (hb : DE X T E b k) (hm : behindInMarks .In b = false := by first | exact nomark _ | rfl) : DT X T E (.Compare a [.In] [b] pos) (tst (op2 (dinD false) f k)) :=
  PT.imp (pt_cmp (pc_din (by have := hr.un; omega) ha hb) hm) fun σ H Q ⟨m, h, en, rel, p⟩ => by
    have p : Post RB (gX X T) m h.length H E Q ((op2 (dinD false) f k en h).bind asB) := p
    obtain ⟨m0, h0, en0, rel0, p0⟩ : LE (gX X T) E (op2 (dinD false) f k) σ H (fun x H' => ∃ k, x = .bl k ∧ Q k H') := chain rel p fun m1 h1 H1 v d e1 rel1 rv1 p1 => asB_post (n := 0) rel1.rh rv1 p1
    exact chain rel0 p0 fun m1 h1 H1 v d e1 rel1 rv1 p1 => chain rel1 p1 fun m2 h2 H2 w d2 e2 rel2 rv2 p2 => din_red (neg := false) rel2.rh (rv1.mono e2) rv2 p2
theorem dt_dnotin {n : Nat} (hr : Room n X.A) (ha : DE X T E a f) (hb : DE X T E b k) (hm : behindInMarks .NotIn b = false := by first | exact nomark _ | rfl) : DT X T E (.Compare a [.NotIn] [b] pos) (tst (op2 (dinD true) f k)) :=
  PT.imp (pt_cmp (pc_dnotin (by have := hr.un; omega) ha hb) hm) fun σ H Q ⟨m, h, en, rel, p⟩ => by
    have p : Post RB (gX X T) m h.length H E Q ((op2 (dinD true) f k en h).bind asB) := p
    obtain ⟨m0, h0, en0, rel0, p0⟩ : LE (gX X T) E (op2 (dinD true) f k) σ H (fun x H' => ∃ k, x = .bl k ∧ Q k H') := chain rel p fun m1 h1 H1 v d e1 rel1 rv1 p1 => asB_post (n := 0) rel1.rh rv1 p1
    exact chain rel0 p0 fun m1 h1 H1 v d e1 rel1 rv1 p1 => chain rel1 p1 fun m2 h2 H2 w d2 e2 rel2 rv2 p2 => din_red (neg := true) rel2.rh (rv1.mono e2) rv2 p2
/-- d[k], frozen or not -/
def dgetF : D → D → IH → Out D := fun x y h => match rdAt h x, dkOf y with
  | some kvs, some k => (match dval kvs k with
    | some d => .ok d h
    | none => .bad)
  | _, _ => .bad
theorem de_dgetF {nr : Nat} (hr : Room nr X.A) (ha : DE X T E a f) (hb : DE X T E b k) (hp : NoSl b := by exact fun _ _ => rfl) : DE X T E (.Subscript a b pos) (op2 dgetF f k) :=
  PE.imp (pe_dget (by have := hr.un; omega) ha hb hp) fun σ H Q ⟨m, h, en, rel, p⟩ => chain rel p fun m1 h1 H1 v d e1 rel1 rv1 p1 => chain rel1 p1 fun m2 h2 H2 w d2 e2 rel2 rv2 p2 => by
    unfold dgetF at p2
    split at p2
    · rename_i kvs k h1 h2
      obtain ⟨a, kws, rfl, r1, r2⟩ := rdAt_ok rel2.rh (rv1.mono e2) h1
      obtain ⟨rfl, hk⟩ := dkOf_ok h2 rv2
      rcases r2.val hk with ⟨z1, z2⟩ | ⟨d, v, z1, z2, z3⟩
      · rw [z1] at p2; exact p2.elim
      · rw [z1] at p2
        exact ⟨a, v, rfl, .inl ⟨kws, dkey k, r1, rfl, z2.symm⟩, Post.val p2 rel2.rh z3⟩
    · exact p2.elim
/-- d.pop(k) -/
def dpop1E (f k : ME) : ME := fun en h => (f en h).bind fun x h1 => grd ((dctAt h1 x).isSome) ((k en h1).bind fun y h2 => match dctAt h2 x, dkOf y with
  | some (i, kvs), some k => (match dval kvs k with
    | some v => .ok v (h2.set i (.dct (ddrop kvs k)))
    | none => .bad)
  | _, _ => .bad)
theorem isD_of {g : G} {m : Mp} {h : IH} {H : Hp} {v : V} {d : D} (rh : RH g m h H) (rv : Rv g.K m h.length H v d) (e : (dctAt h d).isSome = true) : ∃ a, v = .ref a ∧ IsD H a := by
  obtain ⟨⟨i, kvs⟩, q⟩ := Option.isSome_iff_exists.mp e
  obtain ⟨rfl, hi⟩ := dctAt_ok q
  obtain ⟨kws, y1, y2⟩ := rh.obj i _ hi
  cases rv
  exact ⟨_, rfl, .inl ⟨kws, .inl y1⟩⟩
theorem de_dpop1 {apos : Pos} (ha : DE X T E a f) (hb : DE X T E b k) (hm : M1 X a "pop" apos b pos := by exact ⟨rfl, rfl, rfl, rfl⟩) : DE X T E (.Call (.Attribute a "pop" apos) [b] [] pos) (dpop1E f k) :=
  PE.imp (pe_dpop1 ha hb hm) fun σ H Q ⟨m, h, en, rel, p⟩ => chain rel p fun m1 h1 H1 v d e1 rel1 rv1 p1 => by
    obtain ⟨hc, p1⟩ := Post.grd p1
    obtain ⟨a, rfl, ha⟩ := isD_of rel1.rh rv1 hc
    refine ⟨a, rfl, ha, chain rel1 p1 fun m2 h2 H2 w d2 e2 rel2 rv2 p2 => ?_⟩
    split at p2
    · rename_i i kvs k q1 q2
      obtain ⟨rfl, hi⟩ := dctAt_ok q1
      obtain ⟨kws, y1, y2⟩ := rel2.rh.obj i _ hi
      obtain ⟨rfl, hk⟩ := dkOf_ok q2 rv2
      have ra := rv1.mono e2
      cases ra
      rcases y2.val hk with ⟨z1, z2⟩ | ⟨d, v, z1, z2, z3⟩
      · rw [z1] at p2; exact p2.elim
      · rw [z1] at p2
        obtain ⟨ex, rh'⟩ := dct_store rel2.rh hi (y2.drop hk)
        exact ⟨kws, dkey k, v, y1, rfl, z2, p2 m2 _ v ex rh' (z3.mono ex)⟩
    · exact p2.elim
/-- d.pop(k, x) -/
def dpop2E (f k l : ME) : ME := fun en h => (f en h).bind fun x h1 => grd ((dctAt h1 x).isSome) ((k en h1).bind fun y h2 => (l en h2).bind fun z h3 => match dctAt h3 x, dkOf y with
  | some (i, kvs), some k => (match dval kvs k with
    | some v => .ok v (h3.set i (.dct (ddrop kvs k)))
    | none => .ok z h3)
  | _, _ => .bad)
theorem de_dpop2 {apos : Pos} (ha : DE X T E a f) (hb : DE X T E b k) (hc : DE X T E c l) (hm : M2 X a "pop" apos b c pos := by exact ⟨rfl, rfl, rfl, rfl⟩) : DE X T E (.Call (.Attribute a "pop" apos) [b, c] [] pos) (dpop2E f k l) :=
  PE.imp (pe_dpop2 ha hb hc hm) fun σ H Q ⟨m, h, en, rel, p⟩ => chain rel p fun m1 h1 H1 v d e1 rel1 rv1 p1 => by
    obtain ⟨hc, p1⟩ := Post.grd p1
    obtain ⟨a, rfl, ha⟩ := isD_of rel1.rh rv1 hc
    refine ⟨a, rfl, ha, chain rel1 p1 fun m2 h2 H2 w d2 e2 rel2 rv2 p2 => chain rel2 p2 fun m3 h3 H3 w3 d3 e3 rel3 rv3 p3 => ?_⟩
    split at p3
    · rename_i i kvs k q1 q2
      obtain ⟨rfl, hi⟩ := dctAt_ok q1
      obtain ⟨kws, y1, y2⟩ := rel3.rh.obj i _ hi
      obtain ⟨rfl, hk⟩ := dkOf_ok q2 rv2
      have ra := (rv1.mono e2).mono e3
      cases ra
      refine ⟨kws, dkey k, y1, rfl, fun v hv => ?_, fun hv => ?_⟩
      · rcases y2.val hk with ⟨z1, z2⟩ | ⟨d, v', z1, z2, z3⟩
        · rw [z2] at hv; cases hv
        · rw [z2] at hv
          cases hv
          rw [z1] at p3
          obtain ⟨ex, rh'⟩ := dct_store rel3.rh hi (y2.drop hk)
          exact p3 m3 _ _ ex rh' (z3.mono ex)
      · rcases y2.val hk with ⟨z1, z2⟩ | ⟨d, v', z1, z2, z3⟩
        · rw [z1] at p3
          exact Post.val p3 rel3.rh rv3
        · rw [z2] at hv; cases hv
    · exact p3.elim
end
end DL

set_option Elab.async false
set_option linter.all false
set_option maxRecDepth 100000
set_option autoImplicit false
set_option maxHeartbeats 1000000
/-! sorted() of tuples of ints. -/
namespace DL
open PySem PySem.Spec PyProof.Rows L2
/-! ### a sort that the kernel reckons -/
def insB {α : Type} (le : α → α → Bool) (a : α) : List α → List α
  | [] => [a]
  | b :: l => if le a b then a :: b :: l else b :: insB le a l
def isrt {α : Type} (le : α → α → Bool) : List α → List α
  | [] => []
  | a :: l => insB le a (isrt le l)
theorem insB_mid {α : Type} {le : α → α → Bool} {a : α} : ∀ (l1 l2 : List α), (∀ b, b ∈ l1 → (!le a b) = true) → (∀ b ∈ l2, le a b = true) → insB le a (l1 ++ l2) = l1 ++ a :: l2
  | [], [], _, _ => rfl
  | [], b :: l2, _, h => by
    show insB le a (b :: l2) = _
    unfold insB
    rw [if_pos (h b List.mem_cons_self)]
    rfl
  | x :: l1, l2, h1, h2 => by
    have hx : le a x = false := by simpa using h1 x List.mem_cons_self
    show insB le a (x :: (l1 ++ l2)) = _
    unfold insB
    rw [if_neg (by rw [hx]; decide), insB_mid l1 l2 (fun b hb => h1 b (List.mem_cons_of_mem _ hb)) h2]
    rfl
theorem isrt_eq {α : Type} {le : α → α → Bool} (trans : ∀ (a b c : α), le a b → le b c → le a c) (total : ∀ (a b : α), le a b || le b a) : ∀ l : List α, l.mergeSort le = isrt le l
  | [] => by simp [isrt]
  | a :: l => by
    obtain ⟨l1, l2, e1, e2, h⟩ := List.mergeSort_cons trans total a l
    have s := List.pairwise_mergeSort trans total (a :: l)
    rw [e1] at s
    have s2 := (List.pairwise_append.mp s).2.1
    unfold isrt
    rw [← isrt_eq trans total l, e2, e1, insB_mid l1 l2 h fun b hb => (List.pairwise_cons.mp s2).1 b hb]
theorem insB_perm {α : Type} {le : α → α → Bool} (a : α) : ∀ l : List α, (insB le a l).Perm (a :: l)
  | [] => .refl _
  | b :: l => by
    unfold insB
    split
    · exact .refl _
    · exact ((insB_perm a l).cons b).trans (.swap a b l)
theorem isrt_perm {α : Type} {le : α → α → Bool} : ∀ l : List α, (isrt le l).Perm l
  | [] => .refl _
  | a :: l => (insB_perm a _).trans ((isrt_perm l).cons a)
theorem isrt_pair {α β : Type} {R : α → β → Prop} {le : α → α → Bool} {le' : β → β → Bool} (hc : ∀ a b a' b', R a b → R a' b' → le a a' = le' b b') : ∀ {l : List α} {l' : List β}, Paired R l l' → Paired R (isrt le l) (isrt le' l') := by
  have ins : ∀ {a : α} {b : β} {l : List α} {l' : List β}, R a b → Paired R l l' → Paired R (insB le a l) (insB le' b l') := by
    intro a b l l' hab h
    induction h with
    | nil => exact .cons hab .nil
    | cons h1 h2 ih =>
      unfold insB
      rw [hc _ _ _ _ hab h1]
      split
      · exact .cons hab (.cons h1 h2)
      · exact .cons h1 ih
  intro l l' h
  induction h with
  | nil => exact .nil
  | cons h1 _ ih => exact ins h1 ih
/-! ### the rule over the hand layer -/
def rSortG (K : PySem.W.Frag) : List V → Hp → VK → Prop := fun vs H Q => ∃ (a : Addr) (bs : List (V × PyData)), vs = [.ref a] ∧ SqL K H a (bs.map (·.1)) ∧ (∀ b ∈ bs, Dp K H b.1 b.2 ∧ b.2.depth ≤ 8) ∧ PySem.W.AllAlike (bs.map (·.2)) ∧ PySem.W.Sortable (bs.map (·.2)) ∧
  ∀ p, H p = none → Q (.ref p) (upd H p (.lst ((bs.mergeSort (PySem.W.dataLe false fun b => b.2)).map (·.1))))
theorem each_of_vals {X : Cx} {pins : List (Addr × Obj)} {σ : L2.St} {H : Hp} {s : Shared} (I : Inv X pins σ H s) : ∀ {bs : List (V × PyData)} {us : List Value}, (∀ b ∈ bs, Dp X.K H b.1 b.2) → Vals (bs.map (·.1)) us → PySem.W.EachIs (fun (v : Value) (b : V × PyData) => RelV b.1 v) us bs ∧ PySem.W.EachIs (fun (v : Value) (b : V × PyData) => ∃ as, Reads s.heap v b.2 as) us bs
  | [], us, _, h => by
    have h : Vals [] us := h
    cases h
    exact ⟨.nil, .nil⟩
  | b :: bs, us, hd, h => by
    have h : Vals (b.1 :: bs.map (·.1)) us := h
    cases h with
    | cons h1 h2 =>
      obtain ⟨q1, q2⟩ := each_of_vals I (fun x hx => hd x (List.mem_cons_of_mem _ hx)) h2
      exact ⟨.cons h1 q1, .cons (Dp.reads I _ _ _ (hd b List.mem_cons_self) h1) q2⟩
theorem vals_of_each : ∀ {bs : List (V × PyData)} {us : List Value}, PySem.W.EachIs (fun (v : Value) (b : V × PyData) => RelV b.1 v) us bs → Vals (bs.map (·.1)) us
  | _, _, .nil => .nil
  | _, _, .cons a b => .cons a (vals_of_each b)
theorem cr_sortG {X : Cx} {n : Nat} (hr : Room n X.A) : CallR X (.builtin "sorted") (rSortG X.K) := by
  intro pins s σ H vs us Q I r h
  obtain ⟨a, bs, rfl, hs, hd, hal, hk, q⟩ := h
  obtain ⟨its, rv, hl, hz⟩ := I.list hs
  rw [Vals.ref1 r]
  obtain ⟨e1, e2⟩ := each_of_vals I (fun b hb => (hd b hb).1) rv
  have hu : X.A.units + 64 < cLine := hr.units
  have hz' : bs.length ≤ sizeLine := by rw [List.length_map] at hz; exact hz
  refine PySem.W.sorted_data (enc := fun b : V × PyData => b.2) (R := fun (v : Value) (b : V × PyData) => RelV b.1 v) hl.isList e1 e2 hal hk hz' (fun b hb => by have := (hd b hb).2; omega) fun out ho he => ?_
  obtain ⟨ep, he'⟩ := PyProof.Rows.sortedAll_at s.heap its out.toArray
  have hlen : ((bs.mergeSort (PySem.W.dataLe false fun b => b.2)).map (·.1)).length ≤ sizeLine := by
    rw [List.length_map, List.length_mergeSort]
    exact hz'
  exact ⟨.ref _, upd H (s.heap.objs.size + 1) (.lst ((bs.mergeSort (PySem.W.dataLe false fun b => b.2)).map (·.1))), I.laid (t' := s.toks) (fun _ _ => PyProof.Rows.sortedAll_old) (Nat.le_succ _) ⟨hlen, out, ep, vals_of_each he, he'⟩, rfl, q _ (I.hok.fresh (Nat.le_succ _))⟩
/-! ### tuples of ints -/
def lexI : List Int → List Int → Bool
  | [], _ => true
  | _ :: _, [] => false
  | x :: xs, y :: ys => if x < y then true else if x = y then lexI xs ys else false
theorem lexI_lt : ∀ xs ys : List Int, lexI xs ys = !decide (ys < xs)
  | [], ys => by simp [lexI]
  | x :: xs, [] => by simp [lexI]
  | x :: xs, y :: ys => by
    unfold lexI
    rw [lexI_lt xs ys]
    by_cases h1 : x < y
    · rw [if_pos h1]
      have : ¬ (y :: ys < x :: xs) := by
        rw [List.cons_lt_cons_iff]
        intro z
        rcases z with z | ⟨z, _⟩ <;> omega
      simp [this]
    · rw [if_neg h1]
      by_cases h2 : x = y
      · subst h2
        rw [if_pos rfl]
        simp [List.cons_lt_cons_iff]
      · rw [if_neg h2]
        have : y :: ys < x :: xs := by
          rw [List.cons_lt_cons_iff]
          exact .inl (by omega)
        simp [this]
/-- a tuple of ints, one at least -/
def tupI : D → Option (List Int)
  | .tup ds => match asIs ds with
    | some (n :: ns) => some (n :: ns)
    | _ => none
  | _ => none
def tI (d : D) : List Int := (tupI d).getD []
theorem tupI_ok {d : D} {ns : List Int} (h : tupI d = some ns) : d = .tup (ns.map D.int) ∧ ∃ n l, ns = n :: l := by
  unfold tupI at h
  split at h
  · split at h
    · rename_i n l q
      cases h
      exact ⟨by rw [asIs_ok q], n, l, rfl⟩
    · cases h
  · cases h
theorem pys_ints : ∀ ns : List Int, pys (ns.map D.int) = ns.map PyData.int
  | [] => rfl
  | n :: ns => by simp only [List.map_cons, pys, py]; rw [pys_ints ns]
theorem py_tup {d : D} {ns : List Int} (h : tupI d = some ns) : py d = .tuple (ns.map .int) := by
  obtain ⟨rfl, _⟩ := tupI_ok h
  simp only [py]
  rw [pys_ints]
def sortTD (r : Bool) (x : D) (h : IH) : Out D := match getL h x with
  | some xs => grd (xs.all fun d => (tupI d).isSome) (outL r (isrt (fun a b => lexI (tI a) (tI b)) xs) h)
  | none => .bad
theorem data_le {β : Type} (k : β → PyData) (xs ys : β → List Int) (a b : β) (ha : k a = .tuple ((xs a).map .int)) (hb : k b = .tuple ((xs b).map .int)) : PySem.W.dataLe false k a b = lexI (xs a) (xs b) := by
  rw [lexI_lt]
  show (!PySem.W.dataLt (k b) (k a)) = _
  rw [ha, hb, PySem.W.dataLt_tuple]
  exact congrArg (!·) (PySem.W.dataLt_ints (xs b) (xs a))
theorem Rvs.paired {K : PySem.W.Frag} {m : Mp} {n : Nat} {H : Hp} : ∀ {vs : List V} {ds : List D}, Rvs K m n H vs ds → (∀ d ∈ ds, (tupI d).isSome = true) → Paired (fun (b : V × PyData) d => Rv K m n H b.1 d ∧ b.2 = py d ∧ (tupI d).isSome = true) (vs.zip (ds.map py)) ds
  | _, _, .nil, _ => .nil
  | _, _, .cons a b, h => .cons ⟨a, rfl, h _ List.mem_cons_self⟩ (Rvs.paired b fun d hd => h d (List.mem_cons_of_mem _ hd))
theorem Rvs.of_paired {K : PySem.W.Frag} {m : Mp} {n : Nat} {H : Hp} : ∀ {bs : List (V × PyData)} {ds : List D}, Paired (fun (b : V × PyData) d => Rv K m n H b.1 d ∧ b.2 = py d ∧ (tupI d).isSome = true) bs ds → Rvs K m n H (bs.map (·.1)) ds
  | _, _, .nil => .nil
  | _, _, .cons a b => .cons a.1 (Rvs.of_paired b)
theorem dp_ints {K : PySem.W.Frag} {H : Hp} : ∀ ns : List Int, DpAll K H (ns.map V.int) (ns.map PyData.int)
  | [] => .nil
  | n :: ns => .cons (.int n) (dp_ints ns)
theorem paired_mem {α β : Type} {R : α → β → Prop} : ∀ {l : List α} {l' : List β}, Paired R l l' → ∀ a ∈ l, ∃ b ∈ l', R a b
  | _, _, .nil, _, h => by cases h
  | _, _, .cons z t, a, h => by
    rcases List.mem_cons.mp h with rfl | h
    · exact ⟨_, List.mem_cons_self, z⟩
    · obtain ⟨b, hb, q⟩ := paired_mem t a h
      exact ⟨b, List.mem_cons_of_mem _ hb, q⟩
theorem tup_dp {g : G} {m : Mp} {h : IH} {H : Hp} {v : V} {d : D} {ns : List Int} (rv : Rv g.K m h.length H v d) (e : tupI d = some ns) : Dp g.K H v (.tuple (ns.map .int)) := by
  obtain ⟨rfl, _⟩ := tupI_ok e
  obtain ⟨a, vs, rfl, s, r⟩ := getT_ok rv (show getT (.tup (ns.map D.int)) = some _ from rfl)
  refine .tup s ?_
  rw [r.ints]
  exact dp_ints ns
section
variable {X : Cx} {T : TF} {E : XK} {a b c e o : Expr} {es rest : List Expr} {pos : Pos} {f k l : ME}
theorem de_sortT (r : Bool) {t : MA} {p : Pos} {n : Nat} (hr : Room n X.A) (hm : X.mg "sorted" = none) (ha : DA X T E [e] t) (hg : Gl X "sorted" := by rfl) (he : starEach (e :: []) X.env = (false, eval e X.env) :: starEach [] X.env := by rfl) : DE X T E (.Call (.Name "sorted" p) [e] [] pos) (callB (one (sortTD r)) t) :=
  de_callB (cr_sortG hr) (one_ok fun m h H v d E Q rh rv p => by
    unfold sortTD at p
    cases q : getL h d with
    | none => rw [q] at p; exact p.elim
    | some xs =>
      rw [q] at p
      obtain ⟨hc, p⟩ := Post.grd p
      rw [List.all_eq_true] at hc
      obtain ⟨a, vs, rfl, s, rs⟩ := getL_ok rh rv q
      have hl := rs.length
      have pr := rs.paired hc
      have e1 : (vs.zip (xs.map py)).map (·.1) = vs := List.map_fst_zip (by rw [List.length_map, hl]; exact Nat.le_refl _)
      have e2 : (vs.zip (xs.map py)).map (·.2) = xs.map py := List.map_snd_zip (by rw [List.length_map, hl]; exact Nat.le_refl _)
      refine ⟨a, vs.zip (xs.map py), rfl, by rw [e1]; exact s, fun b hb => ?_, ?_, ?_, fun q hq => ?_⟩
      · obtain ⟨d, hd, h1, h2, h3⟩ : ∃ d, d ∈ xs ∧ Rv X.K m h.length H b.1 d ∧ b.2 = py d ∧ (tupI d).isSome = true := by
          obtain ⟨d, hd, q⟩ := paired_mem pr b hb
          exact ⟨d, hd, q⟩
        obtain ⟨ns, e⟩ := Option.isSome_iff_exists.mp h3
        rw [h2, py_tup e]
        refine ⟨tup_dp (g := gX X T) h1 e, ?_⟩
        simp only [PyData.depth]
        rw [PySem.W.depth_ints]
        omega
      · rw [e2]
        intro x hx y hy
        obtain ⟨d, hd, rfl⟩ := List.mem_map.mp hx
        obtain ⟨d', hd', rfl⟩ := List.mem_map.mp hy
        obtain ⟨ns, e⟩ := Option.isSome_iff_exists.mp (hc d hd)
        obtain ⟨ns', e'⟩ := Option.isSome_iff_exists.mp (hc d' hd')
        rw [py_tup e, py_tup e']
        show PySem.W.alikeAll _ _ = true
        exact PySem.W.alike_ints _ _
      · rw [e2]
        refine .inl fun x hx => ?_
        obtain ⟨d, hd, rfl⟩ := List.mem_map.mp hx
        obtain ⟨ns, e⟩ := Option.isSome_iff_exists.mp (hc d hd)
        obtain ⟨_, n, l, rfl⟩ := tupI_ok e
        exact ⟨.int n, l.map .int, py_tup e⟩
      · have tl := PySem.W.sortLe_total (α := V × PyData) (PyProof.Rows.listOrd PyProof.Rows.itemOrd) false fun b => PySem.W.keyToks b.2
        have es : (vs.zip (xs.map py)).mergeSort (PySem.W.dataLe false fun b => b.2) = isrt (PySem.W.dataLe false fun b => b.2) (vs.zip (xs.map py)) := isrt_eq (fun a b c => tl.trans a b c) (fun a b => Bool.or_eq_true_iff.mpr (tl.total a b)) _
        rw [es]
        have ps := isrt_pair (le := PySem.W.dataLe false fun b : V × PyData => b.2) (le' := fun a b => lexI (tI a) (tI b)) (fun b d b' d' h1 h2 => by
          obtain ⟨ns, e⟩ := Option.isSome_iff_exists.mp h1.2.2
          obtain ⟨ns', e'⟩ := Option.isSome_iff_exists.mp h2.2.2
          have z : lexI (tI d) (tI d') = lexI ns ns' := by unfold tI; rw [e, e']; rfl
          rw [z, lexI_lt]
          show (!PySem.W.dataLt b'.2 b.2) = _
          rw [h1.2.1, h2.2.1, py_tup e, py_tup e', PySem.W.dataLt_tuple]
          exact congrArg (!·) (PySem.W.dataLt_ints ns' ns)) pr
        exact p.outL rh (Rvs.of_paired ps) hq) hm (by decide +kernel) ha hg (by decide) (by decide) he
end
end DL

set_option Elab.async false
set_option linter.all false
set_option maxRecDepth 100000
set_option autoImplicit false
set_option maxHeartbeats 1000000
/-! Plain tools: runs alike under a condition of the slots. -/
namespace DL
open L2 PySem PySem.Spec PyProof.Rows
def SO.env : SO → Option En
  | .nx en _ => some en
  | .ct en _ => some en
  | .bk en _ => some en
  | _ => none
def Cg (Φ : En → Prop) (s s' : MS) : Prop := ∀ en h, Φ en → s en h = s' en h ∧ ∀ en', (s en h).env = some en' → Φ en'
section
variable {Φ : En → Prop} {s s' r r' : MS} {f f' : ME} {t t' : MT} {i : Nat}
theorem Cg.seq (a : Cg Φ s s') (b : Cg Φ r r') : Cg Φ (seqS s r) (seqS s' r') := fun en h p => by
  obtain ⟨e, q⟩ := a en h p
  rw [seqS_e, seqS_e, ← e]
  cases z : s en h with
  | nx en1 h1 => exact b en1 h1 (q en1 (by rw [z]; rfl))
  | ct en1 h1 => exact ⟨rfl, fun en' y => q en' (by rw [z]; exact y)⟩
  | bk en1 h1 => exact ⟨rfl, fun en' y => q en' (by rw [z]; exact y)⟩
  | rt d h1 => exact ⟨rfl, fun en' y => by cases y⟩
  | err c h1 => exact ⟨rfl, fun en' y => by cases y⟩
  | bad => exact ⟨rfl, fun en' y => by cases y⟩
theorem Cg.asg (a : ∀ en h, Φ en → f en h = f' en h) (b : ∀ en d, Φ en → Φ (en.set i (some d))) : Cg Φ (asgS f (nameG i)) (asgS f' (nameG i)) := fun en h p => by
  rw [asgS_e, asgS_e, ← a en h p]
  refine ⟨rfl, fun en' y => ?_⟩
  cases z : f en h with
  | ok d h1 =>
    rw [z] at y
    have y : some (en.set i (some d)) = some en' := y
    cases y
    exact b en d p
  | err c h1 => rw [z] at y; cases y
  | bad => rw [z] at y; cases y
theorem Cg.expr (a : ∀ en h, Φ en → f en h = f' en h) : Cg Φ (exprS f) (exprS f') := fun en h p => by
  rw [exprS_e, exprS_e, ← a en h p]
  refine ⟨rfl, fun en' y => ?_⟩
  cases z : f en h with
  | ok d h1 =>
    rw [z] at y
    have y : some en = some en' := y
    cases y
    exact p
  | err c h1 => rw [z] at y; cases y
  | bad => rw [z] at y; cases y
theorem Cg.ret (a : ∀ en h, Φ en → f en h = f' en h) : Cg Φ (retS f) (retS f') := fun en h p => by
  rw [retS_e, retS_e, ← a en h p]
  refine ⟨rfl, fun en' y => ?_⟩
  cases z : f en h with
  | ok d h1 => rw [z] at y; cases y
  | err c h1 => rw [z] at y; cases y
  | bad => rw [z] at y; cases y
theorem Cg.pass : Cg Φ passS passS := fun en h p => ⟨rfl, fun en' y => by cases y; exact p⟩
theorem Cg.cont : Cg Φ contS contS := fun en h p => ⟨rfl, fun en' y => by cases y; exact p⟩
theorem Cg.iff (a : ∀ en h, Φ en → t en h = t' en h) (b : Cg Φ s s') (c : Cg Φ r r') : Cg Φ (ifS t s r) (ifS t' s' r') := fun en h p => by
  rw [ifS_e, ifS_e, ← a en h p]
  cases z : t en h with
  | ok x h1 =>
    cases x with
    | true => exact b en h1 p
    | false => exact c en h1 p
  | err c h1 => exact ⟨rfl, fun en' y => by cases y⟩
  | bad => exact ⟨rfl, fun en' y => by cases y⟩
theorem Cg.forV {w : View} {b b' : D → En → IH → SO} (hb : ∀ d en h, Φ en → b d en h = b' d en h ∧ ∀ en', (b d en h).env = some en' → Φ en') : ∀ n i en h, Φ en → DL.forV w b n i en h = DL.forV w b' n i en h ∧ ∀ en', (DL.forV w b n i en h).env = some en' → Φ en' := by
  intro n
  induction n with
  | zero =>
    intro i en h p
    unfold DL.forV
    cases w h with
    | none => exact ⟨rfl, fun en' y => by cases y⟩
    | some xs =>
      dsimp only
      cases xs[i]? with
      | none => exact ⟨rfl, fun en' y => by cases y; exact p⟩
      | some d => exact ⟨rfl, fun en' y => by cases y⟩
  | succ n ih =>
    intro i en h p
    unfold DL.forV
    cases w h with
    | none => exact ⟨rfl, fun en' y => by cases y⟩
    | some xs =>
      dsimp only
      cases xs[i]? with
      | none => exact ⟨rfl, fun en' y => by cases y; exact p⟩
      | some d =>
        dsimp only
        obtain ⟨e, q⟩ := hb d en h p
        rw [← e]
        cases z : b d en h with
        | nx en1 h1 => exact ih (i + 1) en1 h1 (q en1 (by rw [z]; rfl))
        | ct en1 h1 => exact ih (i + 1) en1 h1 (q en1 (by rw [z]; rfl))
        | bk en1 h1 => exact ⟨rfl, fun en' y => by cases y; exact q _ (by rw [z]; rfl)⟩
        | rt d1 h1 => exact ⟨rfl, fun en' y => by cases y⟩
        | err c h1 => exact ⟨rfl, fun en' y => by cases y⟩
        | bad => exact ⟨rfl, fun en' y => by cases y⟩
theorem Cg.for {fi : MV} (b : Cg Φ s s') (c : ∀ en d, Φ en → Φ (en.set i (some d))) : Cg Φ (forS fi (nameG i) s) (forS fi (nameG i) s') := fun en h p => by
  unfold forS
  cases fi en h with
  | ok w h1 =>
    dsimp only [toS_ok]
    cases w h1 with
    | none => exact ⟨rfl, fun en' y => by cases y⟩
    | some xs => exact Cg.forV (fun d en h p => b _ _ (c en d p)) _ _ _ _ p
  | err c h1 => exact ⟨rfl, fun en' y => by cases y⟩
  | bad => exact ⟨rfl, fun en' y => by cases y⟩
end
/-- a run's end, its slots -/
theorem cut_nil {b : MS} {en en' : En} {h' : IH} (e : b en [] = .nx en' h') : cutS b en [] = .nx (en'.map (clo 0)) [] := by
  unfold cutS
  rw [e]
  rfl
theorem clBs_ints : ∀ (ns : List Int) (n : Nat), clBs n (ns.map D.int) = true
  | [], _ => rfl
  | _ :: ns, n => clBs_ints ns n
theorem clo_script (ns : List Int) : clo 0 (some (.fl (ns.map .int))) = some (.fl (ns.map .int)) := by
  exact if_pos (clBs_ints ns 0)
end DL

set_option Elab.async false
set_option linter.all false
set_option maxRecDepth 100000
set_option autoImplicit false
set_option maxHeartbeats 1000000
/-! Dicts displayed, lists and dicts cleared, extend, pop(i), three at once, list(range()), max, min, x != []. -/
namespace PySem.SeqAt
open AutoSeq1 (wpAny_loadPart')
open MeetsSeq MeetsSeq2 MeetsSeq3 SeqRoads2
section
variable {prog : Program} {w : World}
theorem ne_sizes_in (l b : Addr) (xs ys : Array Value) (n n2 : Nat) (dd dd2 : Option Addr) (sl sl2 : Array (Option Value)) (hz : xs.size ≠ ys.size) :
    MeetsIn prog w (Builtin.«list.__ne__» ⟨[.ref l, .ref b], []⟩)
      (fun A R s => s.heap.get? l = some { cls := .type "list", dict := dd, data := .seq xs n, slots := sl } ∧ s.heap.get? b = some { cls := .type "list", dict := dd2, data := .seq ys n2, slots := sl2 } ∧ R (.ok (.ret (.bool true))) s) := by
  intro A R s h
  obtain ⟨hp, g, d, tk, os⟩ := s
  obtain ⟨h1, h2, h⟩ := h
  have f3 := AutoSeq1.sub_list_list
  have hne : (xs.size != ys.size) = true := by simp [hz]
  wp_walk using wpAny_loadPart' h1, wpAny_loadPart' h2
  exact h
theorem rc_neSizes {A : Around} {s : Shared} {l b : Addr} {xs ys : Array Value} (h1 : s.heap.IsList l xs) (h2 : s.heap.IsList b ys) (hz : xs.size ≠ ys.size) (hu : A.units < cLine) (E Q : Value → Shared → Prop) (h : Q (.bool true) s) : wpAny (model prog w) A (richCompare .NotEq (.ref l) (.ref b)) Q E s := by
  obtain ⟨⟨c1, dd, d1, sl⟩, ho, hc, n, hd⟩ := id h1
  obtain ⟨⟨c2, dd2, d2, sl2⟩, ho2, hc2, n2, hd2⟩ := id h2
  simp only at hc hd hc2 hd2
  subst hc hd hc2 hd2
  have ta : s.TypeIs (.ref l) "list" := ⟨_, ho, rfl⟩
  have tb : s.TypeIs (.ref b) "list" := ⟨_, ho2, rfl⟩
  exact wpAny_richCompare_same_room (op := .NotEq) ta tb F.slot_list_ne (call_meetsIn F.slot_list_ne ta F.entry_list_ne (F.args_list_ne_2 _ _) (ne_sizes_in l b xs ys n n2 dd dd2 sl sl2 hz)
    ⟨ho, ho2, show Value.bool true ≠ Value.notImplemented ∧ Q (.bool true) s from ⟨(fun x => nomatch x), h⟩⟩) hu
end
end PySem.SeqAt
namespace DL
open PySem PySem.Spec PyProof.Rows L2
section
variable {X : Cx} {T : TF} {E : XK} {a b c e o : Expr} {es rest : List Expr} {pos apos : Pos} {f k l : ME}
/-- x != [], the things of x may be any -/
theorem op_neNil {n : Nat} (hr : Room n X.A) : OpR X (compareOp .NotEq) (fun x y H Q => ∃ p q xs, x = .ref p ∧ y = .ref q ∧ SqL X.K H p xs ∧ SqL X.K H q [] ∧ Q (.bl (!xs.isEmpty)) H) := by
  intro pins s σ H x y v u Q I rx ry h
  obtain ⟨p, q, xs, rfl, rfl, hp, hq, hQ⟩ := h
  cases xs with
  | nil => exact op_neD hr.units pins s σ H _ _ v u Q I rx ry ⟨.list [], .list [], .lst hp .nil, .lst hq .nil, rfl, rfl, hQ⟩
  | cons z zs =>
    cases rx
    cases ry
    obtain ⟨us, r1, p1, _⟩ := I.list hp
    obtain ⟨ws, r2, p2, _⟩ := I.list hq
    cases r2
    have hu : X.A.units < cLine := by have := hr.un; omega
    refine SeqAt.rc_neSizes p1.isList p2.isList ?_ hu _ _ ?_
    · have := r1.length
      rw [List.size_toArray, ← this]
      simp
    · exact ⟨.bl true, H, I, rfl, hQ⟩
def neNilD : D → D → IH → Out D := fun x y h => match getL h x, getL h y with
  | some xs, some [] => .ok (.bl (!xs.isEmpty)) h
  | _, _ => .bad
theorem cr_neNil {n : Nat} (hr : Room n X.A) : CmpRule X T .NotEq neNilD := ⟨_, op_neNil hr, fun m h H x y dx dy E Q rh rx ry p => by
  unfold neNilD at p
  cases q : getL h dx with
  | none => rw [q] at p; exact p.elim
  | some xs =>
    rw [q] at p
    cases q2 : getL h dy with
    | none => rw [q2] at p; exact p.elim
    | some ys =>
      rw [q2] at p
      cases ys with
      | cons _ _ => exact p.elim
      | nil =>
        obtain ⟨a1, vs, rfl, s1, r1⟩ := getL_ok rh rx q
        obtain ⟨a2, ws, rfl, s2, r2⟩ := getL_ok rh ry q2
        cases r2
        refine ⟨a1, a2, vs, rfl, rfl, s1, s2, ?_⟩
        have e : vs.isEmpty = xs.isEmpty := by cases r1 <;> rfl
        rw [e]
        exact Post.val p rh (.bl _)⟩
/-! ### methods of lists -/
def clrD : D → List D → IH → Out D := fun x vs h => match refL h x, vs with
  | some (i, _), [] => .ok .non (h.set i (.lst []))
  | _, _ => .bad
theorem clrD_ok {g : G} : MtS g rClear clrD := by
  intro m h H x dx vs ds E Q rh rx rv p
  unfold clrD at p
  cases e : refL h dx with
  | none => rw [e] at p; exact p.elim
  | some z =>
    obtain ⟨i, xs⟩ := z
    rw [e] at p
    cases ds with
    | cons _ _ => exact p.elim
    | nil =>
      obtain ⟨rfl, hi⟩ := refL_ok e
      obtain ⟨ws, h1, h2⟩ := rh.lst hi
      cases rv
      cases rx
      obtain ⟨ex, rh'⟩ := lst_store (ys := []) (ws := []) rh hi .nil
      exact ⟨m i, ws, rfl, rfl, h1, p m _ _ ex rh' .non⟩
theorem de_lclear (ho : DE X T E o f) (hbase : attributeBase o "clear" X.env (eval o X.env) = eval o X.env := by rfl) (hline : (apos.endLine == pos.line) = true := by rfl) : DE X T E (.Call (.Attribute o "clear" apos) [] [] pos) (bmE clrD f nilA) :=
  de_bm0 PySem.F.slot_list_clear PySem.F.type_list_clear mt_clear clrD_ok ho hbase hline
def extD : D → List D → IH → Out D := fun x vs h => match refL h x, vs with
  | some (i, xs), [y] => (match getM h y with
    | some ys => grd (decide (xs.length + ys.length ≤ sizeLine)) (.ok .non (h.set i (.lst (xs ++ ys))))
    | none => .bad)
  | _, _ => .bad
theorem extD_ok {g : G} : MtS g rExtend extD := by
  intro m h H x dx vs ds E Q rh rx rv p
  unfold extD at p
  cases e : refL h dx with
  | none => rw [e] at p; exact p.elim
  | some z =>
    obtain ⟨i, xs⟩ := z
    rw [e] at p
    cases ds with
    | nil => exact p.elim
    | cons y ds =>
      cases ds with
      | cons _ _ => exact p.elim
      | nil =>
        dsimp only at p
        cases e2 : getM h y with
        | none => rw [e2] at p; exact p.elim
        | some ys =>
          rw [e2] at p
          obtain ⟨hc, p⟩ := Post.grd p
          obtain ⟨rfl, hi⟩ := refL_ok e
          obtain ⟨ws, h1, h2⟩ := rh.lst hi
          obtain ⟨u, rfl, ru⟩ := rv.one
          obtain ⟨l2, zs, rfl, h3, h4⟩ := getM_ok rh ru e2
          cases rx
          obtain ⟨ex, rh'⟩ := lst_store rh hi (h2.append h4)
          exact ⟨m i, l2, ws, zs, rfl, rfl, h1, h3, by rw [h2.length, h4.length]; exact of_decide_eq_true hc, p m _ _ ex rh' .non⟩
theorem de_extend {t : MA} (ho : DE X T E o f) (ha : DA X T E [e] t) (hbase : attributeBase o "extend" X.env (eval o X.env) = eval o X.env := by rfl)
    (hfew : ((backTo pos (starEach [e] X.env)).all (fun x => !x.1) && (backToKw pos (keywordEach [] X.env)).all (fun x => x.1.isSome)
      && decide (([e] : List Expr).length + ([] : List Keyword).length + (if ([] : List Keyword).isEmpty then 0 else 1) < 30)) = true := by rfl)
    (hline : (apos.endLine == pos.line) = true := by rfl) (hst : starEach [e] X.env = (false, eval e X.env) :: starEach [] X.env := by rfl) : DE X T E (.Call (.Attribute o "extend" apos) [e] [] pos) (bmE extD f t) :=
  de_bm PySem.F.slot_list_extend PySem.F.type_list_extend mt_extend extD_ok ho ha hbase hfew hline hst
def popiD : D → List D → IH → Out D := fun x vs h => match refL h x, vs with
  | some (i, xs), [.int z] => (match ixN xs.length z with
    | some k => (match xs[k]? with
      | some y => grd (decide (-(2 ^ 63) ≤ z) && decide (z < 2 ^ 63)) (.ok y (h.set i (.lst (xs.eraseIdx k))))
      | none => .bad)
    | none => .bad)
  | _, _ => .bad
theorem popiD_ok {g : G} : MtS g rPopAt popiD := by
  intro m h H x dx vs ds E Q rh rx rv p
  unfold popiD at p
  cases e : refL h dx with
  | none => rw [e] at p; exact p.elim
  | some z =>
    obtain ⟨i, xs⟩ := z
    rw [e] at p
    split at p
    · rename_i i' xs' z hh
      cases hh
      split at p
      · rename_i k hk
        split at p
        · rename_i y hy
          obtain ⟨hc, p⟩ := Post.grd p
          simp only [Bool.and_eq_true, decide_eq_true_eq] at hc
          obtain ⟨rfl, hi⟩ := refL_ok e
          obtain ⟨ws, h1, h2⟩ := rh.lst hi
          obtain ⟨u, rfl, ru⟩ := rv.one
          cases ru
          cases rx
          obtain ⟨w, z1, z2⟩ := h2.get hy
          obtain ⟨ex, rh'⟩ := lst_store rh hi (h2.erase k)
          have hs := (ixN_seq hk).1
          exact ⟨m i, ws, z, k, w, rfl, rfl, h1, hc.1, hc.2, by rw [h2.length]; exact hs, z1, p m _ _ ex rh' (z2.mono ex)⟩
        · exact p.elim
      · exact p.elim
    · exact p.elim
theorem de_popi {t : MA} (ho : DE X T E o f) (ha : DA X T E [e] t) (hbase : attributeBase o "pop" X.env (eval o X.env) = eval o X.env := by rfl)
    (hfew : ((backTo pos (starEach [e] X.env)).all (fun x => !x.1) && (backToKw pos (keywordEach [] X.env)).all (fun x => x.1.isSome)
      && decide (([e] : List Expr).length + ([] : List Keyword).length + (if ([] : List Keyword).isEmpty then 0 else 1) < 30)) = true := by rfl)
    (hline : (apos.endLine == pos.line) = true := by rfl) (hst : starEach [e] X.env = (false, eval e X.env) :: starEach [] X.env := by rfl) : DE X T E (.Call (.Attribute o "pop" apos) [e] [] pos) (bmE popiD f t) :=
  de_bm PySem.F.slot_list_pop PySem.F.type_list_pop mt_popAt popiD_ok ho ha hbase hfew hline hst
/-- d.clear() -/
def dclrE (f : ME) : ME := fun en h => (f en h).bind fun x h1 => match dctAt h1 x with
  | some (i, _) => .ok .non (h1.set i (.dct []))
  | none => .bad
theorem de_dclear (ha : DE X T E o f) (hbase : attributeBase o "clear" X.env (eval o X.env) = eval o X.env := by rfl) (hline : (apos.endLine == pos.line) = true := by rfl) : DE X T E (.Call (.Attribute o "clear" apos) [] [] pos) (dclrE f) :=
  PE.imp (pe_dclear ha hbase hline) fun σ H Q ⟨m, h, en, rel, p⟩ => chain rel p fun m1 h1 H1 v d e1 rel1 rv1 p1 => by
    split at p1
    · rename_i i kvs q
      obtain ⟨rfl, hi⟩ := dctAt_ok q
      obtain ⟨kws, y1, y2⟩ := rel1.rh.obj i _ hi
      cases rv1
      obtain ⟨ex, rh'⟩ := dct_store (kvs' := []) (l := []) rel1.rh hi .nil
      exact ⟨.inr (.inr (.inl ⟨rfl, .inl ⟨kws, y1⟩⟩)), _, kws, rfl, rfl, y1, p1 m1 _ _ ex rh' .non⟩
    · exact p1.elim
/-! ### list(range(..)), max, min -/
def lrg1E (r : Bool) (f : ME) : ME := fun en h => (f en h).bind fun x h1 => match x with
  | .int n => grd (inB n && decide (n ≤ 16777216)) (outL r (rangeL 0 n.toNat) h1)
  | _ => .bad
theorem rgV_rel {K : PySem.W.Frag} {m : Mp} {n : Nat} {H : Hp} (a b : Int) : Rvs K m n H (rgV a b) (rangeL a (b - a).toNat) := by
  have e : rgV a b = ((List.range (b - a).toNat).map fun i => a + ((i : Nat) : Int)).map V.int := by
    unfold rgV
    rw [List.map_map]
    rfl
  have e2 : rangeL a (b - a).toNat = ((List.range (b - a).toNat).map fun i => a + ((i : Nat) : Int)).map D.int := by
    unfold rangeL
    rw [List.map_map]
    rfl
  rw [e, e2]
  exact Rvs.of_ints _
theorem de_lrg1 (r : Bool) {p p2 pos2 : Pos} (hc : X.calm = true) (hm : X.mg "list" = none) (hm2 : X.mg "range" = none) (ha : DE X T E e f) (hg : Gl X "list" := by rfl) (hg2 : Gl X "range" := by rfl) (na : starEach [e] X.env = (false, eval e X.env) :: starEach [] X.env := by rfl)
    (na2 : starEach [.Call (.Name "range" p2) [e] [] pos2] X.env = (false, eval (.Call (.Name "range" p2) [e] [] pos2) X.env) :: starEach [] X.env := by rfl) : DE X T E (.Call (.Name "list" p) [.Call (.Name "range" p2) [e] [] pos2] [] pos) (lrg1E r f) :=
  PE.imp (pe_listRg hc hg hm (prg_1 hg2 hm2 ha na) na2) fun σ H Q ⟨m, h, en, rel, p⟩ => chain rel p fun m1 h1 H1 v d e1 rel1 rv1 p1 => by
    cases d with
    | int n =>
      cases rv1
      obtain ⟨hc, p1⟩ := Post.grd p1
      simp only [Bool.and_eq_true, decide_eq_true_eq, inB] at hc
      refine ⟨n, rfl, ?_, fun q hq => ?_⟩
      · unfold RgOk
        refine ⟨?_, ?_, ?_, ?_, ?_⟩ <;> omega
      · have z := rgV_rel (K := X.K) (m := m1) (n := h1.length) (H := H1) 0 n
        rw [show n - 0 = n by omega] at z
        exact Post.outL p1 rel1.rh z hq
    | _ => exact p1.elim
def maxI : Int → List Int → Int
  | m, [] => m
  | m, n :: ns => maxI (if n > m then n else m) ns
def minI : Int → List Int → Int
  | m, [] => m
  | m, n :: ns => minI (if n < m then n else m) ns
theorem maxI_ge : ∀ (ns : List Int) (m : Int), m ≤ maxI m ns ∧ ∀ n ∈ ns, n ≤ maxI m ns
  | [], m => ⟨Int.le_refl _, fun n h => by cases h⟩
  | n :: ns, m => by
    have ih := maxI_ge ns (if n > m then n else m)
    unfold maxI
    have h1 : m ≤ (if n > m then n else m) := by split <;> omega
    have h2 : n ≤ (if n > m then n else m) := by split <;> omega
    refine ⟨Int.le_trans h1 ih.1, fun x hx => ?_⟩
    rcases List.mem_cons.mp hx with rfl | hx
    · exact Int.le_trans h2 ih.1
    · exact ih.2 x hx
theorem maxI_mem : ∀ (ns : List Int) (m : Int), maxI m ns ∈ m :: ns
  | [], m => List.mem_cons_self
  | n :: ns, m => by
    have ih := maxI_mem ns (if n > m then n else m)
    unfold maxI
    rcases List.mem_cons.mp ih with ih | ih
    · rw [ih]
      split
      · exact List.mem_cons_of_mem _ List.mem_cons_self
      · exact List.mem_cons_self
    · exact List.mem_cons_of_mem _ (List.mem_cons_of_mem _ ih)
theorem minI_le : ∀ (ns : List Int) (m : Int), minI m ns ≤ m ∧ ∀ n ∈ ns, minI m ns ≤ n
  | [], m => ⟨Int.le_refl _, fun n h => by cases h⟩
  | n :: ns, m => by
    have ih := minI_le ns (if n < m then n else m)
    unfold minI
    have h1 : (if n < m then n else m) ≤ m := by split <;> omega
    have h2 : (if n < m then n else m) ≤ n := by split <;> omega
    refine ⟨Int.le_trans ih.1 h1, fun x hx => ?_⟩
    rcases List.mem_cons.mp hx with rfl | hx
    · exact Int.le_trans ih.1 h2
    · exact ih.2 x hx
theorem minI_mem : ∀ (ns : List Int) (m : Int), minI m ns ∈ m :: ns
  | [], m => List.mem_cons_self
  | n :: ns, m => by
    have ih := minI_mem ns (if n < m then n else m)
    unfold minI
    rcases List.mem_cons.mp ih with ih | ih
    · rw [ih]
      split
      · exact List.mem_cons_of_mem _ List.mem_cons_self
      · exact List.mem_cons_self
    · exact List.mem_cons_of_mem _ (List.mem_cons_of_mem _ ih)
def maxD (x : D) (h : IH) : Out D := match getL h x with
  | some xs => (match asIs xs with
    | some (n :: ns) => .ok (.int (maxI n ns)) h
    | _ => .bad)
  | none => .bad
def minD (x : D) (h : IH) : Out D := match getL h x with
  | some xs => (match asIs xs with
    | some (n :: ns) => .ok (.int (minI n ns)) h
    | _ => .bad)
  | none => .bad
theorem de_max1 {t : MA} {p : Pos} (hc : X.calm = true) (hm : X.mg "max" = none) (ha : DA X T E [e] t) (hg : Gl X "max" := by rfl) (he : starEach (e :: []) X.env = (false, eval e X.env) :: starEach [] X.env := by rfl) : DE X T E (.Call (.Name "max" p) [e] [] pos) (callB (one maxD) t) :=
  de_callB (cr_max hc) (one_ok fun m h H v d E Q rh r p => by
    unfold maxD at p
    split at p
    · rename_i xs q
      split at p
      · rename_i n ns q2
        obtain ⟨a, vs, rfl, s, r2⟩ := getL_ok rh r q
        rw [asIs_ok q2] at r2
        rw [r2.ints] at s
        refine ⟨a, n :: ns, rfl, s, by simp, fun m' h1 h2 => ?_⟩
        have e : m' = maxI n ns := by
          have g := maxI_ge ns n
          have hm := maxI_mem ns n
          have a1 := h2 _ hm
          have a2 : m' ≤ maxI n ns := by
            rcases List.mem_cons.mp h1 with rfl | h1
            · exact g.1
            · exact g.2 _ h1
          omega
        rw [e]
        exact Post.val p rh (.int _)
      · exact p.elim
    · exact p.elim) hm (by decide +kernel) ha hg (by decide) (by decide) he
theorem de_min1 {t : MA} {p : Pos} (hc : X.calm = true) (hm : X.mg "min" = none) (ha : DA X T E [e] t) (hg : Gl X "min" := by rfl) (he : starEach (e :: []) X.env = (false, eval e X.env) :: starEach [] X.env := by rfl) : DE X T E (.Call (.Name "min" p) [e] [] pos) (callB (one minD) t) :=
  de_callB (cr_min hc) (one_ok fun m h H v d E Q rh r p => by
    unfold minD at p
    split at p
    · rename_i xs q
      split at p
      · rename_i n ns q2
        obtain ⟨a, vs, rfl, s, r2⟩ := getL_ok rh r q
        rw [asIs_ok q2] at r2
        rw [r2.ints] at s
        refine ⟨a, n :: ns, rfl, s, by simp, fun m' h1 h2 => ?_⟩
        have e : m' = minI n ns := by
          have g := minI_le ns n
          have hm := minI_mem ns n
          have a1 := h2 _ hm
          have a2 : minI n ns ≤ m' := by
            rcases List.mem_cons.mp h1 with rfl | h1
            · exact g.1
            · exact g.2 _ h1
          omega
        rw [e]
        exact Post.val p rh (.int _)
      · exact p.elim
    · exact p.elim) hm (by decide +kernel) ha hg (by decide) (by decide) he
end
/-! ### a, b, c = x, y, z: three locals -/
def parS3 (i j l : Nat) (t : MA) : MS := fun en h => (t en h).toS fun ds h1 => match ds with
  | [x, y, z] => .nx (((en.set i (some x)).set j (some y)).set l (some z)) h1
  | _ => .bad
theorem Rvs.three {K : PySem.W.Frag} {m : Mp} {n : Nat} {H : Hp} {vs : List V} {d e f : D} (r : Rvs K m n H vs [d, e, f]) : ∃ v w u, vs = [v, w, u] ∧ Rv K m n H v d ∧ Rv K m n H w e ∧ Rv K m n H u f := by
  cases r with
  | cons a b =>
    obtain ⟨w, u, rfl, r1, r2⟩ := b.two
    exact ⟨_, w, u, rfl, a, r1, r2⟩
section
variable {X : Cx} {T : TF} {E : XK} {a b c e o : Expr} {es rest : List Expr} {pos apos : Pos} {f k : ME}
theorem ds_par3 (i j l : Nat) {x y z : Str} {t : MA} {px py pz pt pt2 : Pos} {kt k2 : Nat} (hc : X.calm = true) (hN : X.N.Nodup) (ha : DA X T E [a, b, c] t) (hi : X.N[i]? = some x := by rfl) (hj : X.N[j]? = some y := by rfl) (hl : X.N[l]? = some z := by rfl) (hij : i ≠ j := by decide) (hil : i ≠ l := by decide) (hjl : j ≠ l := by decide)
    (hx : X.env.scope.names.lookup x = some .local := by rfl) (hy : X.env.scope.names.lookup y = some .local := by rfl) (hz : X.env.scope.names.lookup z = some .local := by rfl)
    (hw : swappedStores [.Tuple [.Name x px, .Name y py, .Name z pz] kt pt] (.Tuple [a, b, c] k2 pt2) X.env = pure (some [x, y, z]) := by rfl)
    (hs : swapsWithSole [.Tuple [.Name x px, .Name y py, .Name z pz] kt pt] (.Tuple [a, b, c] k2 pt2) pos.line X.env = pure false := by rfl) :
    DS X T E (.Assign [.Tuple [.Name x px, .Name y py, .Name z pz] kt pt] (.Tuple [a, b, c] k2 pt2) pos) (parS3 i j l t) :=
  PS.imp (ps_par3 hc hN hi hj hl hij hil hjl hx hy hz ha hw hs) fun D σ H ⟨m, h, en, rel, p⟩ => chainS rel p fun m1 h1 H1 v d e1 rel1 rv1 p1 => by
    split at p1
    · obtain ⟨u, w, q, rfl, r1, r2, r3⟩ := rv1.three
      exact ⟨u, w, q, rfl, p1 m1 H1 _ (Ex.refl _ _ _) (((rel1.set i r1).set j r2).set l r3)⟩
    · exact p1.elim
end
/-! ### {k: v, ..} -/
def evPs : List (ME × ME) → En → IH → Out (List (D × D))
  | [], _, h => .ok [] h
  | (fk, fv) :: fs, en, h => (fk en h).bind fun x h1 => (fv en h1).bind fun y h2 => (evPs fs en h2).bind fun ps h3 => .ok ((x, y) :: ps) h3
def RPr (K : PySem.W.Frag) : Mp → Nat → Hp → List (V × V) → List (D × D) → Prop := fun m n H => Paired fun p q => Rv K m n H p.1 q.1 ∧ Rv K m n H p.2 q.2
theorem redPs {g : G} {E : XK} {σ : L2.St} : ∀ (fs : List (ME × ME)) (H : Hp) (Q : List (V × V) → Hp → Prop), LX (RPr g.K) g E (evPs fs) σ H Q → tPairs (fs.map fun p => (LE g E p.1, LE g E p.2)) σ H Q
  | [], H, Q, ⟨m, h, en, rel, p⟩ => p m H [] (Ex.refl _ _ _) rel.rh .nil
  | (fk, fv) :: fs, H, Q, ⟨m, h, en, rel, p⟩ => by
    refine chain rel p fun m1 h1 H1 x dx e1 rel1 rx p1 => chain rel1 p1 fun m2 h2 H2 y dy e2 rel2 ry p2 => redPs fs H2 _ ?_
    exact chain rel2 p2 fun m3 h3 H3 ps ds e3 rel3 rs p3 => p3 m3 H3 _ (Ex.refl _ _ _) rel3.rh (.cons ⟨(rx.mono e2).mono e3, ry.mono e3⟩ rs)
def dkPs : List (D × D) → Option (List (DK × D)) := optAll fun p => (dkOf p.1).map fun k => (k, p.2)
def dmerge (kvs more : List (DK × D)) : List (DK × D) := more.foldl (fun acc kv => dput acc kv.1 kv.2) kvs
def dispE (fs : List (ME × ME)) : ME := fun en h => (evPs fs en (h ++ [.dct []])).bind fun ps h1 => match dkPs ps with
  | some kvs => if h1[h.length]? = some (.dct []) then grd (decide (kvs.length ≤ 15)) (.ok (.ref h.length) (h1.set h.length (.dct (dmerge [] kvs)))) else .bad
  | none => .bad
theorem RPs.merge {K : PySem.W.Frag} {m : Mp} {n : Nat} {H : Hp} : ∀ {more : List (Key × V)} {more' : List (DK × D)} {l : List (Key × V)} {l' : List (DK × D)}, RPs K m n H more more' → RPs K m n H l l' → RPs K m n H (mergeK l more) (dmerge l' more') := by
  intro more more' l l' r
  unfold RPs at r
  induction r generalizing l l' with
  | nil => intro q; exact q
  | cons h _ ih =>
    intro q
    have z : RPs K m n H (putK l _ _) (dput l' _ _) := RPs.put q h.2.1 h.2.2
    rw [← h.1] at z
    exact ih z
theorem dkPs_ok {K : PySem.W.Frag} {m : Mp} {n : Nat} {H : Hp} {ps : List (V × V)} {ds : List (D × D)} {kvs : List (DK × D)} (r : RPr K m n H ps ds) (e : dkPs ds = some kvs) : ∃ kws : List (Key × V), ps = kws.map (fun kv => (kV kv.1, kv.2)) ∧ RPs K m n H kws kvs := by
  have q := optAll_ok e
  clear e
  unfold RPr at r
  induction r generalizing kvs with
  | nil => cases q; exact ⟨[], rfl, .nil⟩
  | cons h1 _ ih =>
    cases q with
    | cons a b =>
      obtain ⟨kws, e1, e2⟩ := ih b
      obtain ⟨k, hk, rfl⟩ := Option.map_eq_some_iff.mp a
      obtain ⟨e3, hok⟩ := dkOf_ok hk h1.1
      refine ⟨(dkey k, _) :: kws, ?_, .cons ⟨rfl, hok, h1.2⟩ e2⟩
      rw [List.map_cons, ← e1, ← e3]
inductive DPs (X : Cx) (T : TF) (E : XK) : List (Option Expr) → List Expr → List (ME × ME) → Prop
  | nil : DPs X T E [] [] []
  | cons {k v : Expr} {ks : List (Option Expr)} {vs : List Expr} {fk fv : ME} {fs : List (ME × ME)} : DE X T E k fk → DE X T E v fv → DPs X T E ks vs fs → DPs X T E (some k :: ks) (v :: vs) ((fk, fv) :: fs)
theorem DPs.pps {X : Cx} {T : TF} {E : XK} {pos : Pos} : ∀ {ks : List (Option Expr)} {vs : List Expr} {fs : List (ME × ME)}, DPs X T E ks vs fs → PPs X pos ks vs (fs.map fun p => (LE (gX X T) E p.1, LE (gX X T) E p.2))
  | _, _, _, .nil => pps_nil
  | _, _, _, .cons a b c => pps_cons a b (DPs.pps c)
theorem de_disp {X : Cx} {T : TF} {E : XK} {pos : Pos} {ks : List (Option Expr)} {vs : List Expr} {fs : List (ME × ME)} (h : DPs X T E ks vs fs) (hall : ks.all (·.isSome) = true := by rfl) (hl : ks.length = vs.length := by rfl) (h0 : ks ≠ [] := by exact fun z => by cases z) (h15 : ks.length ≤ 15 := by decide) : DE X T E (.Dict ks vs pos) (dispE fs) :=
  PE.imp (pe_disp h.pps hall hl h0 h15) fun σ H Q ⟨m, h, en, rel, p⟩ q hq => by
    have hlen : (h ++ [O.dct []]).length = h.length + 1 := by simp
    have hk := upd_keeps (o := .dK []) hq
    have ex : Ex m h.length H (put m h.length q) (h ++ [O.dct []]).length (upd H q (.dK [])) := by rw [hlen]; exact Ex.alloc hq hk
    have rh1 := rel.rh.alloc (o := .dct []) hq hk ⟨[], upd_same, .nil⟩
    have rel1 := rel.next ex rh1
    refine redPs fs _ _ ?_
    refine ⟨_, _, en, rel1, ?_⟩
    unfold dispE at p
    cases z : evPs fs en (h ++ [.dct []]) with
    | bad => rw [z] at p; exact p.elim
    | err c h1 =>
      rw [z] at p
      exact fun m' H' C e1 rh hC => p m' H' C (ex.trans e1) rh hC
    | ok ps h1 =>
      rw [z, Out.bind_ok] at p
      intro m' H' ws e1 rh' rw'
      split at p
      · rename_i kvs hkv
        split at p
        · rename_i hd
          obtain ⟨hc, p⟩ := Post.grd p
          have hlt : h.length < (h ++ [O.dct []]).length := by rw [hlen]; omega
          have em : m' h.length = q := by rw [e1.same h.length hlt, put_same]
          obtain ⟨kws, ew, rk⟩ := dkPs_ok rw' hkv
          obtain ⟨l, y1, y2⟩ := rh'.obj h.length _ hd
          cases y2
          rw [em] at y1
          obtain ⟨ex2, rh2⟩ := dct_store rh' hd (rk.merge (l := []) (l' := []) .nil)
          rw [em] at ex2 rh2
          have hl2 : kws.length ≤ 15 := by rw [rk.length]; exact of_decide_eq_true hc
          refine ⟨y1, kws, ew, hl2, p m' _ _ ((ex.trans e1).trans ex2) rh2 ?_⟩
          have zz : Rv X.K m' (h1.set h.length (.dct (dmerge [] kvs))).length (upd H' q (.dK (mergeK [] kws))) (.ref (m' h.length)) (.ref h.length) := .ref (by rw [List.length_set]; exact Nat.lt_of_lt_of_le hlt e1.le)
          rw [em] at zz
          exact zz
        · exact p.elim
      · exact p.elim
end DL

set_option Elab.async false
set_option linter.all false
set_option maxRecDepth 100000
set_option autoImplicit false
set_option maxHeartbeats 1000000
/-! A dict's row as one of several targets; sorted ints, dict keys as a list that may be changed; the place in a tuple of words. -/
namespace DL
open PySem PySem.Spec PyProof.Rows L2
theorem cE_ne {d : D} : ∀ (en : En) (h : IH) (c' : Nat) (h' : IH), cE d en h ≠ .err c' h' := fun en h c' h' z => by cases z
section
variable {X : Cx} {T : TF} {E : XK} {a b c e o i : Expr} {es rest : List Expr} {pos apos : Pos} {f k l : ME}
def dsubG (fo fi : ME) : MG := fun d en h => (fo en h).bind fun x h1 => (fi en h1).bind fun y h2 => (dputD x y d h2).bind fun _ h3 => .ok en h3
theorem dg_dsub {nr : Nat} (hr : Room nr X.A) (ho : ∀ E, DE X T E o f) (hi : ∀ E, DE X T E i k) (ne1 : ∀ en h c' h', f en h ≠ .err c' h') (ne2 : ∀ en h c' h', k en h ≠ .err c' h')
    (ha : ∀ v, assign (.Subscript o i pos) X.env v = (do
      let ov ← holding [v] (eval o X.env)
      let iv ← holding [v, ov] (eval i X.env)
      standAt pos
      holding [v, ov, iv] (setItem ov iv v)
      release [v, ov, iv] []) := by intro _; rfl) : DG X T (.Subscript o i pos) (dsubG f k) :=
  PG.imp (pg_sub (ho NoE) (hi NoE) (set_dict (by have := hr.un; omega)) ha) fun v σ H Q ⟨m, h, en, d, rel, rv, p⟩ => by
    refine ⟨m, h, en, rel, ?_⟩
    unfold dsubG at p
    cases q0 : f en h with
    | bad => rw [q0] at p; exact p.elim
    | err c' h' => exact absurd q0 (ne1 en h c' h')
    | ok x h1 =>
      rw [q0, Out.bind_ok] at p
      intro m1 H1 u ex1 rh1 ru
      have rel1 := rel.next ex1 rh1
      refine ⟨m1, h1, en, rel1, ?_⟩
      cases q1 : k en h1 with
      | bad => rw [q1] at p; exact p.elim
      | err c' h' => exact absurd q1 (ne2 en h1 c' h')
      | ok y h2 =>
        rw [q1, Out.bind_ok] at p
        intro m2 H2 w ex2 rh2 rw2
        have rel2 := rel1.next ex2 rh2
        unfold dputD at p
        cases q : dctAt h2 x with
        | none => rw [q] at p; exact p.elim
        | some r =>
          obtain ⟨j, kvs⟩ := r
          rw [q] at p
          cases q3 : dkOf y with
          | none => rw [q3] at p; exact p.elim
          | some key =>
            rw [q3] at p
            dsimp only at p
            by_cases hc : kvs.length < sizeLine
            · rw [decide_eq_true hc, grd_true, Out.bind_ok] at p
              obtain ⟨rfl, hj⟩ := dctAt_ok q
              obtain ⟨kws, y1, y2⟩ := rh2.obj j _ hj
              obtain ⟨rfl, hk⟩ := dkOf_ok q3 rw2
              have ru2 := ru.mono ex2
              cases ru2
              obtain ⟨ex3, rh3⟩ := dct_store rh2 hj (y2.put hk ((rv.mono ex1).mono ex2))
              exact ⟨_, _, rfl, DPut.k y1 (by rw [y2.length]; exact hc), p m2 _ σ ((ex1.trans ex2).trans ex3) (rel2.next ex3 rh3)⟩
            · rw [decide_eq_false hc] at p
              exact p.elim
/-- sorted(x) -/
def sortIR (r : Bool) (x : D) (h : IH) : Out D := match getL h x with
  | some xs => (match asIs xs with
    | some ns => outL r ((sortI ns).map .int) h
    | none => .bad)
  | none => .bad
theorem de_sortIR (r : Bool) {t : MA} {p : Pos} (hc : X.calm = true) (hm : X.mg "sorted" = none) (ha : DA X T E [e] t) (hg : Gl X "sorted" := by rfl) (he : starEach (e :: []) X.env = (false, eval e X.env) :: starEach [] X.env := by rfl) : DE X T E (.Call (.Name "sorted" p) [e] [] pos) (callB (one (sortIR r)) t) :=
  de_callB cr_sortedI (one_ok fun m h H v d E Q rh rr p => by
    unfold sortIR at p
    split at p
    · rename_i xs q
      split at p
      · rename_i ns q2
        obtain ⟨a, vs, rfl, s, r2⟩ := getL_ok rh rr q
        rw [asIs_ok q2] at r2
        rw [r2.ints] at s
        refine ⟨a, ns, rfl, s, fun ns' q pm pw hq => ?_⟩
        rw [sortI_of pm pw]
        exact Post.outL p rh (Rvs.of_ints _) hq
      · exact p.elim
    · exact p.elim) hm (by decide +kernel) ha hg (by decide) (by decide) he
def sortDR (r : Bool) (x : D) (h : IH) : Out D := match dctAt h x with
  | some (_, kvs) => (match ikeys kvs with
    | some ks => grd (decide (ks.length < 64)) (outL r ((sortI ks).map .int) h)
    | none => .bad)
  | none => .bad
theorem de_sortDR (r : Bool) {t : MA} {p : Pos} (hc : X.calm = true) (hm : X.mg "sorted" = none) (ha : DA X T E [e] t) (hg : Gl X "sorted" := by rfl) (he : starEach (e :: []) X.env = (false, eval e X.env) :: starEach [] X.env := by rfl) : DE X T E (.Call (.Name "sorted" p) [e] [] pos) (callB (one (sortDR r)) t) :=
  de_callB (call_sortedDI hc) (one_ok fun m h H v d E Q rh rr p => by
    unfold sortDR at p
    cases q : dctAt h d with
    | none => rw [q] at p; exact p.elim
    | some z =>
      obtain ⟨i, kvs⟩ := z
      rw [q] at p
      dsimp only at p
      cases q2 : ikeys kvs with
      | none => rw [q2] at p; exact p.elim
      | some ks =>
        rw [q2] at p
        dsimp only at p
        obtain ⟨hz, p⟩ := Post.grd p
        obtain ⟨rfl, hi⟩ := dctAt_ok q
        obtain ⟨l, y1, y2⟩ := rh.obj i _ hi
        cases rr
        refine ⟨_, l, ks, rfl, .inl y1, ?_, of_decide_eq_true hz, fun ys z pm pw hq => ?_⟩
        · rw [y2.keys, ikeys_ok q2, List.map_map]
          rfl
        · rw [sortI_of pm pw]
          exact Post.outL p rh (Rvs.of_ints _) hq) hm (by decide +kernel) ha hg (by decide) (by decide) he
end
end DL

set_option Elab.async false
set_option linter.all false
set_option maxRecDepth 100000
set_option autoImplicit false
set_option maxHeartbeats 1000000
/-! sorted(ints, key=lambda x: rows[x][c]). -/
namespace DL
open PySem PySem.Spec PyProof.Rows L2
/-- the lambda's names: x its own, c captured -/
structure LamK (sc scope : Scope) (x c : Str) : Prop where
  kind : scope.kind = .function
  co : scope.isCoroutine = false
  gen : scope.isGenerator = false
  nocell : ∀ y ∈ scope.names, y.2 ≠ .cell
  x : scope.names.lookup x = some .local
  c : scope.names.lookup c = some .free
  free : ∀ y ∈ scope.names, y.2 = .free → sc.names.lookup y.1 = some .cell ∨ sc.names.lookup y.1 = some .free
def lamKB (sc scope : Scope) (x c : Str) : Bool :=
  decide (scope.kind = .function) && !scope.isCoroutine && !scope.isGenerator && (scope.names.all fun y => !decide (y.2 = .cell)) && decide (scope.names.lookup x = some .local) && decide (scope.names.lookup c = some .free) &&
    scope.names.all fun y => (!decide (y.2 = .free) || decide (sc.names.lookup y.1 = some .cell) || decide (sc.names.lookup y.1 = some .free))
theorem lamK_by {sc scope : Scope} {x c : Str} (h : lamKB sc scope x c = true) : LamK sc scope x c := by
  unfold lamKB at h
  simp only [Bool.and_eq_true, Bool.or_eq_true, Bool.not_eq_true', decide_eq_true_eq, decide_eq_false_iff_not, List.all_eq_true] at h
  obtain ⟨⟨⟨⟨⟨⟨h1, h2⟩, h3⟩, h4⟩, h5⟩, h6⟩, h7⟩ := h
  refine ⟨h1, h2, h3, h4, h5, h6, fun y hy e => ?_⟩
  rcases h7 y hy with (z | z) | z
  · exact absurd e z
  · exact .inl z
  · exact .inr z
/-- the key of a number: the item at c of the row at it -/
def keyAt (rows : List D) (c : Nat) (n : Int) : Option Int :=
  if 0 ≤ n then match rows[n.toNat]? with
    | some (.tup ds) => (match ds[c]? with
      | some (.int k) => some k
      | _ => none)
    | _ => none
  else none
def keyI (rows : List D) (c : Nat) (n : Int) : Int := (keyAt rows c n).getD 0
theorem keyAt_ok {rows : List D} {c : Nat} {n k : Int} (h : keyAt rows c n = some k) : 0 ≤ n ∧ ∃ ds, rows[n.toNat]? = some (.tup ds) ∧ ds[c]? = some (.int k) := by
  unfold keyAt at h
  split at h
  · rename_i h0
    split at h
    · rename_i ds q
      split at h
      · rename_i k' q2
        cases h
        exact ⟨h0, ds, q, q2⟩
      · cases h
    · cases h
  · cases h
section
variable {X : Cx} {pins : List (Addr × Obj)} {σ : L2.St} {H : Hp} {s : Shared}
/-- the lambda called: it reads, and changes nothing -/
theorem key_call {A : Around} {x cn : Str} {f c' cc la ta : Addr} {pm ctv : Value} {par : Arguments} {sc : Scope} {cl : List (Str × Addr)} {col : Nat} {j : Nat} {p1 p2 p3 p4 p5 : Pos} {n k : Int} {t t2 : Tok} {its its2 : List Value} {qn : Str} {E : Value → Shared → Prop}
    (hdp : A.depth < recursionLimit) (nl : s.heap.NoLimit) (hkind : sc.kind = .function) (hco : sc.isCoroutine = false) (hgen : sc.isGenerator = false) (hnc : ∀ y ∈ sc.names, y.2 ≠ .cell) (hx : sc.names.lookup x = some .local) (hc : sc.names.lookup cn = some .free)
    (hf : s.heap.get? f = some (PySem.W.kla_obj "<lambda>" qn par (.Subscript (.Subscript (.Name cn p1) (.Name x p2) p3) (.Constant (.int (col : Int)) j p4) p5) sc cl pm c' ctv)) (hcode : s.heap.CodeRec (.ref c') qn)
    (hbi : bindArgs (PySem.W.kla_fn "<lambda>" qn par (.Subscript (.Subscript (.Name cn p1) (.Name x p2) p3) (.Constant (.int (col : Int)) j p4) p5) sc cl pm (.ref c') ctv) ⟨[.int n t], []⟩ = pure [(x, .int n t)])
    (hcl : cl.lookup cn = some cc) (hcell : s.heap.IsCell cc (some (.ref la))) (hl : s.heap.IsList la its.toArray) (hz : its.length ≤ sizeLine) (h0 : 0 ≤ n) (hn : its[n.toNat]? = some (.ref ta)) (htu : IsTup s.heap ta its2.toArray) (hz2 : its2.length ≤ sizeLine) (hk : its2[col]? = some (.int k t2))
    (hd1 : (cn == ("__debug__" : Str)) = false := by decide) (hd2 : (cn == ("__classdict__" : Str)) = false := by decide) (hd3 : (x == ("__debug__" : Str)) = false := by decide) :
    wpAny (model X.prog X.w) A (call (.ref f) [.int n t]) (PySem.W.KeyPure (.int k) s) E s := by
  refine wpAny_call (codeAny_mono (R := fun r s' => ∃ u, r = .ok (.ret u) ∧ PySem.W.KeyPure (.int k) s u s') ?_ fun r s' h => ?_)
  case refine_2 =>
    obtain ⟨u, e, q⟩ := h
    subst e
    exact q
  refine PySem.W.kla_callFunE hdp hf rfl hco hgen rfl hcode ?_
  rw [hbi]
  refine wpAny_pure (wpAny_newFunctionEnv hnc (fun y hy => ?_) (fun h2 n1 n2 => ⟨nl.fresh _ n2, ?_⟩) hkind)
  · have e : y = (x, Value.int n t) := by simpa using hy
    rw [e]
    exact hx
  have kp : ∀ b o, s.heap.get? b = some o → h2.get? b = some o := fun b o e => n2.extBut b o (Nat.ne_of_lt (Heap.lt_size e)) (Heap.get?_push_of_some _ e)
  have hsz := line63
  refine PySem.W.kla_codeExpr ?_
  refine Subscript_ (Subscript_ (wpAny_Name (wpAny_loadName_free hkind hc hcl (hcell.keeps kp) ?_ hd2) hd1))
  refine wpAny_Name (wpAny_loadName_local hkind hx n1 (v := .int n t) (by simp) ?_) hd3
  have hlt : n.toNat < its.length := (List.getElem?_eq_some_iff.mp hn).1
  have hlt2 : col < its2.length := (List.getElem?_eq_some_iff.mp hk).1
  have hl2 : h2.IsList la its.toArray := let ⟨o, ho, r⟩ := hl; ⟨o, kp _ _ ho, r⟩
  refine item_listR (x := .ref ta) hl2 h0 (by omega) (by simpa using hn) ?_ rfl
  refine wpAny_Constant_int ?_
  refine subscriptTail_builtinR (x := .int k t2) (htu.keeps kp).typeIs slot_tuple_getitem.lookup
    (getItem_tuple (j := col) (Q := fun r s' => r = .int k t2 ∧ _) (htu.keeps kp) (by omega) (by omega) (by rw [List.size_toArray]; exact seqIndex_of (by omega) (by omega)) (by simpa using hk) ⟨rfl, ?_⟩) rfl
  exact ⟨_, rfl, _, _, rfl, kp, .int _ _⟩
end
theorem Post.ext {α β : Type} {R : (Mp) → Nat → Hp → β → α → Prop} {g : G} {m m' : Mp} {n n' : Nat} {H H' : Hp} {E : XK} {Q : β → Hp → Prop} (a : Ex m n H m' n' H') : ∀ {o : Out α}, Post R g m n H E Q o → Post R g m' n' H' E Q o
  | .ok _ _, p => fun m2 H2 v b c d => p m2 H2 v (a.trans b) c d
  | .err _ _, p => fun m2 H2 C b c d => p m2 H2 C (a.trans b) c d
  | .bad, p => p
/-- the rows that the key reads, the column -/
def sortKD (r : Bool) (i c : Nat) (x : D) (en : En) (h1 : IH) : Out D := match getL h1 x, en[i]? with
  | some xs, some (some cs) => (match getL h1 cs, asIs xs with
    | some rows, some ns => grd (ns.all fun n => (keyAt rows c n).isSome) (outL r ((isrt (fun a b => decide (keyI rows c a ≤ keyI rows c b)) ns).map .int) h1)
    | _, _ => .bad)
  | _, _ => .bad
def sortKE (r : Bool) (i c : Nat) (f : ME) : ME := fun en h => (f en h).bind fun x h1 => sortKD r i c x en h1
theorem each_ints : ∀ {ns : List Int} {us : List Value}, Vals (ns.map V.int) us → PySem.W.EachIs (fun (v : Value) (n : Int) => ∃ t, v = .int n t) us ns
  | [], us, h => by
    have h : Vals [] us := h
    cases h
    exact .nil
  | n :: ns, us, h => by
    have h : Vals (.int n :: ns.map V.int) us := h
    cases h with
    | cons h1 h2 => exact .cons h1 (each_ints h2)
theorem ints_each : ∀ {ns : List Int} {us : List Value}, PySem.W.EachIs (fun (v : Value) (n : Int) => ∃ t, v = .int n t) us ns → Vals (ns.map V.int) us
  | _, _, .nil => .nil
  | _, _, .cons a b => .cons a (ints_each b)
section
variable {X : Cx} {T : TF} {E : XK} {e : Expr} {f : ME}
theorem de_sortK (r : Bool) (i col : Nat) {x cn : Str} {c P : Addr} {nr : Nat} {par : Arguments} {sc : Scope} {j : Nat} {p p1 p2 p3 p4 p5 lpos kpos pos : Pos} (hr : Room (nr + 2) X.A) (TB : LamX.TabB X.base X.mg c P) (hcode : X.env.code = .ref c)
    (hmT : (P, X.env.qual ++ "<lambda>") ∈ T.tb) (hu : ∀ p ∈ T.tb, p.1 = P → p.2 = X.env.qual ++ "<lambda>") (L : LamK X.env.scope sc x cn) (he : DE X T E e f) (hm : X.mg "sorted" = none)
    (hN : X.N[i]? = some cn := by rfl) (hv : Vis X.env.scope cn := by first | exact Or.inl rfl | exact Or.inr (Or.inl rfl) | exact Or.inr (Or.inr rfl))
    (hg : Gl X "sorted" := by rfl) (hdef : defaultsOf par X.env = ([], []) := by rfl)
    (hbi : ∀ (q : Str) (cl : List (Str × Addr)) (pm cv ctv v : Value), bindArgs (PySem.W.kla_fn "<lambda>" q par (.Subscript (.Subscript (.Name cn p1) (.Name x p2) p3) (.Constant (.int (col : Int)) j p4) p5) sc cl pm cv ctv) ⟨[v], []⟩ = pure [(x, v)] := by intros; rfl)
    (hd1 : (cn == ("__debug__" : Str)) = false := by decide) (hd2 : (cn == ("__classdict__" : Str)) = false := by decide) (hd3 : (x == ("__debug__" : Str)) = false := by decide)
    (hst1 : backTo pos (starEach [e] X.env) = (false, eval e X.env) :: backTo pos (starEach [] X.env) := by rfl) (hst2 : (backTo pos (starEach [e] X.env)).any (·.1) = false := by rfl) :
    DE X T E (.Call (.Name "sorted" p) [e] [⟨some "key", .Lambda par (.Subscript (.Subscript (.Name cn p1) (.Name x p2) p3) (.Constant (.int (col : Int)) j p4) p5) sc lpos, kpos⟩] pos) (sortKE r i col f) := by
  refine ⟨fun pins s σ H Q I hh => ?_⟩
  obtain ⟨m, h, en, rel, post⟩ := hh
  refine wpAny_Call_Name_kw (ld_blt I hg hm (u := .builtin "sorted") (by decide +kernel) ?_ (by decide) (by decide))
  refine PyProof.Rows.callWith_kw ?_ hst1 hst2 rfl rfl
  rw [hst1]
  refine Calls.spliced_cons (thn (he.run pins s σ H _ I (chain (P := fun v H1 => ∃ m1 h1 d, Ex m h.length H m1 h1.length H1 ∧ Rel (gX X T) m1 h1 σ en H1 ∧ Rv X.K m1 h1.length H1 v d ∧ Post (Rv X.K) (gX X T) m1 h1.length H1 E Q (sortKD r i col d en h1)) rel post fun m1 h1 H1 v d a b c e => ⟨m1, h1, d, a, b, c, e⟩)) fun u s1 ⟨v, H1, I1, rv, m1, h1, d, ex1, rel1, rd, post1⟩ => ?_)
  refine Calls.spliced_nil ?_
  show wpAny _ _ (evalAll [do let v ← eval (.Lambda par (.Subscript (.Subscript (.Name cn p1) (.Name x p2) p3) (.Constant (.int (col : Int)) j p4) p5) sc lpos) X.env; standAt pos; pure v]) _ _ s1
  have hfree : ∀ y ∈ sc.names, y.2 = .free → ∃ c, X.env.cells.lookup y.1 = some c := fun y hy e => by
    rcases L.free y hy e with k | k
    · exact I1.ok.has _ (.inl k)
    · exact I1.ok.has _ (.inr k)
  refine wpAny_evalAll_cons (wpAny_bind (LamX.lam_make2 I1 TB hcode hmT hu rel1.rh.tab hdef hfree fun f c' pm' ctv H2 s2 I2 eN T2 hf nf ns hco => wpAny_bind (wpAny_standAt (wpAny_pure (wpAny_evalAll_nil ?_)))))
  show wpAny _ _ (call (.builtin "sorted") [u] [(Str.ofString "key", .ref f)]) _ _ s2
  have rel2 : Rel (gX X T) m1 h1 σ en H2 := rel1.next (Ex.extN eN) (rel1.rh.extN eN T2)
  have rd2 : Rv X.K m1 h1.length H2 v d := rd.mono (Ex.extN eN)
  unfold sortKD at post1
  split at post1
  case h_2 => exact post1.elim
  rename_i xs cs q1 q2
  split at post1
  case h_2 => exact post1.elim
  rename_i rows ns' q3 q4
  obtain ⟨hc, post2⟩ := Post.grd post1
  rw [List.all_eq_true] at hc
  obtain ⟨a, vs, rfl, sq, rs⟩ := getL_ok rel2.rh rd2 q1
  rw [asIs_ok q4] at rs
  rw [rs.ints] at sq
  have eu : u = Value.ref a := rv
  subst eu
  obtain ⟨its, rvs, hl, hz⟩ := I2.list sq
  rw [List.length_map] at hz
  -- the rows
  obtain ⟨vc, hσ, rc⟩ := rel2.env i cs q2
  obtain ⟨ac, vcs, rfl, sqc, rcs⟩ := getL_ok rel2.rh rc q3
  obtain ⟨itc, rvc, hlc, hzc⟩ := I2.list sqc
  have hlc' : s2.heap.IsList ac itc.toArray := hlc.isList
  -- the cell
  obtain ⟨cc, hcl, hcell⟩ : ∃ cc, (cloFrom X.env.cells sc.names []).lookup cn = some cc ∧ s2.heap.IsCell cc (some (.ref ac)) := by
    have hy : (cn, NameKind.free) ∈ sc.names := PySem.mem_of_lookup L.c
    obtain ⟨cc, hcc⟩ := mem_lookup (cloFrom_has (cells := X.env.cells) (acc := []) hy)
    obtain ⟨c1, hc1⟩ := hfree _ hy rfl
    have hc1 : X.env.cells.lookup cn = some c1 := hc1
    have e2 : cc = c1 := by
      rcases cloFrom_mem (PySem.mem_of_lookup hcc) with hm | ⟨_, h2⟩
      · cases hm
      · rw [h2, hc1]; rfl
    subst e2
    refine ⟨cc, hcc, ?_⟩
    obtain ⟨mm, hn, hlo⟩ := I2.loc
    obtain ⟨w', rw', q⟩ := hlo i cn _ hN hσ hv
    have ew : w' = Value.ref ac := rw'
    subst ew
    rcases q with ⟨k', _⟩ | ⟨_, c3, e', z⟩
    · have k' : X.env.scope.names.lookup cn = some .local := k'
      rcases L.free _ hy rfl with k2 | k2 <;> rw [show X.env.scope.names.lookup cn = _ from k2] at k' <;> cases k'
    · rw [hc1] at e'
      cases e'
      exact z
  obtain ⟨⟨oc, vo, tt, y1, y2, y3⟩, _, _⟩ := I2.hok c' _ hco
  have hu2 := hr.un
  have hdp := hr.dp
  refine PySem.W.sorted_key_data (b := false) (k := fun n : Int => PyData.int (keyI rows col n)) (R := fun (v : Value) (n : Int) => ∃ t, v = .int n t) hl.isList (each_ints rvs) ?_ ?_ hz ?_ (PyProof.Rows.ksk_s1 _ _) (fun _ => PyProof.Rows.ksk_l1 _ _) (fun _ => PyProof.Rows.ksk_t1 _ _) ?_ ?_
  · intro x hx y hy
    obtain ⟨n1, _, rfl⟩ := List.mem_map.mp hx
    obtain ⟨n2, _, rfl⟩ := List.mem_map.mp hy
    rfl
  · refine .inr fun d hd => ?_
    obtain ⟨n1, _, rfl⟩ := List.mem_map.mp hd
    exact ⟨(by intro z; cases z), (by intro xs z; cases z)⟩
  · intro n hn
    show X.A.units + 2 + 0 < _
    omega
  · rintro v n ⟨t, rfl⟩ hn h' tk kp
    obtain ⟨k, hk⟩ := Option.isSome_iff_exists.mp (hc n hn)
    obtain ⟨h0, ds, e1, e2⟩ := keyAt_ok hk
    obtain ⟨vt, g1, g2⟩ := rcs.get e1
    obtain ⟨ta, vts, rfl, sqt, rts⟩ := getT_ok g2 (show getT (.tup ds) = some ds from rfl)
    obtain ⟨itt, rvt, hlt, hzt⟩ := I2.tuple sqt
    obtain ⟨wt, g3, g4⟩ := rvc.get g1
    have g4 : wt = Value.ref ta := g4
    subst g4
    obtain ⟨vk, g5, g6⟩ := rts.get e2
    cases g6
    obtain ⟨wk, g7, t2, rfl⟩ := rvt.get g5
    have ek : keyI rows col n = k := by unfold keyI; rw [hk]; rfl
    rw [ek]
    exact key_call (X := X) (s := { s2 with heap := h', toks := tk }) (by show X.A.depth < _; omega) (I2.nolimit.keeps kp) L.kind L.co L.gen L.nocell L.x L.c (kp _ _ hf) ⟨c', oc, vo, tt, rfl, kp _ _ y1, y2, y3⟩ (hbi _ _ _ _ _ _) hcl (hcell.keeps kp) (let ⟨o, ho, r⟩ := hlc'; ⟨o, kp _ _ ho, r⟩) (by rw [← rvc.length]; exact hzc) h0 g3 (hlt.keeps kp) (by rw [← rvt.length]; exact hzt) g7 hd1 hd2 hd3
  · intro out cnt h' tk kp _ hD hlen hE
    have hE2 := ints_each hE
    rw [PySem.W.dataLe_int, isrt_eq (fun a b c h1 h2 => by simp only [decide_eq_true_eq] at *; omega) (fun a b => by simp only [Bool.or_eq_true, decide_eq_true_eq]; omega)] at hE2
    have hz2 : ((isrt (fun a b => decide (keyI rows col a ≤ keyI rows col b)) ns').map V.int).length ≤ sizeLine := by
      rw [List.length_map, (isrt_perm _).length_eq]
      exact hz
    refine ⟨.ref _, upd H2 (s2.heap.objs.size + 1) (.lst ((isrt (fun a b => decide (keyI rows col a ≤ keyI rows col b)) ns').map V.int)), I2.laid (t' := tk) kp (Nat.le_succ _) ⟨hz2, out, cnt, hE2, hD⟩, rfl, ?_⟩
    exact Post.outL (g := gX X T) (m := m1) (h := h1) (E := E) (Post.ext (Ex.extN eN) post2) rel2.rh (Rvs.of_ints _) (I2.hok.fresh (Nat.le_succ _))
end
end DL

set_option Elab.async false
set_option linter.all false
set_option maxRecDepth 100000
set_option autoImplicit false
set_option maxHeartbeats 1000000
/-! max() of tuples of ints. -/
namespace DL
open PySem PySem.Spec PyProof.Rows L2
theorem reads_ints {h : Heap} : ∀ {us : List Value} {ns : List Int} {ds : List PyData} {as : List Addr}, Vals (ns.map V.int) us → ReadsAll h us ds as → ds = ns.map .int
  | us, [], ds, as, v, r => by
    have v : Vals [] us := v
    cases v
    cases r
    rfl
  | us, n :: ns, ds, as, v, r => by
    have v : Vals (.int n :: ns.map V.int) us := v
    cases v with
    | cons h1 h2 =>
      obtain ⟨t, rfl⟩ := h1
      cases r with
      | cons r1 r2 =>
        cases r1
        rw [reads_ints h2 r2]
        rfl
theorem reads_tup {h : Heap} {a : Addr} {us : List Value} {ns : List Int} {d : PyData} {as : List Addr} (t : IsTup h a us.toArray) (v : Vals (ns.map V.int) us) (r : Reads h (.ref a) d as) : d = .tuple (ns.map .int) := by
  obtain ⟨o, h1, h2, n, h3⟩ := t
  cases r with
  | tuple g1 g2 g3 g4 =>
    rw [h1] at g1
    cases g1
    rw [h3] at g3
    cases g3
    have g5 : ReadsAll h us _ _ := g4
    rw [reads_ints v g5]
  | list g1 g2 g3 g4 =>
    rw [h1] at g1
    cases g1
    rw [h2] at g2
    exact absurd g2 (by decide)
  | dict g1 g2 g3 g4 =>
    rw [h1] at g1
    cases g1
    rw [h2] at g2
    exact absurd g2 (by decide)
/-- the greatest, the first told first -/
def maxL : List Int → List (List Int) → List Int
  | m, [] => m
  | m, x :: xs => maxL (if lexI x m then m else x) xs
theorem maxL_eq : ∀ (xs : List (List Int)) (m : List Int), PySem.W.maxD (.tuple (m.map .int)) (xs.map fun x => .tuple (x.map .int)) = .tuple ((maxL m xs).map .int)
  | [], m => rfl
  | x :: xs, m => by
    have ih := maxL_eq xs (if lexI x m then m else x)
    unfold maxL
    rw [← ih]
    unfold PySem.W.maxD
    rw [List.map_cons, List.foldl_cons]
    congr 1
    have e : PySem.W.dataLt (.tuple (m.map .int)) (.tuple (x.map .int)) = decide (m < x) := by
      rw [PySem.W.dataLt_tuple]
      exact PySem.W.dataLt_ints m x
    rw [e, lexI_lt]
    by_cases hc : m < x
    · simp [hc]
    · simp [hc]
def rMaxG (K : PySem.W.Frag) : List V → Hp → VK → Prop := fun vs H Q => ∃ (a : Addr) (x : List Int) (xs : List (List Int)) (ts : List V), vs = [.ref a] ∧ SqL K H a ts ∧ Paired (fun (v : V) (ns : List Int) => ∃ b, v = .ref b ∧ SqT K H b (ns.map V.int)) ts (x :: xs) ∧
  ∀ (i : Nat) v, ts[i]? = some v → (x :: xs)[i]? = some (maxL x xs) → Q v H
theorem all_reads {X : Cx} {pins : List (Addr × Obj)} {σ : L2.St} {H : Hp} {s : Shared} (I : Inv X pins σ H s) : ∀ {ts : List V} {us : List Value} {xs : List (List Int)}, Paired (fun (v : V) (ns : List Int) => ∃ b, v = .ref b ∧ SqT X.K H b (ns.map V.int)) ts xs → Vals ts us → ∃ as, ReadsAll s.heap us (xs.map fun x => .tuple (x.map .int)) as
  | _, us, _, .nil, v => by
    cases v
    exact ⟨_, .nil⟩
  | _, us, _, .cons h1 h2, v => by
    cases v with
    | cons v1 v2 =>
      obtain ⟨b, rfl, sq⟩ := h1
      obtain ⟨as, r⟩ := all_reads I h2 v2
      obtain ⟨bs, r1⟩ := Dp.reads I _ _ _ (.tup sq (dp_ints _)) v1
      exact ⟨_, .cons r1 r⟩
theorem paired_at {α β : Type} {R : α → β → Prop} : ∀ {l : List α} {l' : List β} {i : Nat} {a : α}, Paired R l l' → l[i]? = some a → ∃ b, l'[i]? = some b ∧ R a b
  | _, _, _, _, .nil, h => by simp at h
  | _, _, 0, _, .cons z _, h => by simp at h; subst h; exact ⟨_, rfl, z⟩
  | _, _, i + 1, a, .cons _ t, h => by
    obtain ⟨b, h1, h2⟩ := paired_at (i := i) (a := a) t (by simpa using h)
    exact ⟨b, by simpa using h1, h2⟩
theorem vals_at : ∀ {vs : List V} {us : List Value} {i : Nat} {u : Value}, Vals vs us → us[i]? = some u → ∃ v, vs[i]? = some v ∧ RelV v u
  | _, _, _, _, .nil, h => by simp at h
  | _, _, 0, _, .cons z _, h => by simp at h; subst h; exact ⟨_, rfl, z⟩
  | _, _, i + 1, a, .cons _ t, h => by
    obtain ⟨b, h1, h2⟩ := vals_at (i := i) (u := a) t (by simpa using h)
    exact ⟨b, by simpa using h1, h2⟩
theorem map_int_inj : ∀ {a b : List Int}, a.map PyData.int = b.map PyData.int → a = b
  | [], [], _ => rfl
  | [], _ :: _, h => by simp at h
  | _ :: _, [], h => by simp at h
  | x :: a, y :: b, h => by
    simp only [List.map_cons, List.cons.injEq, PyData.int.injEq] at h
    rw [h.1, map_int_inj h.2]
theorem cr_maxG {X : Cx} {n : Nat} (hr : Room n X.A) : CallR X (.builtin "max") (rMaxG X.K) := by
  intro pins s σ H vs us Q I r h
  obtain ⟨a, x, xs, ts, rfl, hs, hp, q⟩ := h
  obtain ⟨its, rv, hl, hz⟩ := I.list hs
  rw [Vals.ref1 r]
  obtain ⟨as, hra⟩ := all_reads I hp rv
  have hu := hr.un
  have dep : ∀ l : List (List Int), PyData.depthAll (l.map fun x => .tuple (x.map .int)) ≤ 8 := by
    intro l
    induction l with
    | nil => simp [PyData.depthAll]
    | cons y l ih =>
      simp only [List.map_cons, PyData.depthAll, PyData.depth]
      rw [PySem.W.depth_ints]
      omega
  refine PySem.W.max_list_data (x := .tuple (x.map .int)) (xs := xs.map fun x : List Int => PyData.tuple (x.map .int)) (as := as) hr.hd hl.isList hra ⟨fun y hy z hz => ?_, fun y hy => ?_⟩ (by have := dep (x :: xs); simp only [List.map_cons] at this; omega) fun i v h' tk bs hv hrd kp => ?_
  · rw [← List.map_cons (f := fun x : List Int => PyData.tuple (x.map .int))] at hy hz
    obtain ⟨n1, _, rfl⟩ := List.mem_map.mp hy
    obtain ⟨n2, _, rfl⟩ := List.mem_map.mp hz
    show PySem.W.alikeAll _ _ = true
    exact PySem.W.alike_ints _ _
  · rw [← List.map_cons (f := fun x : List Int => PyData.tuple (x.map .int))] at hy
    obtain ⟨n1, _, rfl⟩ := List.mem_map.mp hy
    intro z
    cases z
  · obtain ⟨tv, e1, e2⟩ := vals_at rv (by simpa using hv)
    obtain ⟨ns, e3, b, rfl, sq⟩ := paired_at hp e1
    have e2 : v = Value.ref b := e2
    subst e2
    obtain ⟨it2, rv2, hl2, hz2⟩ := I.tuple sq
    rw [maxL_eq] at hrd
    have e4 := reads_tup (hl2.keeps kp) rv2 hrd
    have e5 : maxL x xs = ns := map_int_inj (by simpa using e4)
    exact ⟨.ref b, H, I.kept kp, rfl, q i _ e1 (by rw [e5]; exact e3)⟩
def maxTD (x : D) (h : IH) : Out D := match getL h x with
  | some (d :: ds) => grd ((d :: ds).all fun d => (tupI d).isSome) (.ok (.tup ((maxL (tI d) (ds.map tI)).map .int)) h)
  | _ => .bad
section
variable {X : Cx} {T : TF} {E : XK} {a b c e o : Expr} {es rest : List Expr} {pos : Pos} {f k l : ME}
theorem de_maxT {t : MA} {p : Pos} {n : Nat} (hr : Room n X.A) (hm : X.mg "max" = none) (ha : DA X T E [e] t) (hg : Gl X "max" := by rfl) (he : starEach (e :: []) X.env = (false, eval e X.env) :: starEach [] X.env := by rfl) : DE X T E (.Call (.Name "max" p) [e] [] pos) (callB (one maxTD) t) :=
  de_callB (cr_maxG hr) (one_ok fun m h H v d E Q rh rv p => by
    unfold maxTD at p
    split at p
    · rename_i d0 ds q
      obtain ⟨hc, p⟩ := Post.grd p
      rw [List.all_eq_true] at hc
      obtain ⟨a, vs, rfl, s, rs⟩ := getL_ok rh rv q
      have pr : ∀ {vs : List V} {ds : List D}, Rvs X.K m h.length H vs ds → (∀ d ∈ ds, (tupI d).isSome = true) → Paired (fun (v : V) (ns : List Int) => ∃ b, v = .ref b ∧ SqT X.K H b (ns.map V.int)) vs (ds.map tI) := by
        intro vs ds
        induction ds generalizing vs with
        | nil => intro r _; cases r; exact .nil
        | cons d ds ih =>
          intro r hd
          cases r with
          | cons r1 r2 =>
            have i1 := ih r2 fun x hx => hd x (List.mem_cons_of_mem _ hx)
            obtain ⟨ns, e⟩ := Option.isSome_iff_exists.mp (hd d List.mem_cons_self)
            have et : tI d = ns := by unfold tI; rw [e]; rfl
            obtain ⟨ed, _⟩ := tupI_ok e
            refine .cons ?_ i1
            rw [et]
            rw [ed] at r1
            obtain ⟨a, vs, rfl, s, r⟩ := getT_ok (g := gX X T) r1 (show getT (.tup (ns.map D.int)) = some _ from rfl)
            rw [r.ints] at s
            exact ⟨a, rfl, s⟩
      refine ⟨a, tI d0, ds.map tI, vs, rfl, s, pr rs hc, fun i v hv e => ?_⟩
      obtain ⟨d, hd, rd⟩ := rs.get' hv
      have e2 : ((d0 :: ds).map tI)[i]? = some (maxL (tI d0) (ds.map tI)) := e
      rw [List.getElem?_map, hd] at e2
      have e3 : tI d = maxL (tI d0) (ds.map tI) := by simpa using e2
      obtain ⟨ns, e4⟩ := Option.isSome_iff_exists.mp (hc d (List.mem_of_getElem? hd))
      obtain ⟨ed, _⟩ := tupI_ok e4
      have et : tI d = ns := by unfold tI; rw [e4]; rfl
      rw [← e3, et, ← ed] at p
      exact Post.val p rh rd
    · exact p.elim) hm (by decide +kernel) ha hg (by decide) (by decide) he
end
end DL

set_option Elab.async false
set_option linter.all false
set_option maxRecDepth 100000
set_option autoImplicit false
set_option maxHeartbeats 1000000
/-! list(range(a, b)). -/
namespace DL
open PySem PySem.Spec PyProof.Rows L2
section
variable {X : Cx} {T : TF} {E : XK} {a b c e o : Expr} {es rest : List Expr} {pos : Pos} {f k l : ME}
def lrg2E (r : Bool) (f k : ME) : ME := fun en h => (f en h).bind fun x h1 => (k en h1).bind fun y h2 => match x, y with
  | .int i, .int j => grd (inB i && inB j && decide (j - i ≤ 16777216)) (outL r (rangeL i (j - i).toNat) h2)
  | _, _ => .bad
theorem de_lrg2 (r : Bool) {p p2 pos2 : Pos} (hc : X.calm = true) (hm : X.mg "list" = none) (hm2 : X.mg "range" = none) (ha : DE X T E a f) (hb : DE X T E b k) (hg : Gl X "list" := by rfl) (hg2 : Gl X "range" := by rfl) (na : starEach [a, b] X.env = (false, eval a X.env) :: starEach [b] X.env := by rfl)
    (nb : starEach [b] X.env = (false, eval b X.env) :: starEach [] X.env := by rfl) (hp : (backTo pos2 (starEach [b] X.env)).any (·.1) = false := by rfl)
    (na2 : starEach [.Call (.Name "range" p2) [a, b] [] pos2] X.env = (false, eval (.Call (.Name "range" p2) [a, b] [] pos2) X.env) :: starEach [] X.env := by rfl) : DE X T E (.Call (.Name "list" p) [.Call (.Name "range" p2) [a, b] [] pos2] [] pos) (lrg2E r f k) :=
  PE.imp (pe_listRg hc hg hm (prg_2 hg2 hm2 ha hb na nb hp) na2) fun σ H Q ⟨m, h, en, rel, p⟩ => chain rel p fun m1 h1 H1 v d e1 rel1 rv1 p1 => chain rel1 p1 fun m2 h2 H2 u w e2 rel2 rv2 p2 => by
    have rv1' := rv1.mono e2
    cases d with
    | int i =>
      cases w with
      | int j =>
        cases rv1'
        cases rv2
        obtain ⟨hc, p2⟩ := Post.grd p2
        simp only [Bool.and_eq_true, decide_eq_true_eq, inB] at hc
        refine ⟨i, j, rfl, rfl, ?_, fun q hq => ?_⟩
        · unfold RgOk
          refine ⟨?_, ?_, ?_, ?_, ?_⟩ <;> omega
        · exact Post.outL p2 rel2.rh (rgV_rel (K := X.K) (m := m2) (n := h2.length) (H := H2) i j) hq
      | _ => exact p2.elim
    | _ => exact p2.elim
end
end DL

set_option Elab.async false
set_option linter.all false
set_option maxRecDepth 100000
set_option autoImplicit false
/-! Plain tools, second part: how a printed function runs, step by step; comprehensions whose rooms are read off the goal. -/
namespace DL
open PySem PySem.Spec PyProof.Rows L2
theorem sizeL {n : Nat} (h : n ≤ 1000) : n < sizeLine := by rw [sizeLine_eq]; omega
section
variable {α : Type} {r : Bool} {fi : MV} {w : View} {p : Pat} {t : MT} {e : ME} {vs : List Nat} {en : En} {h h1 : IH}
theorem lc_ev (ks : List α) (c : α → D) (P : α → Bool) (fe : α → D) (hf : fi en h = .ok w h1) (hw : w h1 = some (ks.map c)) (hz : ks.length < sizeLine)
    (hb : ∀ k ∈ ks, ∃ en', p.set (c k) (wipeE en vs) = some en' ∧ t en' h1 = .ok (P k) h1 ∧ (P k = true → e en' h1 = .ok (fe k) h1)) : lcE r fi p t e vs en h = outL r ((ks.filter P).map fe) h1 := by
  refine lcE_map ks c (fun k => (p.set (c k) (wipeE en vs)).getD en) P fe hf hw (fun k hk => ?_) (fun k hk => ?_) (fun k hk hp => ?_) hz
  · obtain ⟨en', q, _⟩ := hb k hk
    rw [q]
    rfl
  · obtain ⟨en', q, a, _⟩ := hb k hk
    rw [q]
    exact a
  · obtain ⟨en', q, _, a⟩ := hb k hk
    rw [q]
    exact a hp
theorem lc_ev1 (ks : List α) (c : α → D) (fe : α → D) (hf : fi en h = .ok w h1) (hw : w h1 = some (ks.map c)) (hz : ks.length < sizeLine)
    (hb : ∀ k ∈ ks, ∃ en', p.set (c k) (wipeE en vs) = some en' ∧ e en' h1 = .ok (fe k) h1) : lcE r fi p yesT e vs en h = outL r (ks.map fe) h1 := by
  rw [lc_ev ks c (fun _ => true) fe hf hw hz fun k hk => ?_]
  · rw [List.filter_eq_self.mpr fun _ _ => rfl]
  · obtain ⟨en', a, b⟩ := hb k hk
    exact ⟨en', a, rfl, fun _ => b⟩
/-- .. as lists never changed -/
theorem r_lc (ks : List α) (c : α → D) (P : α → Bool) (fe : α → D) (hf : fi en h = .ok w h1) (hw : w h1 = some (ks.map c)) (hz : ks.length ≤ 1000)
    (hb : ∀ k ∈ ks, ∃ en', p.set (c k) (wipeE en vs) = some en' ∧ t en' h1 = .ok (P k) h1 ∧ (P k = true → e en' h1 = .ok (fe k) h1)) : lcE false fi p t e vs en h = .ok (.vl ((ks.filter P).map fe)) h1 := by
  rw [lc_ev ks c P fe hf hw (sizeL hz) hb, outL_f]
theorem r_lc1 (ks : List α) (c : α → D) (fe : α → D) (hf : fi en h = .ok w h1) (hw : w h1 = some (ks.map c)) (hz : ks.length ≤ 1000)
    (hb : ∀ k ∈ ks, ∃ en', p.set (c k) (wipeE en vs) = some en' ∧ e en' h1 = .ok (fe k) h1) : lcE false fi p yesT e vs en h = .ok (.vl (ks.map fe)) h1 := by
  rw [lc_ev1 ks c fe hf hw (sizeL hz) hb, outL_f]
theorem r_lcT (ks : List α) (c : α → D) (P : α → Bool) (fe : α → D) (hf : fi en h = .ok w h1) (hw : w h1 = some (ks.map c)) (hz : ks.length ≤ 1000)
    (hb : ∀ k ∈ ks, ∃ en', p.set (c k) (wipeE en vs) = some en' ∧ t en' h1 = .ok (P k) h1 ∧ (P k = true → e en' h1 = .ok (fe k) h1)) : lcE true fi p t e vs en h = .ok (.ref h1.length) (h1 ++ [.lst ((ks.filter P).map fe)]) := by
  rw [lc_ev ks c P fe hf hw (sizeL hz) hb, outL_t]
theorem r_lcT1 (ks : List α) (c : α → D) (fe : α → D) (hf : fi en h = .ok w h1) (hw : w h1 = some (ks.map c)) (hz : ks.length ≤ 1000)
    (hb : ∀ k ∈ ks, ∃ en', p.set (c k) (wipeE en vs) = some en' ∧ e en' h1 = .ok (fe k) h1) : lcE true fi p yesT e vs en h = .ok (.ref h1.length) (h1 ++ [.lst (ks.map fe)]) := by
  rw [lc_ev1 ks c fe hf hw (sizeL hz) hb, outL_t]
end
/-! ### steps -/
section
variable {en en' en1 : En} {h h1 h2 h3 : IH} {d x y z : D} {xs ys : List D} {f k l : ME} {a : MA} {t u : MT} {s T : MS} {g : MG} {i j n c : Nat} {b b1 b2 : Bool} {o : SO}
theorem r_c : cE d en h = .ok d h := rfl
theorem r_var (e : en[i]? = some (some d)) : varE i en h = .ok d h := by unfold varE; rw [e]
theorem r_op1 {o : D → IH → Out D} {R : Out D} (e1 : f en h = .ok x h1) (e2 : o x h1 = R) : op1 o f en h = R := by rw [op1_e, e1]; exact e2
theorem r_op2 {o : D → D → IH → Out D} {R : Out D} (e1 : f en h = .ok x h1) (e2 : k en h1 = .ok y h2) (e3 : o x y h2 = R) : op2 o f k en h = R := by rw [op2_e, e1, Out.bind_ok, e2]; exact e3
theorem r_nilA : nilA en h = .ok [] h := rfl
theorem r_consA (e1 : f en h = .ok x h1) (e2 : a en h1 = .ok xs h2) : consA f a en h = .ok (x :: xs) h2 := by rw [consA_e, e1, Out.bind_ok, e2]; rfl
theorem r_callB {o : List D → IH → Out D} {R : Out D} (e1 : a en h = .ok xs h1) (e2 : o xs h1 = R) : callB o a en h = R := by rw [callB_e, e1]; exact e2
theorem r_one {o : D → IH → Out D} {R : Out D} (e : o x h = R) : one o [x] h = R := e
theorem r_callF {F : List D → IH → Out D} {R : Out D} (e1 : a en h = .ok xs h1) (e2 : xs.length = n) (e3 : F xs h1 = R) : callF n F a en h = R := by
  unfold callF
  rw [e1, Out.bind_ok, decide_eq_true e2]
  exact e3
theorem r_tup (e1 : a en h = .ok xs h1) (hz : xs.length ≤ 1000) : tupE a en h = .ok (.tup xs) h1 := by
  unfold tupE
  rw [e1, Out.bind_ok, decide_eq_true (Nat.le_of_lt (sizeL hz)), grd_true]
theorem r_lst (e1 : a en h = .ok xs h1) (hz : xs.length ≤ 1000) : lstE false a en h = .ok (.vl xs) h1 := by
  unfold lstE
  rw [e1, Out.bind_ok, decide_eq_true (Nat.le_of_lt (sizeL hz)), grd_true, outL_f]
theorem r_lstT (e1 : a en h = .ok xs h1) (hz : xs.length ≤ 1000) : lstE true a en h = .ok (.ref h1.length) (h1 ++ [.lst xs]) := by
  unfold lstE
  rw [e1, Out.bind_ok, decide_eq_true (Nat.le_of_lt (sizeL hz)), grd_true, outL_t]
theorem r_tst (e1 : f en h = .ok (.bl b) h1) : tst f en h = .ok b h1 := by rw [tst_e, e1]; rfl
theorem r_not (e1 : t en h = .ok b h1) : notT t en h = .ok (!b) h1 := by rw [notT_e, e1]; rfl
theorem r_andF (e1 : t en h = .ok false h1) : andT t u en h = .ok false h1 := by rw [andT_e, e1]; rfl
theorem r_andT {R : Out Bool} (e1 : t en h = .ok true h1) (e2 : u en h1 = R) : andT t u en h = R := by rw [andT_e, e1]; exact e2
theorem r_and (e1 : t en h = .ok b1 h) (e2 : b1 = true → u en h = .ok b2 h) : andT t u en h = .ok (b1 && b2) h := by
  cases b1 with
  | false => exact r_andF e1
  | true => exact r_andT e1 (e2 rfl)
theorem r_orT (e1 : t en h = .ok true h1) : orT t u en h = .ok true h1 := by rw [orT_e, e1]; rfl
theorem r_orF {R : Out Bool} (e1 : t en h = .ok false h1) (e2 : u en h1 = R) : orT t u en h = R := by rw [orT_e, e1]; exact e2
theorem r_or (e1 : t en h = .ok b1 h) (e2 : b1 = false → u en h = .ok b2 h) : orT t u en h = .ok (b1 || b2) h := by
  cases b1 with
  | true => exact r_orT e1
  | false => exact r_orF e1 (e2 rfl)
theorem r_andE (e1 : f en h = .ok (.bl b1) h) (e2 : b1 = true → k en h = .ok (.bl b2) h) : andE f k en h = .ok (.bl (b1 && b2)) h := by
  rw [andE_e, e1]
  cases b1 with
  | false => rfl
  | true => exact e2 rfl
theorem r_andEF (e1 : f en h = .ok (.bl false) h1) : andE f k en h = .ok (.bl false) h1 := by rw [andE_e, e1]; rfl
theorem r_andET {R : Out D} (e1 : f en h = .ok (.bl true) h1) (e2 : k en h1 = R) : andE f k en h = R := by rw [andE_e, e1]; exact e2
theorem r_orE (e1 : f en h = .ok (.bl b1) h) (e2 : b1 = false → k en h = .ok (.bl b2) h) : orE f k en h = .ok (.bl (b1 || b2)) h := by
  rw [orE_e, e1]
  cases b1 with
  | true => rfl
  | false => exact e2 rfl
theorem r_orET (e1 : f en h = .ok (.bl true) h1) : orE f k en h = .ok (.bl true) h1 := by rw [orE_e, e1]; rfl
theorem r_orEF {R : Out D} (e1 : f en h = .ok (.bl false) h1) (e2 : k en h1 = R) : orE f k en h = R := by rw [orE_e, e1]; exact e2
theorem r_notD : notD (.bl b) h = .ok (.bl (!b)) h := rfl
theorem r_iteT {R : Out D} (e1 : t en h = .ok true h1) (e2 : f en h1 = R) : iteE t f k en h = R := by rw [iteE_e, e1]; exact e2
theorem r_iteF {R : Out D} (e1 : t en h = .ok false h1) (e2 : k en h1 = R) : iteE t f k en h = R := by rw [iteE_e, e1]; exact e2
theorem r_ite (e1 : t en h = .ok b h) (e2 : b = true → f en h = .ok x h) (e3 : b = false → k en h = .ok y h) : iteE t f k en h = .ok (if b = true then x else y) h := by
  cases b with
  | true => exact r_iteT e1 (e2 rfl)
  | false => exact r_iteF e1 (e3 rfl)
theorem r_ch {q q' : D → D → IH → Out D} (e1 : f en h = .ok x h) (e2 : k en h = .ok y h) (e3 : q x y h = .ok (.bl b1) h) (e4 : b1 = true → l en h = .ok z h) (e5 : b1 = true → q' y z h = .ok (.bl b2) h) : chE q q' f k l en h = .ok (.bl (b1 && b2)) h := by
  unfold chE
  rw [e1, Out.bind_ok, e2, Out.bind_ok, e3, Out.bind_ok, asB_e, Out.bind_ok]
  cases b1 with
  | false => rfl
  | true =>
    show (l en h).bind _ = _
    rw [e4 rfl, Out.bind_ok, e5 rfl]
    rfl
theorem r_seqV (e1 : f en h = .ok d h1) (e2 : getL h1 d = some xs) : seqV f en h = .ok (fun h => getL h d) h1 := seqV_L e1 e2
theorem r_bm {m : D → List D → IH → Out D} {R : Out D} (e1 : f en h = .ok x h1) (e2 : getL h1 x = some ys) (e3 : a en h1 = .ok xs h2) (e4 : m x xs h2 = R) : bmE m f a en h = R := by
  unfold bmE
  rw [e1, Out.bind_ok, e2, e3]
  exact e4
theorem r_bmR {m : D → List D → IH → Out D} {R : Out D} {p : Nat} (e1 : f en h = .ok (.ref p) h1) (e2 : lstAt h1 p = some ys) (e3 : a en h1 = .ok xs h2) (e4 : m (.ref p) xs h2 = R) : bmE m f a en h = R := r_bm e1 e2 e3 e4
theorem r_noP : noP en h = .ok none h := rfl
theorem r_someP {v : Int} (e1 : f en h = .ok (.int v) h1) : someP f en h = .ok (some v) h1 := by unfold someP; rw [e1]; rfl
theorem r_sl {r : Bool} {lo hi : MO} {v w : Option Int} {R : Out D} (e1 : f en h = .ok x h1) (e2 : lo en h1 = .ok v h2) (e3 : hi en h2 = .ok w h3) (e4 : slD r x v w h3 = R) : slE r f lo hi en h = R := by
  unfold slE
  rw [e1, Out.bind_ok, e2, Out.bind_ok, e3]
  exact e4
/-! statements -/
theorem s_seq (e1 : s en h = .nx en1 h1) (e2 : T en1 h1 = o) : seqS s T en h = o := by rw [seqS_e, e1]; exact e2
theorem s_seqR (e1 : s en h = .rt d h1) : seqS s T en h = .rt d h1 := by rw [seqS_e, e1]; rfl
theorem s_seqE (e1 : s en h = .err c h1) : seqS s T en h = .err c h1 := by rw [seqS_e, e1]; rfl
theorem s_seqC (e1 : s en h = .ct en1 h1) : seqS s T en h = .ct en1 h1 := by rw [seqS_e, e1]; rfl
theorem s_asg (e1 : f en h = .ok d h1) (e2 : g d en h1 = .ok en1 h2) : asgS f g en h = .nx en1 h2 := by rw [asgS_e, e1, toS_ok, e2]
theorem s_name (e1 : f en h = .ok d h1) (e2 : en.set i (some d) = en1) : asgS f (nameG i) en h = .nx en1 h1 := s_asg e1 (by rw [← e2]; rfl)
theorem s_par (e1 : a en h = .ok [x, y] h1) (e2 : (en.set i (some x)).set j (some y) = en1) : parS i j a en h = .nx en1 h1 := by
  unfold parS
  rw [e1, ← e2]
  rfl
theorem s_expr (e1 : f en h = .ok d h1) : exprS f en h = .nx en h1 := by rw [exprS_e, e1]; rfl
theorem s_exprE (e1 : f en h = .err c h1) : exprS f en h = .err c h1 := by rw [exprS_e, e1]; rfl
theorem s_ret (e1 : f en h = .ok d h1) : retS f en h = .rt d h1 := by rw [retS_e, e1]; rfl
theorem s_retE (e1 : f en h = .err c h1) : retS f en h = .err c h1 := by rw [retS_e, e1]; rfl
theorem s_pass : passS en h = .nx en h := rfl
theorem s_cont : contS en h = .ct en h := rfl
theorem s_raise : raiseS c en h = .err c h := rfl
theorem s_ifT (e1 : t en h = .ok true h1) (e2 : s en h1 = o) : ifS t s T en h = o := by rw [ifS_e, e1]; exact e2
theorem s_ifF (e1 : t en h = .ok false h1) (e2 : T en h1 = o) : ifS t s T en h = o := by rw [ifS_e, e1]; exact e2
theorem s_set {fo fi : ME} {v : D} {h4 : IH} (e1 : f en h = .ok v h1) (e2 : fo en h1 = .ok x h2) (e3 : fi en h2 = .ok y h3) (e4 : setD x y v h3 = .ok () h4) : setS f fo fi en h = .nx en h4 := by
  unfold setS
  rw [e1, toS_ok, e2, toS_ok, e3, toS_ok, e4]
  rfl
theorem fnC_nx {N : Nat} {b : MS} {ds : List D} (e : b (ds.map some ++ List.replicate (N - ds.length) none) h = .nx en h1) (e1 : h1.take h.length = h) : fnC N b ds h = .ok .non h := by
  unfold fnC fnF
  rw [e]
  dsimp only
  rw [if_pos e1]
  rfl
theorem fnF_nx {N : Nat} {b : MS} {ds : List D} (e : b (ds.map some ++ List.replicate (N - ds.length) none) h = .nx en h1) : fnF N b ds h = .ok .non h1 := by unfold fnF; rw [e]
end
/-! ints that count -/
abbrev NI (k : Nat) : D := .int ((k : Nat) : Int)
theorem p_add (r : Bool) (x y : Nat) (h : IH) : addD r (NI x) (NI y) h = .ok (NI (x + y)) h := by
  show Out.ok (D.int (((x : Nat) : Int) + ((y : Nat) : Int))) h = _
  congr 2
theorem p_eq (x y : Int) (h : IH) : eqD (.int x) (.int y) h = .ok (.bl (x == y)) h := rfl
theorem p_ne (x y : Int) (h : IH) : neD (.int x) (.int y) h = .ok (.bl (!(x == y))) h := rfl
theorem p_len (xs : List D) (h : IH) : lenD [.vl xs] h = .ok (.int xs.length) h := lenD_e rfl
theorem p_ix {xs : List D} {x : D} {i : Nat} {h : IH} (e : xs[i]? = some x) : ixD (.vl xs) (NI i) h = .ok x h := ixD_e rfl e
theorem p_ixT {xs : List D} {x : D} {i : Nat} {h : IH} (e : xs[i]? = some x) : ixD (.tup xs) (NI i) h = .ok x h := ixD_e rfl e
theorem set_is {en en1 : En} {i : Nat} {d : Option D} (e : en.set i d = en1) : en.set i d = en1 := e
theorem len_le {xs : List D} (e : Nat.ble xs.length 1000 = true) : xs.length ≤ 1000 := Nat.le_of_ble_eq_true e
theorem len_is {xs : List D} {n : Nat} (e : xs.length = n) : xs.length = n := e
/-- a loop over a list that does not change -/
theorem for_run {α : Type} {fi : MV} {gf : MG} {b : MS} {w : View} {en : En} {h h1 : IH} (xs : List α) (c : α → D) (I : Nat → En → IH → Prop) (e : fi en h = .ok w h1) (e2 : ∀ hh, w hh = some (xs.map c)) (start : I 0 en h1)
    (step : ∀ i x en hh, xs[i]? = some x → I i en hh → ∃ en' h', (stepB gf b (c x) en hh = .nx en' h' ∨ stepB gf b (c x) en hh = .ct en' h') ∧ I (i + 1) en' h') : ∃ en' h', forS fi gf b en h = .nx en' h' ∧ I xs.length en' h' := by
  obtain ⟨en', h', q, z⟩ := forS_run (fi := fi) (gf := gf) (b := b) (en := en) (h := h) (w := w) (h1 := h1) (xs := xs.map c) I e (e2 h1) start (fun i en h _ => e2 h) fun i d en hh hd hi => by
    rw [List.getElem?_map] at hd
    cases q : xs[i]? with
    | none => rw [q] at hd; cases hd
    | some x =>
      rw [q] at hd
      cases hd
      exact step i x en hh q hi
  exact ⟨en', h', q, by rw [List.length_map] at z; exact z⟩
theorem enum_map {α : Type} (c : α → D) (xs : List α) : enumFrom 0 (xs.map c) = xs.zipIdx.map fun p => .tup [NI p.2, c p.1] := by
  refine List.ext_getElem? fun i => ?_
  rw [enumFrom_get, List.getElem?_map, List.getElem?_map, List.getElem?_zipIdx]
  cases xs[i]? with
  | none => rfl
  | some x => simp
theorem r_enum {f : ME} {xs : List D} {en : En} {h : IH} (e1 : f en h = .ok (.vl xs) h) : enumV (consA f nilA) en h = .ok (fun _ => some (enumFrom 0 xs)) h := by
  unfold enumV
  rw [consA_e, e1]
  rfl
theorem r_rng {f : ME} {en : En} {h h1 : IH} {n : Nat} (e : f en h = .ok (NI n) h1) (hn : n ≤ 5000) : rng1V (consA f nilA) en h = .ok (fun _ => some ((List.range n).map NI)) h1 := by
  have e0 : rangeL 0 n = (List.range n).map NI := by
    unfold rangeL
    refine List.map_congr_left fun i _ => ?_
    simp
  unfold rng1V
  rw [consA_e, e, Out.bind_ok, nilA_e, Out.bind_ok, Out.bind_ok]
  dsimp only
  have : grd (inB ((n : Nat) : Int)) (Out.ok (fun _ => some (rangeL 0 ((n : Nat) : Int).toNat)) h1 : Out View) = .ok (fun _ => some ((List.range n).map NI)) h1 := by
    have hb : inB ((n : Nat) : Int) = true := by
      simp only [inB, Bool.and_eq_true, decide_eq_true_eq]
      omega
    rw [hb, grd_true, Int.toNat_natCast, e0]
  exact this
theorem setD_nat {h : IH} {p i : Nat} {xs : List D} {v : D} (hp : lstAt h p = some xs) (hi : i < xs.length) : setD (.ref p) (NI i) v h = .ok () (h.set p (.lst (xs.set i v))) := by
  have e : ixN xs.length ((i : Nat) : Int) = some i := by
    unfold ixN
    rw [if_pos (by omega), if_pos (by omega)]
    simp
  have e2 : refL h (.ref p) = some (p, xs) := by show (match lstAt h p with | some xs => some (p, xs) | none => none) = _; rw [hp]
  unfold setD
  rw [e2]
  dsimp only
  rw [e]
theorem appD_nat {h : IH} {p : Nat} {xs : List D} {v : D} (hp : lstAt h p = some xs) (hi : xs.length ≤ 1000) : appD (.ref p) [v] h = .ok .non (h.set p (.lst (xs ++ [v]))) := by
  have e2 : refL h (.ref p) = some (p, xs) := by show (match lstAt h p with | some xs => some (p, xs) | none => none) = _; rw [hp]
  unfold appD
  rw [e2]
  dsimp only
  rw [decide_eq_true (sizeL hi)]
  rfl
theorem lst_is {h : IH} {p : Nat} {xs : List D} (e : lstAt h p = some xs) : lstAt h p = some xs := e
theorem ok_is {α : Type} {o : Out α} {x : α} {h : IH} (e : o = .ok x h) : o = .ok x h := e
theorem so_is {o o' : SO} (e : o = o') : o = o' := e
end DL

set_option Elab.async false
set_option linter.all false
set_option maxRecDepth 100000
set_option autoImplicit false
/-! The place of a word in a tuple of the head; comprehensions that change the heap. -/
namespace DL
open PySem PySem.Spec PyProof.Rows L2
def strOf : D → Option Str
  | .wd n => some (wds n)
  | .str s => some s
  | _ => none
theorem strOf_ok {K : PySem.W.Frag} {m : Mp} {n : Nat} {H : Hp} {v : V} {d : D} {s : Str} (rv : Rv K m n H v d) (e : strOf d = some s) : v = .str s := by
  cases rv with
  | wd h1 h2 => cases e; rw [h2]
  | str x => cases e; rfl
  | _ => cases e
theorem strsOf_ok {K : PySem.W.Frag} {m : Mp} {n : Nat} {H : Hp} : ∀ {vs : List V} {ds : List D} {ss : List Str}, Rvs K m n H vs ds → optAll strOf ds = some ss → vs = ss.map V.str
  | _, _, _, .nil, e => by cases e; rfl
  | _, d :: ds, ss, .cons r t, e => by
    unfold optAll at e
    cases q : strOf d with
    | none => rw [q] at e; cases e
    | some s =>
      cases q2 : optAll strOf ds with
      | none => rw [q, q2] at e; cases e
      | some ss' =>
        rw [q, q2] at e
        cases e
        rw [strOf_ok r q, strsOf_ok t q2]
        rfl
def fstIx (z : Str) : List Str → Option Nat
  | [] => none
  | s :: ss => if s = z then some 0 else (fstIx z ss).map (· + 1)
theorem fstIx_ok {z : Str} : ∀ {ss : List Str} {j : Nat}, fstIx z ss = some j → ss[j]? = some z ∧ ∀ m, m < j → ss[m]? ≠ some z
  | [], _, e => by cases e
  | s :: ss, j, e => by
    unfold fstIx at e
    split at e
    · rename_i h
      cases e
      exact ⟨by rw [h]; rfl, fun m hm => absurd hm (Nat.not_lt_zero m)⟩
    · rename_i h
      cases q : fstIx z ss with
      | none => rw [q] at e; cases e
      | some k =>
        rw [q] at e
        cases e
        obtain ⟨h1, h2⟩ := fstIx_ok q
        refine ⟨by simpa using h1, fun m hm => ?_⟩
        cases m with
        | zero =>
          intro z'
          simp at z'
          exact h z'
        | succ m => simpa using h2 m (Nat.lt_of_succ_lt_succ hm)
theorem ix_ne {f k : ME} (hf : ∀ (en : En) (h : IH) (c' : Nat) (h' : IH), f en h ≠ .err c' h') (hk : ∀ (en : En) (h : IH) (c' : Nat) (h' : IH), k en h ≠ .err c' h') : ∀ (en : En) (h : IH) (c' : Nat) (h' : IH), op2 ixD f k en h ≠ .err c' h' := fun en h c' h' z => by
  rw [op2_e] at z
  cases q : f en h with
  | bad => rw [q] at z; cases z
  | err c2 h2 => exact hf en h c2 h2 q
  | ok x h1 =>
    rw [q, Out.bind_ok] at z
    cases q2 : k en h1 with
    | bad => rw [q2] at z; cases z
    | err c2 h2 => exact hk en h1 c2 h2 q2
    | ok y h3 =>
      rw [q2, Out.bind_ok] at z
      unfold ixD at z
      split at z
      · split at z
        · cases z
        · cases z
      · cases z
/-- a tuple of the head -/
structure GloT (K : PySem.W.Frag) (mg : Str → Option Value) (x : Str) (ds : List D) : Prop where
  ex : ∃ (a : Addr) (o : Obj), mg x = some (.ref a) ∧ K.lookup a = some o ∧ o.cls = .type "tuple" ∧ o.dict = none ∧ ∃ vs, KT K a vs ∧ ∀ m n H, Rvs K m n H vs ds
def dnoB (K : PySem.W.Frag) (x : Str) : Bool := match K.lookup (He.ga K x) with
  | some ⟨.type c, none, _, _⟩ => decide (c = "tuple")
  | _ => false
theorem GloT.of {K : PySem.W.Frag} {mg : Str → Option Value} {x : Str} {dv : List He.Dv} {ds : List D} (hm : mg x = some (.ref (He.ga K x))) (h : He.tupB K x dv = true) (hd : dnoB K x = true) (hr : ∀ m n H, Rvs K m n H (dv.map (He.Dv.v K)) ds) : GloT K mg x ds := by
  have kt : KT K (He.ga K x) (dv.map (He.Dv.v K)) := by
    rcases He.tupB_ok h (fun _ => none) with (q | ⟨o, q⟩) | q
    · cases q
    · cases q
    · exact q
  unfold dnoB at hd
  split at hd
  · rename_i c dt sl ho
    exact ⟨_, _, hm, ho, by rw [of_decide_eq_true hd], rfl, _, kt, hr⟩
  · cases hd
section
variable {X : Cx} {T : TF} {E : XK} {a b c e o : Expr} {es rest : List Expr} {pos : Pos} {f k l : ME}
def tixE (ds : List D) (t : MA) : ME := fun en h => (t en h).bind fun xs h1 => match optAll strOf ds, xs with
  | some ss, [y] => (match strOf y with
    | some z => (match fstIx z ss with
      | some j => .ok (.int ((j : Nat) : Int)) h1
      | none => .bad)
    | none => .bad)
  | _, _ => .bad
theorem de_tix {x : Str} {ds : List D} {t : MA} {p apos : Pos} (hm : GloT X.K X.mg x ds) (ha : DA X T E [e] t) (hg : Gl X x := by rfl) (hd : (x == ("__debug__" : Str)) = false := by decide)
    (hbase : attributeBase (.Name x p) "index" X.env (eval (.Name x p) X.env) = eval (.Name x p) X.env := by rfl)
    (hfew : ((backTo pos (starEach [e] X.env)).all (fun x => !x.1) && (backToKw pos (keywordEach [] X.env)).all (fun x => x.1.isSome)
      && decide (([e] : List Expr).length + ([] : List Keyword).length + (if ([] : List Keyword).isEmpty then 0 else 1) < 30)) = true := by rfl)
    (hline : (apos.endLine == pos.line) = true := by rfl) (hst : starEach [e] X.env = (false, eval e X.env) :: starEach [] X.env := by rfl) (hplain : (backTo pos (starEach [] X.env)).any (·.1) = false := by rfl) :
    DE X T E (.Call (.Attribute (.Name x p) "index" apos) [e] [] pos) (tixE ds t) := by
  obtain ⟨ad, ob, h1, h2, h3, h4, vs, kt, rs⟩ := hm
  exact PE.imp (pe_bm PySem.F.plainAttrs_tuple PySem.F.slot_tuple_index PySem.F.type_tuple_index mt_tup_index (pe_glob (v := .ref ad) hg h1 rfl hd) ha hbase hfew hline hst hplain) fun σ H Q ⟨m, h, en, rel, pp⟩ => ⟨.inr (.inl ⟨rfl, ob, h2, h3, h4⟩), chain rel pp fun m1 hh1 H1 us xs e1 rel1 rv1 p1 => by
    cases q : optAll strOf ds with
    | none => rw [q] at p1; exact p1.elim
    | some ss =>
      rw [q] at p1
      rcases rv1 with _ | ⟨r, t⟩
      · exact p1.elim
      · rcases t with _ | ⟨r2, t2⟩
        · rename_i v y
          dsimp only at p1
          cases q2 : strOf y with
          | none => rw [q2] at p1; exact p1.elim
          | some z =>
            rw [q2] at p1
            dsimp only at p1
            cases q3 : fstIx z ss with
            | none => rw [q3] at p1; exact p1.elim
            | some j =>
              rw [q3] at p1
              obtain ⟨g1, g2⟩ := fstIx_ok q3
              have ev := strsOf_ok (rs m1 hh1.length H1) q
              refine ⟨ad, ss, z, j, rfl, by rw [strOf_ok r q2], ?_, g1, g2, p1 m1 H1 _ (Ex.refl _ _ _) rel1.rh (.int _)⟩
              rw [← ev]
              exact .inr kt
        · exact p1.elim⟩
end
end DL

set_option Elab.async false
set_option linter.all false
set_option maxRecDepth 100000
set_option autoImplicit false
/-! Plain tools, third part: objects, methods, comprehensions that make objects. -/
namespace DL
open PySem PySem.Spec PyProof.Rows L2
section
variable {en en' en1 : En} {h h1 h2 h3 : IH} {d x y z v : D} {xs ys fs ds : List D} {f k l fo : ME} {a : MA} {t u : MT} {s T : MS} {g : MG} {i j n c : Nat} {b b1 b2 : Bool} {o : SO}
theorem insAt_e (e : h[i]? = some (.ins c fs)) : insAt h c (.ref i) = some (i, fs) := by
  unfold insAt
  dsimp only
  rw [e]
  exact if_pos rfl
theorem p_fld (e : h[i]? = some (.ins c fs)) (e2 : fs[j]? = some d) : fldD c j (.ref i) h = .ok d h := by
  unfold fldD
  rw [insAt_e e]
  dsimp only
  rw [e2]
theorem r_fld (e1 : f en h = .ok (.ref i) h1) (e : h1[i]? = some (.ins c fs)) (e2 : fs[j]? = some d) : op1 (fldD c j) f en h = .ok d h1 := r_op1 e1 (p_fld e e2)
theorem p_fput (e : h[i]? = some (.ins c fs)) (hj : j < fs.length) : fputD c j (.ref i) v h = .ok () (h.set i (.ins c (fs.set j v))) := by
  unfold fputD
  rw [insAt_e e]
  dsimp only
  unfold putFD
  rw [if_pos hj]
theorem p_fnew (e : h[i]? = some (.ins c fs)) (hj : j = fs.length) : fputD c j (.ref i) v h = .ok () (h.set i (.ins c (fs ++ [v]))) := by
  unfold fputD
  rw [insAt_e e]
  dsimp only
  unfold putFD
  rw [if_neg (by omega), if_pos hj]
theorem g_fld (e2 : fo en h = .ok (.ref i) h1) (e3 : h1[i]? = some (.ins c fs)) (hj : j < fs.length) : fldG c j fo v en h = .ok en (h1.set i (.ins c (fs.set j v))) := by
  unfold fldG
  rw [e2, Out.bind_ok, p_fput e3 hj]
  rfl
theorem g_fnew (e2 : fo en h = .ok (.ref i) h1) (e3 : h1[i]? = some (.ins c fs)) (hj : j = fs.length) : fldG c j fo v en h = .ok en (h1.set i (.ins c (fs ++ [v]))) := by
  unfold fldG
  rw [e2, Out.bind_ok, p_fnew e3 hj]
  rfl
/-- o.x = v -/
theorem s_fld (e1 : f en h = .ok v h1) (e2 : fo en h1 = .ok (.ref i) h2) (e3 : h2[i]? = some (.ins c fs)) (hj : j < fs.length) : asgS f (fldG c j fo) en h = .nx en (h2.set i (.ins c (fs.set j v))) := s_asg e1 (g_fld e2 e3 hj)
theorem s_fnew (e1 : f en h = .ok v h1) (e2 : fo en h1 = .ok (.ref i) h2) (e3 : h2[i]? = some (.ins c fs)) (hj : j = fs.length) : asgS f (fldG c j fo) en h = .nx en (h2.set i (.ins c (fs ++ [v]))) := s_asg e1 (g_fnew e2 e3 hj)
theorem g_nil : nilG [] en h = .ok en h := rfl
theorem g_cons {gs : MGs} {R : Out En} (e1 : g d en h = .ok en1 h1) (e2 : gs ds en1 h1 = R) : consG g gs (d :: ds) en h = R := by
  unfold consG
  dsimp only
  rw [e1]
  exact e2
theorem g_tup {gs : MGs} {R : Out En} (hn : ds.length = n) (e : gs ds en h = R) : tupG n gs (.tup ds) en h = R := by
  unfold tupG
  dsimp only
  rw [decide_eq_true hn]
  exact e
theorem g_name (e : en.set i (some d) = en1) : nameG i d en h = .ok en1 h := by rw [nameG_e, e]
/-- a method -/
theorem r_met {F : List D → IH → Out D} {R : Out D} (e1 : f en h = .ok (.ref i) h1) (e2 : h1[i]? = some (.ins c fs)) (e3 : a en h1 = .ok ds h2) (hn : ds.length + 1 = n) (e4 : F (.ref i :: ds) h2 = R) : metE c n F f a en h = R := by
  unfold metE
  rw [e1, Out.bind_ok, insAt_e e2]
  show (a en h1).bind _ = _
  rw [e3, Out.bind_ok, decide_eq_true hn]
  exact e4
/-- an object made -/
theorem p_mk {F : List D → IH → Out D} (e : F (.ref h.length :: ds) (h ++ [.ins c []]) = .ok .non h1) : mkD F c ds h = .ok (.ref h.length) h1 := by
  unfold mkD
  rw [e]
theorem p_mkE {F : List D → IH → Out D} {k : Nat} (e : F (.ref h.length :: ds) (h ++ [.ins c []]) = .err k h1) : mkD F c ds h = .err k h1 := by
  unfold mkD
  rw [e]
theorem r_mak {F : List D → IH → Out D} {R : Out D} (e1 : a en h = .ok ds h1) (hn : ds.length + 1 = n) (e2 : mkD F c ds h1 = R) : makE c n F a en h = R := by
  unfold makE
  rw [e1, Out.bind_ok, decide_eq_true hn]
  exact e2
theorem p_listT (e : getS h x = some xs) : listD true x h = .ok (.ref h.length) (h ++ [.lst xs]) := by
  unfold listD
  rw [e]
  rfl
theorem p_listF (e : getS h x = some xs) : listD false x h = .ok (.vl xs) h := by
  unfold listD
  rw [e]
  rfl
theorem p_ixR {p i : Nat} {x : D} (hp : lstAt h p = some xs) (e : xs[i]? = some x) : ixD (.ref p) (NI i) h = .ok x h := ixD_e (getS_L (d := .ref p) hp) e
theorem lstAt_e {p : Nat} (e : h[p]? = some (.lst xs)) : lstAt h p = some xs := by unfold lstAt; rw [e]
theorem getS_of {p : Nat} (e : h[p]? = some (.lst xs)) : getS h (.ref p) = some xs := getS_L (d := .ref p) (lstAt_e e)
theorem r_enumR {p : Nat} {f : ME} (e1 : f en h = .ok (.ref p) h) (e2 : lstAt h p = some xs) : enumV (consA f nilA) en h = .ok (fun h => (getL h (.ref p)).map (enumFrom 0)) h := by
  unfold enumV
  rw [consA_e, e1]
  show grd ((getL h (.ref p)).isSome) _ = _
  have : getL h (.ref p) = some xs := e2
  rw [this]
  rfl
end
/-- a comprehension whose items change the heap -/
theorem lcV_fold {α : Type} {w : View} {p : Pat} {e : ME} {vs : List Nat} {en : En} (ks : List α) (c : α → D) (I : Nat → List D → IH → Prop) (hw : ∀ i ys h, I i ys h → w h = some (ks.map c))
    (step : ∀ i k ys h, ks[i]? = some k → I i ys h → ∃ en' y h', p.set (c k) (wipeE en vs) = some en' ∧ e en' h = .ok y h' ∧ I (i + 1) (ys ++ [y]) h') (hz : ks.length ≤ 1000) (hl : ∀ i ys h, I i ys h → ys.length = i) :
    ∀ n i ys h, n + i = ks.length → I i ys h → ∃ ys' h', lcV w p yesT e vs en n i ys h = .ok ys' h' ∧ I ks.length ys' h' := by
  intro n
  induction n with
  | zero =>
    intro i ys h q hi
    refine ⟨ys, h, ?_, by rw [← q, Nat.zero_add]; exact hi⟩
    unfold lcV
    rw [hw i ys h hi]
    dsimp only
    rw [List.getElem?_eq_none (by rw [List.length_map]; omega)]
  | succ n ih =>
    intro i ys h q hi
    have hil : i < ks.length := by omega
    obtain ⟨en', y, h', e1, e2, hi'⟩ := step i ks[i] ys h (List.getElem?_eq_getElem hil) hi
    obtain ⟨ys', h'', e3, hi''⟩ := ih (i + 1) (ys ++ [y]) h' (by omega) hi'
    refine ⟨ys', h'', ?_, hi''⟩
    unfold lcV
    rw [hw i ys h hi]
    dsimp only
    rw [List.getElem?_map, List.getElem?_eq_getElem hil]
    dsimp only [Option.map_some]
    rw [e1]
    dsimp only
    have ey : yesT en' h = .ok true h := rfl
    rw [ey]
    dsimp only
    rw [e2]
    dsimp only
    rw [decide_eq_true (show ys.length < sizeLine from sizeL (by have := hl i ys h hi; omega)), grd_true]
    exact e3
theorem lc_fold {α : Type} {r : Bool} {fi : MV} {w : View} {p : Pat} {e : ME} {vs : List Nat} {en : En} {h h1 : IH} (ks : List α) (c : α → D) (I : Nat → List D → IH → Prop) (hf : fi en h = .ok w h1) (start : I 0 [] h1) (hw : ∀ i ys h, I i ys h → w h = some (ks.map c))
    (step : ∀ i k ys h, ks[i]? = some k → I i ys h → ∃ en' y h', p.set (c k) (wipeE en vs) = some en' ∧ e en' h = .ok y h' ∧ I (i + 1) (ys ++ [y]) h') (hz : ks.length ≤ 1000) (hl : ∀ i ys h, I i ys h → ys.length = i) :
    ∃ ys h', lcE r fi p yesT e vs en h = outL r ys h' ∧ I ks.length ys h' := by
  obtain ⟨ys, h', q, z⟩ := lcV_fold (w := w) (p := p) (e := e) (vs := vs) (en := en) ks c I hw step hz hl ks.length 0 [] h1 (by omega) start
  refine ⟨ys, h', ?_, z⟩
  unfold lcE
  rw [hf, Out.bind_ok, hw 0 [] h1 start]
  dsimp only
  rw [List.length_map, q, Out.bind_ok]
end DL

set_option Elab.async false
set_option linter.all false
set_option maxRecDepth 100000
set_option autoImplicit false
/-! x in l, where items are data of any depth. -/
namespace DL
open PySem PySem.Spec PyProof.Rows L2
section
variable {X : Cx} {T : TF}
def inX (neg : Bool) : D → D → IH → Out D := fun x y h => match res h dp x, res h dp y with
  | some a, some (.vl ds) => .ok (.bl (if neg then !(ds.any fun z => eqW z a) else ds.any fun z => eqW z a)) h
  | _, _ => .bad
theorem Goods.any {k j : Nat} {a : D} (ga : Good k a) : ∀ {ds : List D}, Goods j ds → (pys ds).any (fun z => PyData.eqv z (py a)) = ds.any fun z => eqW z a
  | _, .nil _ => rfl
  | _, .cons h t => by
    simp only [pys, List.any_cons]
    rw [Goods.any ga t, Good.eqv h ga]
theorem inX_ok {g : G} : OpS g (rInD g.K) (inX false) := by
  intro m h H x y dx dy E Q rh rx ry p
  unfold inX at p
  cases e1 : res h dp dx with
  | none => rw [e1] at p; exact p.elim
  | some a =>
    cases e2 : res h dp dy with
    | none => rw [e1, e2] at p; exact p.elim
    | some b =>
      rw [e1, e2] at p
      obtain ⟨g1, d1⟩ := res_ok rh dp rx e1
      obtain ⟨g2, d2⟩ := res_ok rh dp ry e2
      cases b with
      | vl ds =>
        have hs : Good dp (.vl ds) := g2
        refine ⟨py a, pys ds, d1, d2, g1.shaped (by decide), g2.shaped (by decide), ?_⟩
        cases g2 with
        | vl gs =>
          rw [Goods.any g1 gs]
          exact Post.val p rh (.bl _)
      | _ => exact p.elim
theorem notInX_ok {g : G} : OpS g (rNotInD g.K) (inX true) := by
  intro m h H x y dx dy E Q rh rx ry p
  unfold inX at p
  cases e1 : res h dp dx with
  | none => rw [e1] at p; exact p.elim
  | some a =>
    cases e2 : res h dp dy with
    | none => rw [e1, e2] at p; exact p.elim
    | some b =>
      rw [e1, e2] at p
      obtain ⟨g1, d1⟩ := res_ok rh dp rx e1
      obtain ⟨g2, d2⟩ := res_ok rh dp ry e2
      cases b with
      | vl ds =>
        refine ⟨py a, pys ds, d1, d2, g1.shaped (by decide), g2.shaped (by decide), ?_⟩
        cases g2 with
        | vl gs =>
          rw [Goods.any g1 gs]
          exact Post.val p rh (.bl _)
      | _ => exact p.elim
theorem Room.units65 {k : Nat} {A : Around} (r : Room k A) : A.units + 65 < cLine := by have := r.un; omega
theorem cr_inX {n : Nat} (hr : Room n X.A) : CmpRule X T .In (inX false) := ⟨_, op_inD (Room.units65 hr), inX_ok⟩
theorem cr_notinX {n : Nat} (hr : Room n X.A) : CmpRule X T .NotIn (inX true) := ⟨_, op_notInD (Room.units65 hr), notInX_ok⟩
theorem inX_e {neg : Bool} {x y : D} {h : IH} {ds : List D} (e1 : res h dp x = some x) (e2 : res h dp y = some (.vl ds)) : inX neg x y h = .ok (.bl (if neg then !(ds.any fun z => eqW z x) else ds.any fun z => eqW z x)) h := by
  unfold inX
  rw [e1, e2]
end
end DL

set_option Elab.async false
set_option linter.all false
set_option maxRecDepth 100000
set_option autoImplicit false
set_option maxHeartbeats 1000000
/-! sorted(rows, key=lambda x: (x[a], x[b])). -/
namespace DL
open PySem PySem.Spec PyProof.Rows L2
structure LamP (sc scope : Scope) (x : Str) : Prop where
  kind : scope.kind = .function
  co : scope.isCoroutine = false
  gen : scope.isGenerator = false
  nocell : ∀ y ∈ scope.names, y.2 ≠ .cell
  x : scope.names.lookup x = some .local
  free : ∀ y ∈ scope.names, y.2 = .free → sc.names.lookup y.1 = some .cell ∨ sc.names.lookup y.1 = some .free
def lamPB (sc scope : Scope) (x : Str) : Bool :=
  decide (scope.kind = .function) && !scope.isCoroutine && !scope.isGenerator && (scope.names.all fun y => !decide (y.2 = .cell)) && decide (scope.names.lookup x = some .local) &&
    scope.names.all fun y => (!decide (y.2 = .free) || decide (sc.names.lookup y.1 = some .cell) || decide (sc.names.lookup y.1 = some .free))
theorem lamP_by {sc scope : Scope} {x : Str} (h : lamPB sc scope x = true) : LamP sc scope x := by
  unfold lamPB at h
  simp only [Bool.and_eq_true, Bool.or_eq_true, Bool.not_eq_true', decide_eq_true_eq, decide_eq_false_iff_not, List.all_eq_true] at h
  obtain ⟨⟨⟨⟨⟨h1, h2⟩, h3⟩, h4⟩, h5⟩, h7⟩ := h
  refine ⟨h1, h2, h3, h4, h5, fun y hy e => ?_⟩
  rcases h7 y hy with (z | z) | z
  · exact absurd e z
  · exact .inl z
  · exact .inr z
/-- the key of a row: the ints at two places -/
def keyP (a b : Nat) : D → Option (List Int)
  | .tup ds => match ds[a]?, ds[b]? with
    | some (.int k), some (.int l) => some [k, l]
    | _, _ => none
  | _ => none
def kP (a b : Nat) (d : D) : List Int := (keyP a b d).getD []
theorem keyP_ok {a b : Nat} {d : D} {ns : List Int} (h : keyP a b d = some ns) : ∃ ds k l, d = .tup ds ∧ ds[a]? = some (.int k) ∧ ds[b]? = some (.int l) ∧ ns = [k, l] := by
  unfold keyP at h
  split at h
  · rename_i ds
    split at h
    · rename_i k l q1 q2
      cases h
      exact ⟨ds, k, l, rfl, q1, q2, rfl⟩
    · cases h
  · cases h
section
variable {X : Cx} {pins : List (Addr × Obj)} {σ : L2.St} {H : Hp} {s : Shared}
theorem keyP_call {A : Around} {x : Str} {f c' ta : Addr} {pm ctv : Value} {par : Arguments} {sc : Scope} {cl : List (Str × Addr)} {a b : Nat} {j1 j2 kk : Nat} {p1 p2 p3 p4 p5 p6 p7 : Pos} {k l : Int} {t1 t2 : Tok} {its : List Value} {qn : Str} {E : Value → Shared → Prop}
    (hdp : A.depth < recursionLimit) (nl : s.heap.NoLimit) (hkind : sc.kind = .function) (hco : sc.isCoroutine = false) (hgen : sc.isGenerator = false) (hnc : ∀ y ∈ sc.names, y.2 ≠ .cell) (hx : sc.names.lookup x = some .local)
    (hf : s.heap.get? f = some (PySem.W.kla_obj "<lambda>" qn par (.Tuple [.Subscript (.Name x p1) (.Constant (.int (a : Int)) j1 p2) p3, .Subscript (.Name x p4) (.Constant (.int (b : Int)) j2 p5) p6] kk p7) sc cl pm c' ctv)) (hcode : s.heap.CodeRec (.ref c') qn)
    (hbi : bindArgs (PySem.W.kla_fn "<lambda>" qn par (.Tuple [.Subscript (.Name x p1) (.Constant (.int (a : Int)) j1 p2) p3, .Subscript (.Name x p4) (.Constant (.int (b : Int)) j2 p5) p6] kk p7) sc cl pm (.ref c') ctv) ⟨[.ref ta], []⟩ = pure [(x, .ref ta)])
    (htu : IsTup s.heap ta its.toArray) (hz : its.length ≤ sizeLine) (hk : its[a]? = some (.int k t1)) (hl : its[b]? = some (.int l t2))
    (hd3 : (x == ("__debug__" : Str)) = false := by decide) :
    wpAny (model X.prog X.w) A (call (.ref f) [.ref ta]) (PySem.W.KeyPure (.tuple [.int k, .int l]) s) E s := by
  refine wpAny_call (codeAny_mono (R := fun r s' => ∃ u, r = .ok (.ret u) ∧ PySem.W.KeyPure (.tuple [.int k, .int l]) s u s') ?_ fun r s' h => ?_)
  case refine_2 =>
    obtain ⟨u, e, q⟩ := h
    subst e
    exact q
  refine PySem.W.kla_callFunE hdp hf rfl hco hgen rfl hcode ?_
  rw [hbi]
  refine wpAny_pure (wpAny_newFunctionEnv hnc (fun y hy => ?_) (fun h2 n1 n2 => ⟨nl.fresh _ n2, ?_⟩) hkind)
  · have e : y = (x, Value.ref ta) := by simpa using hy
    rw [e]
    exact hx
  have kp : ∀ b o, s.heap.get? b = some o → h2.get? b = some o := fun b o e => n2.extBut b o (Nat.ne_of_lt (Heap.lt_size e)) (Heap.get?_push_of_some _ e)
  have hsz := line63
  have hla : a < its.length := (List.getElem?_eq_some_iff.mp hk).1
  have hlb : b < its.length := (List.getElem?_eq_some_iff.mp hl).1
  refine PySem.W.kla_codeExpr ?_
  refine wpAny_Tuple (wpAny_items_cons ?_)
  refine Subscript_ (wpAny_Name (wpAny_loadName_local hkind hx n1 (v := .ref ta) (by simp) ?_) hd3)
  refine wpAny_Constant_int ?_
  refine subscriptTail_builtinR (x := .int k t1) (htu.keeps kp).typeIs slot_tuple_getitem.lookup
    (getItem_tuple (j := a) (Q := fun r s' => r = .int k t1 ∧ _) (htu.keeps kp) (by omega) (by omega) (by rw [List.size_toArray]; exact seqIndex_of (by omega) (by omega)) (by simpa using hk) ⟨rfl, ?_⟩) rfl
  refine wpAny_items_cons ?_
  refine Subscript_ (wpAny_Name (wpAny_loadName_local hkind hx n1 (v := .ref ta) (by simp) ?_) hd3)
  refine wpAny_Constant_int ?_
  refine subscriptTail_builtinR (x := .int l t2) (htu.keeps kp).typeIs slot_tuple_getitem.lookup
    (getItem_tuple (j := b) (Q := fun r s' => r = .int l t2 ∧ _) (htu.keeps kp) (by omega) (by omega) (by rw [List.size_toArray]; exact seqIndex_of (by omega) (by omega)) (by simpa using hl) ⟨rfl, ?_⟩) rfl
  refine wpAny_items_nil ⟨by rw [sizeLine_eq]; show 2 ≤ 16777216; decide, ?_⟩
  refine ⟨_, rfl, _, _, rfl, fun b o e => Heap.get?_push_of_some _ (kp b o e), ?_⟩
  exact Reads.tuple (Heap.get?_push_size _ rfl) rfl rfl (ReadsAll.cons (Reads.int _ _) (ReadsAll.cons (Reads.int _ _) ReadsAll.nil))
end
def sortPD (r : Bool) (a b : Nat) (x : D) (h : IH) : Out D := match getL h x with
  | some xs => grd (xs.all fun d => (keyP a b d).isSome) (outL r (isrt (fun d e => lexI (kP a b d) (kP a b e)) xs) h)
  | none => .bad
def sortPE (r : Bool) (a b : Nat) (f : ME) : ME := fun en h => (f en h).bind fun x h1 => sortPD r a b x h1
theorem pair_zip {K : PySem.W.Frag} {m : Mp} {n : Nat} {H : Hp} : ∀ {vs : List V} {ds : List D}, Rvs K m n H vs ds → Paired (fun (b : V × D) d => Rv K m n H b.1 d ∧ b.2 = d) (vs.zip ds) ds
  | _, _, .nil => .nil
  | _, _, .cons a b => .cons ⟨a, rfl⟩ (pair_zip b)
theorem pair_rvs {K : PySem.W.Frag} {m : Mp} {n : Nat} {H : Hp} : ∀ {bs : List (V × D)} {ds : List D}, Paired (fun (b : V × D) d => Rv K m n H b.1 d ∧ b.2 = d) bs ds → Rvs K m n H (bs.map (·.1)) ds
  | _, _, .nil => .nil
  | _, _, .cons a b => .cons a.1 (pair_rvs b)
theorem each_zip {K : PySem.W.Frag} {m : Mp} {n : Nat} {H : Hp} : ∀ {vs : List V} {ds : List D} {us : List Value}, Rvs K m n H vs ds → Vals vs us → PySem.W.EachIs (fun (u : Value) (b : V × D) => RelV b.1 u ∧ Rv K m n H b.1 b.2) us (vs.zip ds)
  | _, _, _, .nil, h => by cases h; exact .nil
  | _, _, _, .cons a b, h => by
    cases h with
    | cons h1 h2 => exact .cons ⟨h1, a⟩ (each_zip b h2)
theorem zip_each {K : PySem.W.Frag} {m : Mp} {n : Nat} {H : Hp} : ∀ {bs : List (V × D)} {us : List Value}, PySem.W.EachIs (fun (u : Value) (b : V × D) => RelV b.1 u ∧ Rv K m n H b.1 b.2) us bs → Vals (bs.map (·.1)) us
  | _, _, .nil => .nil
  | _, _, .cons a b => .cons a.1 (zip_each b)
section
variable {X : Cx} {T : TF} {E : XK} {e : Expr} {f : ME}
theorem de_sortP (r : Bool) (a b : Nat) {x : Str} {c P : Addr} {nr : Nat} {par : Arguments} {sc : Scope} {j1 j2 kk : Nat} {p p1 p2 p3 p4 p5 p6 p7 lpos kpos pos : Pos} (hr : Room (nr + 2) X.A) (TB : LamX.TabB X.base X.mg c P) (hcode : X.env.code = .ref c)
    (hmT : (P, X.env.qual ++ "<lambda>") ∈ T.tb) (hu : ∀ p ∈ T.tb, p.1 = P → p.2 = X.env.qual ++ "<lambda>") (L : LamP X.env.scope sc x) (he : DE X T E e f) (hm : X.mg "sorted" = none)
    (hg : Gl X "sorted" := by rfl) (hdef : defaultsOf par X.env = ([], []) := by rfl)
    (hbi : ∀ (q : Str) (cl : List (Str × Addr)) (pm cv ctv v : Value), bindArgs (PySem.W.kla_fn "<lambda>" q par (.Tuple [.Subscript (.Name x p1) (.Constant (.int (a : Int)) j1 p2) p3, .Subscript (.Name x p4) (.Constant (.int (b : Int)) j2 p5) p6] kk p7) sc cl pm cv ctv) ⟨[v], []⟩ = pure [(x, v)] := by intros; rfl)
    (hd3 : (x == ("__debug__" : Str)) = false := by decide)
    (hst1 : backTo pos (starEach [e] X.env) = (false, eval e X.env) :: backTo pos (starEach [] X.env) := by rfl) (hst2 : (backTo pos (starEach [e] X.env)).any (·.1) = false := by rfl) :
    DE X T E (.Call (.Name "sorted" p) [e] [⟨some "key", .Lambda par (.Tuple [.Subscript (.Name x p1) (.Constant (.int (a : Int)) j1 p2) p3, .Subscript (.Name x p4) (.Constant (.int (b : Int)) j2 p5) p6] kk p7) sc lpos, kpos⟩] pos) (sortPE r a b f) := by
  refine ⟨fun pins s σ H Q I hh => ?_⟩
  obtain ⟨m, h, en, rel, post⟩ := hh
  refine wpAny_Call_Name_kw (ld_blt I hg hm (u := .builtin "sorted") (by decide +kernel) ?_ (by decide) (by decide))
  refine PyProof.Rows.callWith_kw ?_ hst1 hst2 rfl rfl
  rw [hst1]
  refine Calls.spliced_cons (thn (he.run pins s σ H _ I (chain (P := fun v H1 => ∃ m1 h1 d, Ex m h.length H m1 h1.length H1 ∧ Rel (gX X T) m1 h1 σ en H1 ∧ Rv X.K m1 h1.length H1 v d ∧ Post (Rv X.K) (gX X T) m1 h1.length H1 E Q (sortPD r a b d h1)) rel post fun m1 h1 H1 v d a b c e => ⟨m1, h1, d, a, b, c, e⟩)) fun u s1 ⟨v, H1, I1, rv, m1, h1, d, ex1, rel1, rd, post1⟩ => ?_)
  refine Calls.spliced_nil ?_
  show wpAny _ _ (evalAll [do let v ← eval (.Lambda par (.Tuple [.Subscript (.Name x p1) (.Constant (.int (a : Int)) j1 p2) p3, .Subscript (.Name x p4) (.Constant (.int (b : Int)) j2 p5) p6] kk p7) sc lpos) X.env; standAt pos; pure v]) _ _ s1
  have hfree : ∀ y ∈ sc.names, y.2 = .free → ∃ c, X.env.cells.lookup y.1 = some c := fun y hy e => by
    rcases L.free y hy e with k | k
    · exact I1.ok.has _ (.inl k)
    · exact I1.ok.has _ (.inr k)
  refine wpAny_evalAll_cons (wpAny_bind (LamX.lam_make2 I1 TB hcode hmT hu rel1.rh.tab hdef hfree fun f c' pm' ctv H2 s2 I2 eN T2 hf nf ns hco => wpAny_bind (wpAny_standAt (wpAny_pure (wpAny_evalAll_nil ?_)))))
  show wpAny _ _ (call (.builtin "sorted") [u] [(Str.ofString "key", .ref f)]) _ _ s2
  have rel2 : Rel (gX X T) m1 h1 σ en H2 := rel1.next (Ex.extN eN) (rel1.rh.extN eN T2)
  have rd2 : Rv X.K m1 h1.length H2 v d := rd.mono (Ex.extN eN)
  unfold sortPD at post1
  cases q1 : getL h1 d with
  | none => rw [q1] at post1; exact post1.elim
  | some xs =>
    rw [q1] at post1
    obtain ⟨hc, post2⟩ := Post.grd post1
    rw [List.all_eq_true] at hc
    obtain ⟨ad, vs, rfl, sq, rs⟩ := getL_ok rel2.rh rd2 q1
    have eu : u = Value.ref ad := rv
    subst eu
    obtain ⟨its, rvs, hl, hz⟩ := I2.list sq
    have hlen := rs.length
    have ez := each_zip rs rvs
    have pz := pair_zip rs
    have zl : (vs.zip xs).length = vs.length := by rw [List.length_zip, hlen, Nat.min_self]
    obtain ⟨⟨oc, vo, tt, y1, y2, y3⟩, _, _⟩ := I2.hok c' _ hco
    have hu2 := hr.un
    have hdp := hr.dp
    have hmem : ∀ z ∈ vs.zip xs, (keyP a b z.2).isSome = true := fun z hz => hc z.2 (List.of_mem_zip hz).2
    have kdat : ∀ z ∈ vs.zip xs, PyData.tuple ((kP a b z.2).map .int) = PyData.tuple ((kP a b z.2).map .int) := fun _ _ => rfl
    refine PySem.W.sorted_key_data (b := false) (k := fun z : V × D => PyData.tuple ((kP a b z.2).map .int)) (R := fun (u : Value) (z : V × D) => RelV z.1 u ∧ Rv X.K m1 h1.length H2 z.1 z.2) hl.isList ez ?_ ?_ (by rw [zl]; exact hz) ?_ (PyProof.Rows.ksk_s1 _ _) (fun _ => PyProof.Rows.ksk_l1 _ _) (fun _ => PyProof.Rows.ksk_t1 _ _) ?_ ?_
    · intro x hx y hy
      obtain ⟨n1, _, rfl⟩ := List.mem_map.mp hx
      obtain ⟨n2, _, rfl⟩ := List.mem_map.mp hy
      show PySem.W.alikeAll _ _ = true
      exact PySem.W.alike_ints _ _
    · refine .inl fun d hd => ?_
      obtain ⟨z, hz, rfl⟩ := List.mem_map.mp hd
      obtain ⟨ns, ek⟩ := Option.isSome_iff_exists.mp (hmem z hz)
      obtain ⟨ds, k, l, _, _, _, rfl⟩ := keyP_ok ek
      refine ⟨.int k, [.int l], ?_⟩
      unfold kP
      rw [ek]
      rfl
    · intro z hz
      show X.A.units + 2 + PyData.depth _ < _
      simp only [PyData.depth]
      rw [PySem.W.depth_ints]
      omega
    · rintro w z ⟨rw1, rw2⟩ hz h' tk kp
      obtain ⟨ns, ek⟩ := Option.isSome_iff_exists.mp (hmem z hz)
      obtain ⟨ds, k, l, ed, e1, e2, rfl⟩ := keyP_ok ek
      rw [ed] at rw2
      obtain ⟨ta, vts, ev, sqt, rts⟩ := getT_ok (g := gX X T) rw2 (show getT (.tup ds) = some ds from rfl)
      obtain ⟨itt, rvt, hlt, hzt⟩ := I2.tuple sqt
      rw [ev] at rw1
      have rw1 : w = Value.ref ta := rw1
      subst rw1
      obtain ⟨vk, g5, g6⟩ := rts.get e1
      cases g6
      obtain ⟨wk, g7, t1, rfl⟩ := rvt.get g5
      obtain ⟨vl, g8, g9⟩ := rts.get e2
      cases g9
      obtain ⟨wl, g10, t2, rfl⟩ := rvt.get g8
      have ekk : (kP a b z.2) = [k, l] := by unfold kP; rw [ek]; rfl
      rw [ekk]
      exact keyP_call (X := X) (s := { s2 with heap := h', toks := tk }) (by show X.A.depth < _; omega) (I2.nolimit.keeps kp) L.kind L.co L.gen L.nocell L.x (kp _ _ hf) ⟨c', oc, vo, tt, rfl, kp _ _ y1, y2, y3⟩ (hbi _ _ _ _ _ _) (hlt.keeps kp) (by rw [← rvt.length]; exact hzt) g7 g10 hd3
    · intro out cnt h' tk kp _ hD hlen2 hE
      have tl := PySem.W.sortLe_total (α := V × D) (PyProof.Rows.listOrd PyProof.Rows.itemOrd) false fun z => PySem.W.keyToks (PyData.tuple ((kP a b z.2).map .int))
      have es : (vs.zip xs).mergeSort (PySem.W.dataLe false fun z : V × D => PyData.tuple ((kP a b z.2).map .int)) = isrt (PySem.W.dataLe false fun z : V × D => PyData.tuple ((kP a b z.2).map .int)) (vs.zip xs) := isrt_eq (fun a b c => tl.trans a b c) (fun a b => Bool.or_eq_true_iff.mpr (tl.total a b)) _
      rw [es] at hE
      have ps := isrt_pair (le := PySem.W.dataLe false fun z : V × D => PyData.tuple ((kP a b z.2).map .int)) (le' := fun d e => lexI (kP a b d) (kP a b e)) (fun z d z' d' h1 h2 => by
        rw [← h1.2, ← h2.2]
        exact data_le (fun z : V × D => PyData.tuple ((kP a b z.2).map .int)) (fun z => kP a b z.2) (fun z => kP a b z.2) z z' rfl rfl) pz
      have hv := zip_each hE
      have hz2 : ((isrt (PySem.W.dataLe false fun z : V × D => PyData.tuple ((kP a b z.2).map .int)) (vs.zip xs)).map (·.1)).length ≤ sizeLine := by
        rw [List.length_map, (isrt_perm _).length_eq, zl]
        exact hz
      refine ⟨.ref _, upd H2 (s2.heap.objs.size + 1) (.lst ((isrt (PySem.W.dataLe false fun z : V × D => PyData.tuple ((kP a b z.2).map .int)) (vs.zip xs)).map (·.1))), I2.laid (t' := tk) kp (Nat.le_succ _) ⟨hz2, out, cnt, hv, hD⟩, rfl, ?_⟩
      exact Post.outL (g := gX X T) (m := m1) (h := h1) (E := E) (Post.ext (Ex.extN eN) post2) rel2.rh (pair_rvs ps) (I2.hok.fresh (Nat.le_succ _))
end
end DL

set_option Elab.async false
set_option linter.all false
set_option maxRecDepth 100000
set_option autoImplicit false
set_option maxHeartbeats 1000000
/-! A dict of one pair whose key is a truth: made, asked for its class, walked by its key. -/
namespace DL
open PySem PySem.Spec PyProof.Rows L2
def isTr : Bool → Value → Bool
  | b, .bool c => b == c
  | _, _ => false
theorem isTr_eq {b : Bool} {v : Value} (h : isTr b v = true) : v = .bool b := by
  cases v with
  | bool c => exact congrArg Value.bool (eq_of_beq (show (b == c) = true from h)).symm
  | _ => exact absurd h Bool.false_ne_true
theorem isTr_leaf (b : Bool) : Leaf.isOf (.num (if b = true then 1 else 0)) (.bool b) = true := decide_eq_true rfl
def boolKind (prog : Program) (w : World) : PySem.KeyKind prog w Bool where
  is := isTr
  hash := fun b => (Leaf.num (if b = true then 1 else 0)).key.hash w
  inj := fun v a b ha hb => by
    have h := (isTr_eq ha).symm.trans (isTr_eq hb)
    injection h
  byValue := fun k v h => by rw [isTr_eq h]; rfl
  pyHash := fun {A E s k v Q} h q => by
    rw [isTr_eq h]
    exact pyHash_leaf (isTr_leaf k) q
  eqBool := fun {A E s a b u v Q} hu hv h => by
    rw [isTr_eq hu, isTr_eq hv]
    have z := eqAt_leaf (A := A) (s := s) (isTr_leaf a) (isTr_leaf b)
    have e : decide (Leaf.num (if a = true then 1 else 0) = Leaf.num (if b = true then 1 else 0)) = decide (a = b) := by cases a <;> cases b <;> decide
    rw [e] at z
    exact z _ _ _ _ h
  «strs» := fun k x t v h => absurd h Bool.false_ne_true
/-- .. as it stands -/
def oddP (a : Addr) (o : Obj) : HO := .ext fun h => h.get? a = some o
def Odd (a : Addr) (o : Obj) (b : Bool) (v : V) : Prop := ∃ (u : Value) (e : DictEntry) (ep : Nat), (a == sysModules) = false ∧ o.ExactDict ∧ o.data = .dict #[e] ep ∧ e.key = .bool b ∧ RelV v u
section
variable {X : Cx} {pos : Pos} {tg e : Expr}
theorem pe_dispB {k v : Expr} {b : Bool} {y : V} (hk : PE X k fun _ H Q => Q (.bl b) H) (hv : PE X v fun _ H Q => Q y H) :
    PE X (.Dict [some k] [v] pos) fun _ H Q => ∀ p o, H p = none → Odd p o b y → Q (.ref p) (upd H p (oddP p o)) := by
  refine ⟨fun pins s σ H Q I q => ?_⟩
  have hn := I.hok.fresh (Nat.le_refl s.heap.objs.size)
  have I1 := I.laid (a := s.heap.objs.size) (o := .dK []) (h' := s.heap.push { cls := .type "dict", data := .dict #[] }) (t' := s.toks) (fun _ _ q => Heap.get?_push_of_some _ q) (Nat.le_refl _) (dk_empty s.heap I.big)
  refine wpAny_Dict_walk (knd := boolKind X.prog X.w) rfl rfl (fun z => by cases z) (by show 1 ≤ 15; decide) (pairTrees_cons_walk (thn (hk.run pins _ σ _ (fun x H1 => x = .bl b ∧ H1 = upd H s.heap.objs.size (.dK [])) I1 ⟨rfl, rfl⟩) fun u s1 ⟨x, H1, J1, rx, e1, e2⟩ => ?_))
  subst e1 e2
  refine thn (hv.run pins s1 σ _ (fun x H1 => x = y ∧ H1 = upd H s.heap.objs.size (.dK [])) J1 ⟨rfl, rfl⟩) fun w2 s2 ⟨x2, H2, J2, rx2, e3, e4⟩ => ?_
  subst e3 e4
  refine pairTrees_nil_walk ?_
  obtain ⟨z, hd, vs0, r0, dd⟩ := dk_of J2.hok (a := s.heap.objs.size) (kvs := []) upd_same
  cases r0
  have eu : u = Value.bool b := rx
  subst eu
  refine ⟨[(b, w2)], ⟨by show (b == b) = true; simp, rfl, True.intro⟩, ?_, fun h' dd' hs => ?_⟩
  · obtain ⟨o, es, ep, h1, h2, h3, h4, h5, h6⟩ := dd
    refine ⟨o, es, ep, h1, h2, h3, ?_, ?_, List.nodup_nil⟩
    · have : es.toList = [] := by
        cases q : es.toList with
        | nil => rfl
        | cons a l => rw [q] at h5; cases h5
      have e0 : es = #[] := Array.toList_eq_nil_iff.mp this
      subst e0
      intro e he
      simp at he
    · have : es.toList = [] := by
        cases q : es.toList with
        | nil => rfl
        | cons a l => rw [q] at h5; cases h5
      rw [this]
      exact .nil
  · obtain ⟨o, es, ep, h1, h2, h3, h4, h5, h6⟩ := dd'
    have h5 : Pairs (boolKind X.prog X.w) es.toList [(b, w2)] := h5
    cases q5 : es.toList with
    | nil => rw [q5] at h5; cases h5
    | cons en l =>
      rw [q5] at h5
      cases h5 with
      | cons k1 k2 k3 =>
        cases k3
        have e0 : es = #[en] := by
          have := congrArg List.toArray q5
          simpa using this
        subst e0
        have od : Odd s.heap.objs.size o b x2 := ⟨w2, en, ep, hd, h2, h3, isTr_eq k1, rx2⟩
        refine ⟨.ref s.heap.objs.size, upd H s.heap.objs.size (oddP s.heap.objs.size o), ?_, rfl, q _ o hn od⟩
        have J3 : Inv X pins σ (upd (upd H s.heap.objs.size (.dK [])) s.heap.objs.size (oddP s.heap.objs.size o)) { s2 with heap := h', toks := s2.toks + [(Value.bool b, w2)].length } :=
          d_write J2 (by rw [upd_same]; exact True.intro) hs ⟨o, h1⟩ ⟨h1, ⟨o, h1⟩, fun h1 h2 p k => k _ p⟩
        rw [upd_upd] at J3
        exact J3
theorem CallR.or {f : Value} {r r' : List V → Hp → VK → Prop} (h : CallR X f r) (h' : CallR X f r') : CallR X f (fun xs H Q => r xs H Q ∨ r' xs H Q) := fun pins s σ H xs us Q I rv q => q.elim (h pins s σ H xs us Q I rv) (h' pins s σ H xs us Q I rv)
def rIsiO : List V → Hp → VK → Prop := fun xs H Q => ∃ (a : Addr) (o : Obj) (b : Bool) (v : V), xs = [.ref a, .ty "dict"] ∧ H a = some (oddP a o) ∧ Odd a o b v ∧ Q (.bl true) H
theorem call_isiO : CallR X (.builtin "isinstance") rIsiO := by
  intro pins s σ H xs us Q I r h
  obtain ⟨a, o, b, v, rfl, ha, od, q⟩ := h
  obtain ⟨u1, u2, rfl, r1, r2⟩ := vals2 r
  cases (show u1 = Value.ref a from r1)
  cases (show u2 = Value.type "dict" from r2)
  obtain ⟨u, en, ep, _, h2, _⟩ := od
  have hg : s.heap.get? a = some o := (I.hok a _ ha).1
  exact PySem.W.kia_one PySem.W.kitx_dict I.kIn ⟨o, hg, h2.1⟩ (kit_ty (by decide +kernel)) (fun z => nomatch z) fun tk => ⟨.bl true, H, I.tok tk, rfl, q⟩
/-- its one key -/
def Ito (d : Addr) (o : Obj) (x : V) : It := ⟨fun i H => H d = some (oddP d o) ∧ i < 1, fun i H y H' => H' = H ∧ y = x, fun i H => H d = some (oddP d o) ∧ 1 ≤ i⟩
theorem turn_odd {P : Program} {w : World} {K : PySem.W.Frag} {d : Addr} {o : Obj} {en : DictEntry} {ep : Nat} {b : Bool} (it : Addr) (hod : o.data = .dict #[en] ep) (hk : en.key = .bool b) : Turn P w K tg (Ito d o (.bl b)) [it] it (fun i h => h.IsKeyIter it d i 1 ep) where
  mem := by simp
  obj := fun i h st b hb => by
    have e : b = it := by simpa using hb
    subst e
    obtain ⟨oi, e, c, dd⟩ := st
    exact ⟨oi, e, fun v z => by rw [dd] at z; cases z⟩
  keep := fun i h h' st k => st.at fun oi e => k it (by simp) oi e
  item := by
    intro X hP hw hK hc i pins s σ H E I hf st hg
    subst hP hw hK
    obtain ⟨hd, hi⟩ := hg
    obtain ⟨f0, f1, f2, f3, f4, f5⟩ := hf it (by simp)
    have hgd : s.heap.get? d = some o := (I.hok d _ hd).1
    have e0 : i = 0 := by omega
    subst e0
    refine next_key_item st hgd hod rfl (en := en) rfl fun h' st' sb => ?_
    have I1 : Inv X pins σ H { s with heap := h' } := I.turned (t' := s.toks) (fun b ob hb e => (sb.2 b hb).trans e) f0 f1 f3 f4 f5
    obtain ⟨oi, e, c, dd⟩ := id st'
    exact ⟨en.key, rfl, go_of (s := { s with heap := h' }) e c dd (by decide) ⟨.bl b, H, I1, hk, ⟨rfl, rfl⟩, st', fun b hb => (hf b hb).1⟩⟩
  done := by
    intro X hP hw hK hc i pins s σ H E I hf st hg
    subst hP hw hK
    obtain ⟨hd, hi⟩ := hg
    obtain ⟨f0, f1, f2, f3, f4, f5⟩ := hf it (by simp)
    have hgd : s.heap.get? d = some o := (I.hok d _ hd).1
    exact next_key_end (I.ok.hd hc) st hgd hod rfl hi fun h' eb => ⟨rfl, I.turned (t' := s.toks) (fun b ob hb e => eb b ob hb e) f0 f1 f3 f4 f5⟩
  self := fun A i s Q E st h => wpAny_pyIter_keyiter st h
def iKeysO (td : TE) : TI := fun σ H R => td σ H fun x H1 => ∃ d o b v, x = .ref d ∧ H1 d = some (oddP d o) ∧ Odd d o b v ∧ R (Ito d o (.bl b)) H1
theorem pi_keysO {td : TE} (he : PE X e td) : PI X tg e (iKeysO td) := by
  refine ⟨fun pins s σ H R I h => ?_⟩
  refine thn (he.run pins s σ H _ I h) fun u s1 ⟨x, H1, I1, rx, d, o, b, v, ex, hd, od, q⟩ => ?_
  subst ex
  obtain rfl : u = Value.ref d := rx
  obtain ⟨u, en, ep, hs, hx, hdt, hk, _⟩ := od
  have hgd : s1.heap.get? d = some o := (I1.hok d _ hd).1
  exact iter_keys hs hgd hx hdt (pi_one (tk := s1.toks) I1 _ (turn_odd _ hdt hk) ⟨_, Heap.get?_push_size _ rfl, rfl, rfl⟩ q)
end
/-! ### over the ideal heap -/
def putX (m : Mp) (n : Nat) (p : Addr) (u : HO) : Mp := ⟨m.P, fun i => if i = n then p else m i, fun a => if a = p then some u else m.F a⟩
theorem putX_same {m : Mp} {n : Nat} {p : Addr} {u : HO} : putX m n p u n = p := if_pos rfl
theorem putX_ne {m : Mp} {n i : Nat} {p : Addr} {u : HO} (h : i ≠ n) : putX m n p u i = m i := if_neg h
theorem putX_F {m : Mp} {n : Nat} {p : Addr} {u : HO} : (putX m n p u).F p = some u := if_pos rfl
theorem putX_Fne {m : Mp} {n : Nat} {p a : Addr} {u : HO} (h : a ≠ p) : (putX m n p u).F a = m.F a := if_neg h
theorem RH.noF {g : G} {m : Mp} {h : IH} {H : Hp} {p : Addr} (r : RH g m h H) (hp : H p = none) : m.F p = none := by
  cases z : m.F p with
  | none => rfl
  | some u =>
    obtain ⟨o, e, _⟩ := r.fz2 p u z
    rw [hp] at e
    cases e
theorem Ex.allocX {m : Mp} {n : Nat} {H H' : Hp} {p : Addr} {u : HO} (hp : H p = none) (hF : m.F p = none) (hk : ∀ a o, H a = some o → H' a = some o) : Ex m n H (putX m n p u) (n + 1) H' :=
  have e := Ex.alloc (m := m) (n := n) hp hk
  ⟨e.le, e.prot, e.same, e.new, e.keep, e.dom, fun a w z => by
    by_cases q : a = p
    · rw [q, hF] at z
      cases z
    · rw [putX_Fne q]
      exact z⟩
theorem RH.allocX {g : G} {m : Mp} {h : IH} {H H' : Hp} {p : Addr} {φ : Heap → Prop} {t : Nat} {vs : List V} {ds : List D} (r : RH g m h H) (hp : H p = none) (hk : ∀ a o, H a = some o → H' a = some o) (hx : H' p = some (.ext φ)) (ho : Otr g.T t p φ vs) (rv : Rvs g.K m h.length H vs ds) (hcp : Cmp g.T m h.length H t p φ := by trivial) :
    RH g (putX m h.length p (.ext φ)) (h ++ [.ext t ds]) H' :=
  have ex : Ex m h.length H (putX m h.length p (.ext φ)) (h.length + 1) H' := Ex.allocX hp (r.noF hp) hk
  have lt : ∀ i, i < h.length → putX m h.length p (.ext φ) i ≠ p := fun i hi => by
    rw [putX_ne (Nat.ne_of_lt hi)]
    exact (r.off hp).2 i hi
  { obj := fun i u hi => by
      rw [List.length_append, List.length_singleton]
      by_cases hl : i < h.length
      · rw [List.getElem?_append_left hl] at hi
        have q := r.obj i u hi
        obtain ⟨z, e, _⟩ := q.is
        rw [putX_ne (Nat.ne_of_lt hl)]
        exact q.mono ex (by rw [hk _ _ e, e])
      · have : i = h.length := by
          have := (List.getElem?_eq_some_iff.mp hi).1
          rw [List.length_append, List.length_singleton] at this
          omega
        subst this
        simp at hi
        subst hi
        rw [putX_same]
        exact ⟨φ, vs, hx, putX_F, ho, hcp.mono ex, rv.mono ex⟩
    inj := fun i j hi hj e => by
      rw [List.length_append, List.length_singleton] at hi hj
      by_cases h1 : i = h.length
      · by_cases h2 : j = h.length
        · rw [h1, h2]
        · rw [h1, putX_same] at e
          exact absurd e.symm (lt j (by omega))
      · by_cases h2 : j = h.length
        · rw [h2, putX_same] at e
          exact absurd e (lt i (by omega))
        · rw [putX_ne h1, putX_ne h2] at e
          exact r.inj i j (by omega) (by omega) e
    tab := r.tab.ext hk
    frm := fun q hq => by
      rw [List.length_append, List.length_singleton]
      exact (r.frm q hq).mono ex
    prt := fun a z => by
      obtain ⟨u, e, k⟩ := r.prt a z
      exact ⟨u, hk _ _ e, k⟩
    npr := fun i hi => by
      rw [List.length_append, List.length_singleton] at hi
      by_cases h1 : i = h.length
      · rw [h1, putX_same]
        exact (r.off hp).1
      · rw [putX_ne h1]
        exact r.npr i (by omega)
    fz1 := fun i u hi nf nx => by
      by_cases hl : i < h.length
      · rw [putX_Fne (lt i hl), putX_ne (Nat.ne_of_lt hl)]
        rw [List.getElem?_append_left hl] at hi
        exact r.fz1 i u hi nf nx
      · have : i = h.length := by
          have := (List.getElem?_eq_some_iff.mp hi).1
          rw [List.length_append, List.length_singleton] at this
          omega
        subst this
        simp at hi
        exact absurd hi.symm (nx t ds)
    fz2 := fun a u z => by
      by_cases q : a = p
      · exact ⟨_, by rw [q]; exact hx, NT.ext⟩
      · rw [putX_Fne q] at z
        obtain ⟨o, e, k⟩ := r.fz2 a u z
        exact ⟨o, hk _ _ e, k⟩
    fz3 := fun a z => by
      have q : a ≠ p := fun q => (r.off hp).1 (by rw [← q]; exact z)
      rw [putX_Fne q]
      exact r.fz3 a z }
def oddAt (h : IH) : D → Option Bool
  | .ref i => match h[i]? with
    | some (.ext 0 [.bl b, _]) => some b
    | _ => none
  | _ => none
theorem oddAt_ok {g : G} {m : Mp} {h : IH} {H : Hp} {v : V} {d : D} {b : Bool} (rh : RH g m h H) (rv : Rv g.K m h.length H v d) (e : oddAt h d = some b) : ∃ i o w, d = .ref i ∧ i < h.length ∧ v = .ref (m i) ∧ H (m i) = some (oddP (m i) o) ∧ m.F (m i) = some (oddP (m i) o) ∧ Odd (m i) o b w := by
  cases d with
  | ref j =>
    unfold oddAt at e
    dsimp only at e
    split at e
    · rename_i b' d' q
      cases e
      obtain ⟨φ, vs, h1, hf, ⟨o, b2, w, u, en, ep, h2, h3, h4, h5, h6, h7, h8⟩, _, h9⟩ := rh.obj j _ q
      subst h2 h3
      cases h9 with
      | cons r1 _ =>
        cases r1
        cases rv
        exact ⟨j, o, w, rfl, (List.getElem?_eq_some_iff.mp q).1, rfl, h1, hf, u, en, ep, h4, h5, h6, h7, h8⟩
    · cases e
  | _ => cases e
def oddE (b : Bool) (i : Int) : ME := fun _ h => .ok (.ref h.length) (h ++ [.ext 0 [.bl b, .int i]])
section
variable {X : Cx} {T : TF} {E : XK} {e tg : Expr} {pos p p1 p2 : Pos} {f : ME} {st : Stmt} {fs : MS}
theorem de_oddE {b : Bool} {i : Int} {j k : Nat} : DE X T E (.Dict [some (.Constant (.bool b) j p1)] [.Constant (.int i) k p2] pos) (oddE b i) :=
  PE.imp (pe_dispB (b := b) (y := .int i) (PE.imp pe_bl fun _ _ _ q => q) (PE.imp pe_int fun _ _ _ q => q)) fun σ H Q ⟨m, h, en, rel, post⟩ q o hq od => by
    have hlen : (h ++ [O.ext 0 [.bl b, .int i]]).length = h.length + 1 := by simp
    have hk := upd_keeps (o := oddP q o) hq
    have ex : Ex m h.length H (putX m h.length q (oddP q o)) (h ++ [O.ext 0 [.bl b, .int i]]).length (upd H q (oddP q o)) := by rw [hlen]; exact Ex.allocX hq (rel.rh.noF hq) hk
    obtain ⟨u, en2, ep, h4, h5, h6, h7, h8⟩ := od
    have rh1 : RH (gX X T) (putX m h.length q (oddP q o)) (h ++ [O.ext 0 [.bl b, .int i]]) (upd H q (oddP q o)) := rel.rh.allocX (vs := [.bl b, .int i]) hq hk upd_same ⟨o, b, .int i, u, en2, ep, rfl, rfl, h4, h5, h6, h7, h8⟩ (.cons (.bl b) (.cons (.int i) .nil))
    refine post _ _ _ ex rh1 ?_
    have z := Rv.ref (K := X.K) (m := putX m h.length q (oddP q o)) (n := (h ++ [O.ext 0 [.bl b, .int i]]).length) (H := upd H q (oddP q o)) (i := h.length) (by rw [hlen]; omega)
    rw [putX_same] at z
    exact z
def isiO (d : D) (h : IH) : Out D := match oddAt h d with
  | some _ => .ok (.bl true) h
  | none => isiD .dict d h
theorem de_isiO {x : Str} (hm : X.mg "isinstance" = none) (hx : X.mg x = none) (hv : bootBuiltins x = some (.type "dict")) (ha : DE X T E e f) (hg : Gl X "isinstance" := by rfl) (hgx : Gl X x := by rfl) (hn : x ≠ "__name__" := by decide) (hdb : (x == ("__debug__" : Str)) = false := by decide)
    (hs1 : starEach [e, .Name x p2] X.env = (false, eval e X.env) :: starEach [.Name x p2] X.env := by rfl) (hs2 : starEach [.Name x p2] X.env = (false, eval (.Name x p2) X.env) :: starEach [] X.env := by rfl) (hpl : (backTo pos (starEach [.Name x p2] X.env)).any (·.1) = false := by rfl) :
    DE X T E (.Call (.Name "isinstance" p) [e, .Name x p2] [] pos) (op1 isiO f) :=
  PE.imp (pe_callB (call_isi.or call_isiO) hg hm boot_isinstance (pa_cons ha (pa_cons (pe_bltn (v := .ty "dict") hgx hx hv rfl hn hdb) pa_nil hs2) hs1) (by decide) (by decide) hs1 hpl) fun σ H Q ⟨m, h, en, rel, p⟩ => chain rel p fun m1 h1 H1 v d e1 rel1 rv1 p1 => by
    unfold isiO at p1
    cases q0 : oddAt h1 d with
    | some b =>
      rw [q0] at p1
      obtain ⟨i, o, w, ed, hi, rfl, z1, zf, z2⟩ := oddAt_ok rel1.rh rv1 q0
      exact .inr ⟨m1 i, o, b, w, rfl, z1, z2, Post.val p1 rel1.rh (.bl _)⟩
    | none =>
      rw [q0] at p1
      dsimp only at p1
      unfold isiD at p1
      cases q : isBT h1 .dict d with
      | none => rw [q] at p1; exact p1.elim
      | some b =>
        rw [q] at p1
        obtain ⟨ty, k1, k2⟩ := isBT_ok rel1.rh rv1 q
        exact .inl ⟨v, .ty "dict", ty, .type "dict", b, rfl, .ty _, k1, k2, Post.val p1 rel1.rh (.bl _)⟩
theorem its_odd {g : G} {m : Mp} {h : IH} {H : Hp} {i : Nat} {o : Obj} {b : Bool} (hi : i < h.length) (hF : m.F (m i) = some (oddP (m i) o)) : ItS g m h.length H (Ito (m i) o (.bl b)) (fun h => match oddAt h (.ref i) with
    | some c => if b = c then some [.bl b] else none
    | none => none) := by
  intro m1 h1 H1 ex rh xs e j
  have y1 : H1 (m i) = some (oddP (m i) o) := by
    dsimp only at e
    cases q : oddAt h1 (.ref i) with
    | none => rw [q] at e; cases e
    | some c =>
      unfold oddAt at q
      dsimp only at q
      split at q
      · rename_i b' d' q2
        obtain ⟨φ, vs, z1, zf, _⟩ := rh.obj i _ q2
        rw [ex.same i hi] at z1 zf
        have z := (ex.fz _ _ hF).symm.trans zf
        cases z
        exact z1
      · cases q
  have exs : xs = [.bl b] := by
    dsimp only at e
    split at e
    · split at e
      · cases e; rfl
      · cases e
    · cases e
  subst exs
  refine ⟨fun x hx => ?_, fun hl => ⟨y1, by simpa using hl⟩⟩
  cases j with
  | zero =>
    simp at hx
    subst hx
    refine ⟨⟨y1, by omega⟩, fun y H' ⟨eH, hy⟩ => ?_⟩
    subst eH hy
    exact ⟨Ex.refl _ _ _, rh, .bl b⟩
  | succ j => simp at hx
/-- the keys of a dict, be it such a one -/
def walkO (f : ME) : MV := fun en h => match f en h with
  | .ok d h1 => (match oddAt h1 d with
    | some b => .ok (fun h => match oddAt h d with
      | some c => if b = c then some [.bl b] else none
      | none => none) h1
    | none => walkV (fun q => keyD q.1) f en h)
  | _ => walkV (fun q => keyD q.1) f en h
theorem di_keysO (ha : DE X T E e f) : DI X T E tg e (walkO f) :=
  PI.imp (PI.or (di_keys (T := T) (E := E) ha) (pi_keysO ha)) fun σ H R ⟨m, h, en, rel, p⟩ => by
    unfold walkO at p
    cases q : f en h with
    | bad => rw [q] at p; exact .inl ⟨m, h, en, rel, p⟩
    | err c h1 => rw [q] at p; exact .inl ⟨m, h, en, rel, p⟩
    | ok d h1 =>
      rw [q] at p
      dsimp only at p
      cases q0 : oddAt h1 d with
      | none => rw [q0] at p; exact .inl ⟨m, h, en, rel, p⟩
      | some b =>
        rw [q0] at p
        dsimp only at p
        refine .inr ⟨m, h, en, rel, ?_⟩
        rw [q]
        intro m1 H1 v e1 rh1 rv1
        obtain ⟨i, o, w, rfl, hi, rfl, z1, zf, z2⟩ := oddAt_ok rh1 rv1 q0
        exact ⟨m1 i, o, b, w, rfl, z1, z2, p m1 H1 _ e1 rh1 (its_odd hi zf)⟩
theorem PS.or {t t' : TS} (h : PS X st t) (h' : PS X st t') : PS X st (fun D σ H => t D σ H ∨ t' D σ H) := ⟨fun pins s σ H D I w => w.elim (h.run pins s σ H D I) (h'.run pins s σ H D I)⟩
/-- such a dict wants no lock -/
def lockO (fd : ME) (b : MS) : MS := fun en h => match fd en h with
  | .ok x h1 => (match oddAt h x with
    | some _ => b en h
    | none => lockS fd b en h)
  | _ => lockS fd b en h
theorem ds_lockO (fd : ME) (hb : DS X T E st fs) : DS X T E st (lockO fd fs) :=
  PS.imp (PS.or (ds_lock fd hb) hb) fun D σ H ⟨m, h, en, rel, p⟩ => by
    unfold lockO at p
    cases q : fd en h with
    | bad => rw [q] at p; exact .inl ⟨m, h, en, rel, p⟩
    | err c h1 => rw [q] at p; exact .inl ⟨m, h, en, rel, p⟩
    | ok d h1 =>
      rw [q] at p
      dsimp only at p
      cases q0 : oddAt h d with
      | none => rw [q0] at p; exact .inl ⟨m, h, en, rel, p⟩
      | some b => rw [q0] at p; exact .inr ⟨m, h, en, rel, p⟩
/-- told of a refusal: the heap is cut back -/
def toldZ (nE : Nat) (f : ME) : ME := fun en h => match f en h with
  | .ok d h' => .ok d h'
  | .err c h' => if 11 ≤ c ∧ c < 11 + nE then (if h'.take h.length = h then .ok (.wd (c - 11)) h else .ok (.wd (c - 11)) h') else .bad
  | .bad => .bad
theorem de_toldZ {nE : Nat} {e : Expr} {fb : ME} (hd : DE X T E e (toldE nE fb)) : DE X T E e (toldZ nE fb) :=
  PE.imp hd fun σ H Q ⟨m, h, en, rel, p⟩ => by
    refine ⟨m, h, en, rel, ?_⟩
    unfold toldZ at p
    unfold toldE
    cases q : fb en h with
    | ok d h' => rw [q] at p; exact p
    | bad => rw [q] at p; exact p
    | err c h' =>
      rw [q] at p
      dsimp only at p ⊢
      split at p
      · rename_i hc
        rw [if_pos hc]
        split at p
        · rename_i z
          intro m' H' v a1 a2 a3
          exact p m' H' v a1.cut (rel.rh.cut a2 a1 z) (a3.shrink a1.le rfl)
        · exact p
      · exact p.elim
/-! ### a loop that leaves the slots alone, cut back -/
def EnvK (b : MS) : Prop := ∀ en h en' h', (b en h = .nx en' h' ∨ b en h = .ct en' h' ∨ b en h = .bk en' h') → en' = en
theorem EnvK.iff {t : MT} {f : ME} : EnvK (ifS t (retS f) passS) := by
  intro en h en' h' q
  unfold ifS at q
  cases z : t en h with
  | ok b h1 =>
    rw [z] at q
    cases b with
    | true =>
      have q : (retS f en h1 = .nx en' h' ∨ retS f en h1 = .ct en' h' ∨ retS f en h1 = .bk en' h') := q
      unfold retS at q
      cases y : f en h1 with
      | ok d h2 => rw [y] at q; rcases q with q | q | q <;> cases q
      | err c h2 => rw [y] at q; rcases q with q | q | q <;> cases q
      | bad => rw [y] at q; rcases q with q | q | q <;> cases q
    | false =>
      have q : (passS en h1 = .nx en' h' ∨ passS en h1 = .ct en' h' ∨ passS en h1 = .bk en' h') := q
      rcases q with q | q | q <;> cases q
      rfl
  | err c h1 => rw [z] at q; rcases q with q | q | q <;> cases q
  | bad => rw [z] at q; rcases q with q | q | q <;> cases q
def OnlyAt (i : Nat) (en en' : En) : Prop := en' = en ∨ ∃ x, en' = en.set i x
theorem forV_only {w : View} {i : Nat} {b : MS} (K : EnvK b) : ∀ (n k : Nat) (en : En) (h : IH) (en' : En) (h' : IH), forV w (stepB (nameG i) b) n k en h = .nx en' h' → OnlyAt i en en' := by
  intro n
  induction n with
  | zero =>
    intro k en h en' h' q
    unfold forV at q
    split at q
    · cases q
    · split at q
      · cases q; exact .inl rfl
      · cases q
  | succ n ih =>
    intro k en h en' h' q
    unfold forV at q
    split at q
    · cases q
    · split at q
      · cases q; exact .inl rfl
      · rename_i x _
        have st : stepB (nameG i) b x en h = b (en.set i (some x)) h := rfl
        rw [st] at q
        have more : ∀ en1 h1, (b (en.set i (some x)) h = .nx en1 h1 ∨ b (en.set i (some x)) h = .ct en1 h1) → forV w (stepB (nameG i) b) n (k + 1) en1 h1 = .nx en' h' → OnlyAt i en en' := by
          intro en1 h1 e1 e2
          have e3 := K _ _ en1 h1 (e1.elim .inl fun z => .inr (.inl z))
          subst e3
          rcases ih _ _ _ _ _ e2 with z | ⟨y, z⟩
          · exact .inr ⟨some x, z⟩
          · exact .inr ⟨y, by rw [z, List.set_set]⟩
        cases z : b (en.set i (some x)) h with
        | nx en1 h1 => rw [z] at q; exact more en1 h1 (.inl z) q
        | ct en1 h1 => rw [z] at q; exact more en1 h1 (.inr z) q
        | bk en1 h1 =>
          rw [z] at q
          cases q
          exact .inr ⟨some x, K _ _ _ _ (.inr (.inr z))⟩
        | rt d h1 => rw [z] at q; cases q
        | err c h1 => rw [z] at q; cases q
        | bad => rw [z] at q; cases q
def forZ (fi : MV) (i : Nat) (b : MS) : MS := fun en h => match forS fi (nameG i) b en h with
  | .nx _ h' => if h'.take h.length = h then .nx (en.set i none) h else .bad
  | .bk _ _ => .bad
  | .ct _ _ => .bad
  | z => z
theorem forS_only {fi : MV} {i : Nat} {b : MS} (K : EnvK b) {en en' : En} {h h' : IH} (q : forS fi (nameG i) b en h = .nx en' h') : OnlyAt i en en' := by
  unfold forS at q
  cases z : fi en h with
  | ok w h1 =>
    rw [z] at q
    have q : (match w h1 with
      | some xs => forV w (stepB (nameG i) b) xs.length 0 en h1
      | none => .bad) = .nx en' h' := q
    split at q
    · exact forV_only K _ _ _ _ _ _ q
    · cases q
  | err c h1 => rw [z] at q; cases q
  | bad => rw [z] at q; cases q
theorem ds_forZ {fi : MV} {i : Nat} {b : MS} (K : EnvK b) (hd : DS X T E st (forS fi (nameG i) b)) : DS X T E st (forZ fi i b) :=
  PS.imp hd fun D σ H ⟨m, h, en, rel, p⟩ => by
    refine ⟨m, h, en, rel, ?_⟩
    unfold forZ at p
    cases q : forS fi (nameG i) b en h with
    | nx en' h' =>
      rw [q] at p
      dsimp only at p
      split at p
      · rename_i z
        intro m' H' σ' e1 rel'
        have ol := forS_only K q
        have len : en'.length = en.length := by
          rcases ol with y | ⟨x, y⟩
          · rw [y]
          · rw [y, List.length_set]
        refine p m' H' σ' e1.cut ⟨rel.rh.cut rel'.rh e1 z, by rw [rel'.len, List.length_set, len], fun j d hj => ?_⟩
        by_cases hij : i = j
        · subst hij
          rw [List.getElem?_set] at hj
          split at hj
          · split at hj <;> cases hj
          · rename_i y; exact absurd rfl y
        · rw [List.getElem?_set_ne hij] at hj
          have hj' : en'[j]? = some (some d) := by
            rcases ol with y | ⟨x, y⟩
            · rw [y]; exact hj
            · rw [y, List.getElem?_set_ne hij]; exact hj
          obtain ⟨v, h1, h2⟩ := rel'.env j d hj'
          obtain ⟨v0, _, h3⟩ := rel.env j d hj
          exact ⟨v, h1, h2.shrink e1.le h3.closed⟩
      · exact p.elim
    | rt d h' => rw [q] at p; exact p
    | bk en' h' => rw [q] at p; exact p.elim
    | ct en' h' => rw [q] at p; exact p.elim
    | err c h' => rw [q] at p; exact p
    | bad => rw [q] at p; exact p
end
end DL

set_option Elab.async false
set_option linter.all false
set_option maxRecDepth 100000
set_option autoImplicit false
set_option maxHeartbeats 1000000
/-! Texts: +, slices, join, split, str(), int(text), walked sign by sign, a sign in a text; zip of tuples. -/
namespace DL
open PySem PySem.Spec PyProof.Rows L2
section
variable {X : Cx} {T : TF} {E : XK} {a b c e o e2 tg : Expr} {es rest : List Expr} {pos p apos : Pos} {f k l : ME}
/-! ### + -/
def addSW : D → D → IH → Out D := fun x y h => match strOf x, strOf y with
  | some i, some j => grd (decide (i.length + j.length ≤ sizeLine)) (.ok (.str (i ++ j)) h)
  | _, _ => .bad
theorem addSW_ok {g : G} : OpS g (fun x y H Q => ∃ i j, x = .str i ∧ y = .str j ∧ i.length + j.length ≤ sizeLine ∧ Q (.str (i ++ j)) H) addSW := by
  intro m h H x y dx dy E Q rh rx ry p
  unfold addSW at p
  cases e1 : strOf dx with
  | none => rw [e1] at p; exact p.elim
  | some i =>
    cases e2 : strOf dy with
    | none => rw [e1, e2] at p; exact p.elim
    | some j =>
      rw [e1, e2] at p
      obtain ⟨hc, p⟩ := Post.grd p
      exact ⟨i, j, strOf_ok rx e1, strOf_ok ry e2, of_decide_eq_true hc, p.val rh (.str _)⟩
def addW (r : Bool) : D → D → IH → Out D := fun x y h => (addD r x y h).or (addSW x y h)
theorem de_addW (r : Bool) (ha : DE X T E a f) (hb : DE X T E b k) : DE X T E (.BinOp a .Add b pos) (op2 (addW r) f k) :=
  de_op ((op_add.or (op_catA.or (op_cat.or op_add_str))).or op_add_str) (((i20_ok fun _ _ _ _ _ _ => .int _).or (addT_ok.or (addL_ok.or addS_ok))).or addSW_ok) ha hb
/-! ### slices -/
def slW (r : Bool) (x : D) (lo hi : Option Int) (h : IH) : Out D := match strOf x with
  | some s => grd (decide (s.length ≤ sizeLine)) (.ok (.str (L2.cutS s lo hi)) h)
  | none => slD r x lo hi h
def slWE (r : Bool) (f : ME) (lo hi : MO) : ME := fun en h => (f en h).bind fun x h1 => (lo en h1).bind fun a h2 => (hi en h2).bind fun b h3 => slW r x a b h3
theorem de_sliceW (r : Bool) {lo hi : Option Expr} {fl fh : MO} {p2 : Pos} (ha : DE X T E a f) (hl : DO X T E lo fl) (hu : DO X T E hi fh) : DE X T E (.Subscript a (.Slice lo hi none p2) pos) (slWE r f fl fh) :=
  PE.imp (pe_slice ((sl_list.or sl_tupA).or sl_str) ha hl hu) fun σ H Q ⟨m, h, en, rel, p⟩ => chain rel p fun m1 h1 H1 v d e1 rel1 rv1 p1 => chain rel1 p1 fun m2 h2 H2 lo' lo e2 rel2 r2 p2 => chain rel2 p2 fun m3 h3 H3 hi' hi e3 rel3 r3 p3 => by
    cases (show lo' = lo from r2)
    cases (show hi' = hi from r3)
    unfold slW at p3
    cases q : strOf d with
    | none => rw [q] at p3; exact .inl (slD_ok rel3.rh ((rv1.mono e2).mono e3) p3)
    | some s =>
      rw [q] at p3
      obtain ⟨hc, p3⟩ := Post.grd p3
      exact .inr ⟨s, strOf_ok rv1 q, of_decide_eq_true hc, p3.val rel3.rh (.str _)⟩
/-! ### join, split -/
def joinE (f k : ME) : ME := fun en h => (f en h).bind fun x h1 => grd ((strOf x).isSome) ((k en h1).bind fun y h2 => match strOf x, getS h2 y with
  | some a, some xs => (match optAll strOf xs with
    | some ys => grd (decide ((ys.map (·.length)).sum + ys.length * a.length ≤ 16777216)) (.ok (.str (Txt.join a ys)) h2)
    | none => .bad)
  | _, _ => .bad)
theorem de_join (ho : DE X T E o f) (he : DE X T E e k) (hs : starEach [e] X.env = [(false, eval e X.env)] := by rfl) (hbase : attributeBase o "join" X.env (eval o X.env) = eval o X.env := by rfl) (hline : (apos.endLine == pos.line) = true := by rfl) :
    DE X T E (.Call (.Attribute o "join" apos) [e] [] pos) (joinE f k) :=
  PE.imp (pe_join ho he hs hbase hline) fun σ H Q ⟨m, h, en, rel, p⟩ => chain rel p fun m1 h1 H1 v d e1 rel1 rv1 p1 => by
    obtain ⟨hc, p1⟩ := Post.grd p1
    obtain ⟨a, ea⟩ := Option.isSome_iff_exists.mp hc
    have hv := strOf_ok rv1 ea
    refine ⟨⟨a, hv⟩, chain rel1 p1 fun m2 h2 H2 w d2 e2 rel2 rv2 p2 => ?_⟩
    rw [ea] at p2
    dsimp only at p2
    cases q : getS h2 d2 with
    | none => rw [q] at p2; exact p2.elim
    | some xs =>
      rw [q] at p2
      dsimp only at p2
      cases q2 : optAll strOf xs with
      | none => rw [q2] at p2; exact p2.elim
      | some ys =>
        rw [q2] at p2
        obtain ⟨hc2, p2⟩ := Post.grd (E := E) p2
        obtain ⟨l, vs, rfl, s, r⟩ := getS_ok rel2.rh rv2 q
        have ev := strsOf_ok r q2
        subst ev
        exact ⟨a, l, ys, hv, rfl, s, of_decide_eq_true hc2, Post.val (E := E) p2 rel2.rh (.str _)⟩
def splitE (r : Bool) (f k : ME) : ME := fun en h => (f en h).bind fun x h1 => grd ((strOf x).isSome) ((k en h1).bind fun y h2 => match strOf x, strOf y with
  | some a, some b => grd (decide ((b.length == 0) = false) && decide (a.length + 2 ≤ sizeLine)) (outL r ((Txt.split a b).map D.str) h2)
  | _, _ => .bad)
theorem Rvs.of_strs {K : PySem.W.Frag} {m : Mp} {n : Nat} {H : Hp} : ∀ ys : List Str, Rvs K m n H (ys.map V.str) (ys.map D.str)
  | [] => .nil
  | y :: ys => .cons (.str y) (Rvs.of_strs ys)
theorem de_split (r : Bool) (ho : DE X T E o f) (he : DE X T E e k) (hs : starEach [e] X.env = [(false, eval e X.env)] := by rfl) (hbase : attributeBase o "split" X.env (eval o X.env) = eval o X.env := by rfl) (hline : (apos.endLine == pos.line) = true := by rfl) :
    DE X T E (.Call (.Attribute o "split" apos) [e] [] pos) (splitE r f k) :=
  PE.imp (pe_split ho he hs hbase hline) fun σ H Q ⟨m, h, en, rel, p⟩ => chain rel p fun m1 h1 H1 v d e1 rel1 rv1 p1 => by
    obtain ⟨hc, p1⟩ := Post.grd p1
    obtain ⟨a, ea⟩ := Option.isSome_iff_exists.mp hc
    have hv := strOf_ok rv1 ea
    refine ⟨⟨a, hv⟩, chain rel1 p1 fun m2 h2 H2 w d2 e2 rel2 rv2 p2 => ?_⟩
    rw [ea] at p2
    dsimp only at p2
    cases q : strOf d2 with
    | none => rw [q] at p2; exact p2.elim
    | some b =>
      rw [q] at p2
      obtain ⟨hc2, p2⟩ := Post.grd (E := E) p2
      rw [Bool.and_eq_true, decide_eq_true_eq, decide_eq_true_eq] at hc2
      have hw := strOf_ok rv2 q
      exact ⟨a, b, hv, by rw [hw], hc2.1, hc2.2, fun z hz => Post.outL (E := E) p2 rel2.rh (Rvs.of_strs _) hz⟩
/-! ### str(), int(text) -/
def strB (x : D) (h : IH) : Out D := match x with
  | .int i => grd (decide (i.natAbs.log2 < 1920)) (.ok (.str (toString i)) h)
  | _ => match strOf x with
    | some s => .ok (.str s) h
    | none => .bad
theorem de_str1 {t : MA} (hm : X.mg "str" = none) (ha : DA X T E [e] t) (hg : Gl X "str" := by rfl) (he : starEach (e :: []) X.env = (false, eval e X.env) :: starEach [] X.env := by rfl) : DE X T E (.Call (.Name "str" p) [e] [] pos) (callB (one strB) t) :=
  de_callTy (call_str_int.or SkE.call_str_str) (one_ok fun m h H v d E Q rh r p => by
    cases d with
    | int i =>
      obtain ⟨hc, p⟩ := Post.grd (show Post (Rv (gX X T).K) (gX X T) m h.length H E Q (grd (decide (i.natAbs.log2 < 1920)) (.ok (.str (toString i)) h)) from p)
      cases r
      exact .inl ⟨i, rfl, of_decide_eq_true hc, p.val rh (.str _)⟩
    | str s =>
      cases r
      exact .inr ⟨s, rfl, Post.val (d := .str s) p rh (.str s)⟩
    | wd n =>
      cases r with
      | wd h1 h2 =>
        subst h2
        exact .inr ⟨wds n, rfl, Post.val (d := .str (wds n)) p rh (.str _)⟩
    | _ => exact p.elim) hm (by decide +kernel) ha hg (by decide) (by decide) he
def intS (x : D) (h : IH) : Out D := match strOf x with
  | some s => (match PySem.intText? s with
    | some n => grd (decide (s.length ≤ 640)) (.ok (.int n) h)
    | none => .bad)
  | none => .bad
theorem de_intS {t : MA} (hm : X.mg "int" = none) (ha : DA X T E [e] t) (hg : Gl X "int" := by rfl) (he : starEach (e :: []) X.env = (false, eval e X.env) :: starEach [] X.env := by rfl) : DE X T E (.Call (.Name "int" p) [e] [] pos) (callB (one intS) t) :=
  de_callTy call_int_str (one_ok fun m h H v d E Q rh r p => by
    unfold intS at p
    cases q : strOf d with
    | none => rw [q] at p; exact p.elim
    | some s =>
      rw [q] at p
      dsimp only at p
      cases q2 : PySem.intText? s with
      | none => rw [q2] at p; exact p.elim
      | some n =>
        rw [q2] at p
        obtain ⟨hc, p⟩ := Post.grd (E := E) p
        have hv := strOf_ok r q
        subst hv
        exact ⟨s, n, rfl, q2, of_decide_eq_true hc, Post.val (E := E) p rh (.int _)⟩) hm (by decide +kernel) ha hg (by decide) (by decide) he
/-! ### sign by sign -/
def signs (s : Str) : List D := s.cps.toList.map fun c => D.str ⟨#[c]⟩
def strV (f : ME) : MV := fun en h => (f en h).bind fun d h1 => match strOf d with
  | some s => .ok (fun _ => some (signs s)) h1
  | none => .bad
theorem its_str {g : G} {m : Mp} {h : IH} {H : Hp} {s : Str} : ItS g m h.length H (Its s) (fun _ => some (signs s)) := by
  intro m1 h1 H1 ex rh xs e i
  cases e
  unfold signs
  refine ⟨fun y hy => ?_, fun hl => (show s.cps.size ≤ i by simpa using hl)⟩
  rw [List.getElem?_map] at hy
  obtain ⟨c, hc, rfl⟩ := Option.map_eq_some_iff.mp hy
  have hi : i < s.cps.size := by
    have := (List.getElem?_eq_some_iff.mp hc).1
    rwa [Array.length_toList] at this
  refine ⟨hi, fun x H' ⟨eH, c', hc', hx⟩ => ?_⟩
  subst eH hx
  rw [← Array.getElem?_toList, hc] at hc'
  cases hc'
  exact ⟨Ex.refl _ _ _, rh, .str _⟩
theorem di_str (ha : DE X T E e f) : DI X T E tg e (strV f) :=
  PI.imp (pi_str ha) fun σ H R ⟨m, h, en, rel, p⟩ => chain rel p fun m1 h1 H1 v d e1 rel1 rv1 p1 => by
    cases q : strOf d with
    | none => rw [q] at p1; exact p1.elim
    | some s =>
      rw [q] at p1
      exact ⟨s, strOf_ok rv1 q, p1 m1 H1 _ (Ex.refl _ _ _) rel1.rh its_str⟩
def inS : D → D → IH → Out D := fun x y h => match x, strOf y with
  | .str s, some z => (match s.cps.toList with
    | [c] => .ok (.bl (decide (c ∈ z.cps.toList))) h
    | _ => .bad)
  | _, _ => .bad
theorem cr_inS : CmpRule X T .In inS := ⟨_, op_in_sign, fun m h H x y dx dy E Q rh rx ry p => by
  cases dx with
  | str s =>
    cases rx
    unfold inS at p
    cases q : strOf dy with
    | none => rw [q] at p; exact p.elim
    | some z =>
      rw [q] at p
      dsimp only at p
      cases q2 : s.cps.toList with
      | nil => rw [q2] at p; exact p.elim
      | cons c l =>
        rw [q2] at p
        cases l with
        | cons c2 l2 => exact p.elim
        | nil =>
          have es : s = ⟨#[c]⟩ := by
            have z2 := congrArg List.toArray q2
            obtain ⟨cps⟩ := s
            simp at z2
            rw [z2]
          subst es
          exact ⟨c, z, rfl, strOf_ok ry q, Post.val p rh (.bl _)⟩
  | _ => exact p.elim⟩
/-! ### zip of tuples -/
def zipT (t : MA) : MV := fun en h => (t en h).bind fun ds h1 => match ds with
  | [.tup xs, .tup ys] => .ok (fun _ => some (zipL xs ys)) h1
  | _ => .bad
theorem its_zipT {g : G} {m : Mp} {h : IH} {H : Hp} {a b : Addr} {xs ys : List D} (rv : Rv g.K m h.length H (.ref a) (.tup xs)) (rw' : Rv g.K m h.length H (.ref b) (.tup ys)) : ItS g m h.length H (RZ.ItzT g.K a b) (fun _ => some (zipL xs ys)) := by
  intro m1 h1 H1 ex rh zs e1 i
  cases e1
  obtain ⟨a', vs, eb, s, r⟩ := getT_ok (rv.mono ex) (show getT (.tup xs) = some xs from rfl)
  cases eb
  obtain ⟨b', us, eb, s2, r2⟩ := getT_ok (rw'.mono ex) (show getT (.tup ys) = some ys from rfl)
  cases eb
  refine ⟨fun y hy => ?_, fun hl => ⟨vs, us, s, s2, ?_⟩⟩
  · obtain ⟨x, z, hx, hz, rfl⟩ := zipL_get _ _ _ _ hy
    obtain ⟨v, k1, k2⟩ := r.get hx
    obtain ⟨u, l1, l2⟩ := r2.get hz
    refine ⟨⟨vs, us, v, u, s, s2, k1, l1⟩, fun x' H' ⟨T, w1, w2, eT, hT, eH, hx1, hx2⟩ => ?_⟩
    subst eT eH
    have z1 := hx1 vs s
    rw [k1] at z1
    cases z1
    have z2 := hx2 us s2
    rw [l1] at z2
    cases z2
    have ex2 := Ex.fresh (m := m1) (n := h1.length) (o := .tup [v, u]) hT NT.tup
    exact ⟨ex2, rh.fresh hT NT.tup, .tup (.inr ⟨.inl upd_same, rh.off hT⟩) (.cons (k2.mono ex2) (.cons (l2.mono ex2) .nil))⟩
  · rw [zipL_length] at hl
    rw [r.length, r2.length]
    omega
theorem di_zipT {tpos : Pos} {elts : List Expr} {kk : Nat} {t : MA} (hm : X.mg "zip" = none) (ha : DA X T E [e, e2] t) (hg : Gl X "zip" := by rfl) (hs : starEach [e, e2] X.env = (false, eval e X.env) :: starEach [e2] X.env := by rfl) (hpl : (backTo pos (starEach [e2] X.env)).any (·.1) = false := by rfl) :
    DI X T E (.Tuple elts kk tpos) (.Call (.Name "zip" p) [e, e2] [] pos) (zipT t) :=
  PI.imp (RZ.pi_zipA hg hm ha hs hpl) fun σ H R ⟨m, h, en, rel, p⟩ => chain rel p fun m1 h1 H1 v d e1 rel1 rv1 p1 => by
    split at p1
    · rename_i xs ys
      obtain ⟨u, w, rfl, ru, rw'⟩ := rv1.two
      obtain ⟨a, vs, rfl, s, r⟩ := getT_ok ru (show getT (.tup xs) = some xs from rfl)
      obtain ⟨b, us, rfl, s2, r2⟩ := getT_ok rw' (show getT (.tup ys) = some ys from rfl)
      exact ⟨a, b, vs, us, rfl, .inr ⟨s, s2, p1 m1 H1 _ (Ex.refl _ _ _) rel1.rh (its_zipT ru rw')⟩⟩
    · exact p1.elim
end
end DL

set_option Elab.async false
set_option linter.all false
set_option maxRecDepth 100000
set_option autoImplicit false
set_option maxHeartbeats 1000000
/-! Dicts of the module by name: words to tuples of words; truths to words; a display of two truths asked at once; a def of plain data run from an empty heap. -/
namespace DL
open PySem PySem.Spec PyProof.Rows L2
/-! ### words to tuples of words -/
structure TabW (K : PySem.W.Frag) (w : World) (mg : Str → Option Value) (x : Str) (kvs : List (Nat × List Nat)) : Prop where
  ex : ∃ d es n, mg x = some (.ref d) ∧ KDict K w d es n ∧ (∀ z : Str, (kvs.find? fun q => wds q.1 == z) = none → PySem.W.nsIn K d z = some none) ∧
    ∀ (z : Str) (q : Nat × List Nat), (kvs.find? fun q => wds q.1 == z) = some q → ∃ a, PySem.W.nsIn K d z = some (some (.ref a)) ∧ KT K a (q.2.map fun i => V.str (wds i))
def tabIn (neg : Bool) (kvs : List (Nat × List Nat)) : D → IH → Out D := fun x h => match strOf x with
  | some z => .ok (.bl (if neg then !(kvs.find? fun q => wds q.1 == z).isSome else (kvs.find? fun q => wds q.1 == z).isSome)) h
  | none => .bad
def tabIx (kvs : List (Nat × List Nat)) : D → IH → Out D := fun x h => match strOf x with
  | some z => (match kvs.find? fun q => wds q.1 == z with
    | some q => grd (q.2.all fun i => decide (i < nW)) (.ok (.tup (q.2.map D.wd)) h)
    | none => .bad)
  | none => .bad
section
variable {X : Cx} {T : TF} {E : XK} {a b c e : Expr} {pos p : Pos} {f : ME} {kvs : List (Nat × List Nat)} {x : Str}
theorem tab_some {K : PySem.W.Frag} {d : Addr} {z : Str} (h0 : (kvs.find? fun q => wds q.1 == z) = none → PySem.W.nsIn K d z = some none) (h1 : ∀ q, (kvs.find? fun q => wds q.1 == z) = some q → ∃ a, PySem.W.nsIn K d z = some (some (.ref a)) ∧ KT K a (q.2.map fun i => V.str (wds i))) :
    ∃ r, PySem.W.nsIn K d z = some r ∧ r.isSome = (kvs.find? fun q => wds q.1 == z).isSome := by
  cases q : kvs.find? fun q => wds q.1 == z with
  | none => exact ⟨none, h0 q, rfl⟩
  | some y =>
    obtain ⟨a, h2, _⟩ := h1 y q
    exact ⟨_, h2, rfl⟩
theorem de_tabIn (hT : TabW X.K X.w X.mg x kvs) (ha : DE X T E a f) (hg : Gl X x := by rfl) (hd : (x == ("__debug__" : Str)) = false := by decide) (hm : behindInMarks .In (.Name x p) = false := by first | exact nomark _ | rfl) : DE X T E (.Compare a [.In] [.Name x p] pos) (op1 (tabIn false kvs) f) := by
  obtain ⟨d, es, n, hmg, kd, h0, h1⟩ := hT.ex
  refine PE.imp (pe_cmpR (op_in_kd kd) ha (pe_glob (v := .ref d) hg hmg rfl hd) hm) fun σ H Q ⟨m, h, en, rel, p⟩ => chain rel p fun m1 h1' H1 v dd e1 rel1 rv1 p1 => ?_
  unfold tabIn at p1
  cases q : strOf dd with
  | none => rw [q] at p1; exact p1.elim
  | some z =>
    rw [q] at p1
    obtain ⟨r, e2, e3⟩ := tab_some (h0 z) (h1 z)
    exact ⟨z, r, strOf_ok rv1 q, rfl, e2, by rw [e3]; exact Post.val (E := E) p1 rel1.rh (.bl _)⟩
theorem de_tabNotIn (hT : TabW X.K X.w X.mg x kvs) (ha : DE X T E a f) (hg : Gl X x := by rfl) (hd : (x == ("__debug__" : Str)) = false := by decide) (hm : behindInMarks .NotIn (.Name x p) = false := by first | exact nomark _ | rfl) : DE X T E (.Compare a [.NotIn] [.Name x p] pos) (op1 (tabIn true kvs) f) := by
  obtain ⟨d, es, n, hmg, kd, h0, h1⟩ := hT.ex
  refine PE.imp (pe_cmpR (op_notIn_kd kd) ha (pe_glob (v := .ref d) hg hmg rfl hd) hm) fun σ H Q ⟨m, h, en, rel, p⟩ => chain rel p fun m1 h1' H1 v dd e1 rel1 rv1 p1 => ?_
  unfold tabIn at p1
  cases q : strOf dd with
  | none => rw [q] at p1; exact p1.elim
  | some z =>
    rw [q] at p1
    obtain ⟨r, e2, e3⟩ := tab_some (h0 z) (h1 z)
    exact ⟨z, r, strOf_ok rv1 q, rfl, e2, by rw [e3]; exact Post.val (E := E) p1 rel1.rh (.bl _)⟩
theorem tst_of (h : PE X c (fun σ H Q => LE (gX X T) E f σ H Q)) (hp : PE X c (fun σ H Q => LE (gX X T) E f σ H Q) → DT X T E c (tst f)) : DT X T E c (tst f) := hp h
theorem dt_tabNotIn (hT : TabW X.K X.w X.mg x kvs) (ha : DE X T E a f) (hg : Gl X x := by rfl) (hd : (x == ("__debug__" : Str)) = false := by decide) (hm : behindInMarks .NotIn (.Name x p) = false := by first | exact nomark _ | rfl) : DT X T E (.Compare a [.NotIn] [.Name x p] pos) (tst (op1 (tabIn true kvs) f)) := by
  obtain ⟨d, es, n, hmg, kd, h0, h1⟩ := hT.ex
  refine PT.imp (pt_cmpR (op_notIn_kd kd) ha (pe_glob (v := .ref d) hg hmg rfl hd) hm) fun σ H Q ⟨m, h, en, rel, p⟩ => ?_
  have q : LE (gX X T) E (op1 (tabIn true kvs) f) σ H (fun x H' => ∃ k, x = .bl k ∧ Q k H') := chain rel p fun m1 h1 H1 v d e1 rel1 rv1 p1 => asB_post (n := 0) rel1.rh rv1 p1
  obtain ⟨m, h, en, rel, p⟩ := q
  refine chain rel p fun m1 h1' H1 v dd e1 rel1 rv1 p1 => ?_
  unfold tabIn at p1
  cases q : strOf dd with
  | none => rw [q] at p1; exact p1.elim
  | some z =>
    rw [q] at p1
    obtain ⟨r, e2, e3⟩ := tab_some (h0 z) (h1 z)
    exact ⟨z, r, strOf_ok rv1 q, rfl, e2, by rw [e3]; exact Post.val (E := E) p1 rel1.rh (.bl _)⟩
theorem Rvs.of_wds {K : PySem.W.Frag} {m : Mp} {n : Nat} {H : Hp} : ∀ (ws : List Nat), (ws.all fun i => decide (i < nW)) = true → Rvs K m n H (ws.map fun i => V.str (wds i)) (ws.map D.wd)
  | [], _ => .nil
  | i :: ws, h => by
    rw [List.all_cons, Bool.and_eq_true] at h
    exact .cons (.wd (of_decide_eq_true h.1) rfl) (Rvs.of_wds ws h.2)
theorem de_tabIx (hT : TabW X.K X.w X.mg x kvs) (ha : DE X T E a f) (hg : Gl X x := by rfl) (hd : (x == ("__debug__" : Str)) = false := by decide) (hp : PlainIx a := by exact fun _ _ => rfl) : DE X T E (.Subscript (.Name x p) a pos) (op1 (tabIx kvs) f) := by
  obtain ⟨d, es, n, hmg, kd, h0, h1⟩ := hT.ex
  refine PE.imp (pe_ix ix_kdict (pe_glob (v := .ref d) hg hmg rfl hd) ha hp) fun σ H Q ⟨m, h, en, rel, p⟩ => ?_
  show LE (gX X T) E f σ H _
  refine chain rel p fun m1 h1' H1 v dd e1 rel1 rv1 p1 => ?_
  unfold tabIx at p1
  cases q : strOf dd with
  | none => rw [q] at p1; exact p1.elim
  | some z =>
    rw [q] at p1
    dsimp only at p1
    cases q2 : kvs.find? fun q => wds q.1 == z with
    | none => rw [q2] at p1; exact p1.elim
    | some y =>
      rw [q2] at p1
      obtain ⟨hc, p1⟩ := Post.grd (E := E) p1
      obtain ⟨ad, e2, kt⟩ := h1 z y q2
      exact ⟨d, z, .ref ad, rfl, strOf_ok rv1 q, ⟨es, n, .ref ad, kd.at_, kd.lit, e2, rfl⟩, Post.val (E := E) p1 rel1.rh (.tup (.inl kt) (Rvs.of_wds _ hc))⟩
end
/-! ### truths to words -/
structure TruW (K : PySem.W.Frag) (mg : Str → Option Value) (x : Str) (i j : Nat) : Prop where
  ex : ∃ d e1 e2 n t1 t2, mg x = some (.ref d) ∧ K.lookup d = some ⟨.type "dict", none, .dict #[e1, e2] n, #[]⟩ ∧ e1.key = .bool true ∧ e1.hash = hashInt 1 ∧ e1.val = .str (wds i) t1 ∧ e2.key = .bool false ∧ e2.hash = hashInt 0 ∧ e2.val = .str (wds j) t2
def truIx (i j : Nat) : D → IH → Out D := fun x h => match x with
  | .bl b => grd (decide (i < nW) && decide (j < nW)) (.ok (.wd (if b then i else j)) h)
  | _ => .bad
section
variable {X : Cx} {T : TF} {E : XK} {a : Expr} {pos p : Pos} {f : ME} {x : Str} {i j : Nat}
theorem ix_tru {d : Addr} {e1 e2 : DictEntry} {n : Nat} {t1 t2 : Tok} (hl : X.K.lookup d = some ⟨.type "dict", none, .dict #[e1, e2] n, #[]⟩) (k1 : e1.key = .bool true) (h1 : e1.hash = hashInt 1) (v1 : e1.val = .str (wds i) t1) (k2 : e2.key = .bool false) (h2 : e2.hash = hashInt 0) (v2 : e2.val = .str (wds j) t2) :
    IxR X (fun x y H Q => ∃ b, x = .ref d ∧ y = .bl b ∧ Q (.str (wds (if b then i else j))) H) := by
  intro value slice pins s σ H x y v u Q I rx ry h hs
  obtain ⟨b, rfl, rfl, q⟩ := h
  obtain rfl : v = Value.ref d := rx
  obtain rfl : u = Value.bool b := ry
  have hm : s.heap.MapOf (boolKind X.prog X.w) d (fun b => some (if b then e1.val else e2.val)) := by
    refine ⟨_, #[e1, e2], n, I.kIn _ _ hl, ⟨rfl, rfl, rfl⟩, rfl, fun e he => ?_, fun k => ?_⟩
    · simp at he
      rcases he with rfl | rfl
      · exact ⟨true, by rw [k1]; rfl, h1⟩
      · exact ⟨false, by rw [k2]; rfl, h2⟩
    · have z1 : (boolKind X.prog X.w).is k e1.key = (k == true) := by rw [k1]; rfl
      have z2 : (boolKind X.prog X.w).is k e2.key = (k == false) := by rw [k2]; rfl
      unfold PySem.findBy
      rw [List.find?_toArray]
      cases k <;> simp [List.find?_cons, z1, z2]
  refine tail_any hm.typeIs slot_dict_getitem.lookup (wpAny_getItem_of (k := b) (show (boolKind X.prog X.w).is b (.bool b) = true by show (b == b) = true; simp) hm rfl ⟨.str (wds (if b then i else j)), H, I.tok _, ?_, q⟩) hs
  cases b
  · exact ⟨t2, v2⟩
  · exact ⟨t1, v1⟩
theorem de_truIx (hT : TruW X.K X.mg x i j) (ha : DE X T E a f) (hg : Gl X x := by rfl) (hd : (x == ("__debug__" : Str)) = false := by decide) (hp : PlainIx a := by exact fun _ _ => rfl) : DE X T E (.Subscript (.Name x p) a pos) (op1 (truIx i j) f) := by
  obtain ⟨d, e1, e2, n, t1, t2, hmg, hl, k1, h1, v1, k2, h2, v2⟩ := hT.ex
  refine PE.imp (pe_ix (ix_tru hl k1 h1 v1 k2 h2 v2) (pe_glob (v := .ref d) hg hmg rfl hd) ha hp) fun σ H Q ⟨m, h, en, rel, p⟩ => ?_
  show LE (gX X T) E f σ H _
  refine chain rel p fun m1 h1' H1 v dd e1 rel1 rv1 p1 => ?_
  cases dd with
  | bl b =>
    cases rv1
    obtain ⟨hc, p1⟩ := Post.grd (show Post (Rv (gX X T).K) (gX X T) m1 h1'.length H1 E Q (grd (decide (i < nW) && decide (j < nW)) (.ok (.wd (if b then i else j)) h1')) from p1)
    rw [Bool.and_eq_true, decide_eq_true_eq, decide_eq_true_eq] at hc
    exact ⟨b, rfl, rfl, p1.val rel1.rh (.wd (by cases b; exact hc.2; exact hc.1) rfl)⟩
  | _ => exact p1.elim
end
/-! ### {True: x, False: y}[b] -/
/-- a dict with the keys True, False -/
def BD2 (P : Program) (w : World) (o : Obj) (y1 y2 : V) : Prop := ∀ (a : Addr) (h : Heap), h.get? a = some o → ∃ u1 u2, RelV y1 u1 ∧ RelV y2 u2 ∧ h.MapOf (boolKind P w) a (fun b => some (if b then u1 else u2))
section
variable {X : Cx} {T : TF} {E : XK} {a b e1 e2 kt kf : Expr} {pos dpos p : Pos} {f : ME}
theorem pe_dispB2 {y1 y2 : V} (h1 : PE X kt fun _ H Q => Q (.bl true) H) (h2 : PE X kf fun _ H Q => Q (.bl false) H) (v1 : PE X e1 fun _ H Q => Q y1 H) (v2 : PE X e2 fun _ H Q => Q y2 H) :
    PE X (.Dict [some kt, some kf] [e1, e2] pos) fun _ H Q => ∀ p o, H p = none → BD2 X.prog X.w o y1 y2 → Q (.ref p) (upd H p (oddP p o)) := by
  refine ⟨fun pins s σ H Q I q => ?_⟩
  have hn := I.hok.fresh (Nat.le_refl s.heap.objs.size)
  have I1 := I.laid (a := s.heap.objs.size) (o := .dK []) (h' := s.heap.push { cls := .type "dict", data := .dict #[] }) (t' := s.toks) (fun _ _ q => Heap.get?_push_of_some _ q) (Nat.le_refl _) (dk_empty s.heap I.big)
  have step : ∀ {e : Expr} {y : V} {s1 : Shared} {R : Value → Shared → Prop}, PE X e (fun _ H Q => Q y H) → Inv X pins σ (upd H s.heap.objs.size (.dK [])) s1 → (∀ u s2, Inv X pins σ (upd H s.heap.objs.size (.dK [])) s2 → RelV y u → R u s2) → wpAny (model X.prog X.w) X.A (eval e X.env) R X.xe s1 := by
    intro e y s1 R he J k
    refine thn (he.run pins s1 σ _ (fun x H1 => x = y ∧ H1 = upd H s.heap.objs.size (.dK [])) J ⟨rfl, rfl⟩) fun u s2 ⟨x, H1, J1, rx, ex, eH⟩ => ?_
    subst ex eH
    exact k u s2 J1 rx
  refine wpAny_Dict_walk (knd := boolKind X.prog X.w) rfl rfl (fun z => by cases z) (by show 2 ≤ 15; decide) (pairTrees_cons_walk (step h1 I1 fun k1 s1 J1 r1 => step v1 J1 fun w1 s2 J2 r2 => pairTrees_cons_walk (step h2 J2 fun k2 s3 J3 r3 => step v2 J3 fun w2 s4 J4 r4 => pairTrees_nil_walk ?_)))
  obtain ⟨z, hd, vs0, r0, dd⟩ := dk_of J4.hok (a := s.heap.objs.size) (kvs := []) upd_same
  cases r0
  obtain rfl : k1 = Value.bool true := r1
  obtain rfl : k2 = Value.bool false := r3
  refine ⟨[(true, w1), (false, w2)], ⟨rfl, rfl, rfl, rfl, True.intro⟩, ?_, fun h' dd' hs => ?_⟩
  · obtain ⟨o, es, ep, h1, h2, h3, h4, h5, h6⟩ := dd
    have e0 : es.toList = [] := by
      cases q : es.toList with
      | nil => rfl
      | cons a l => rw [q] at h5; cases h5
    have e1 : es = #[] := Array.toList_eq_nil_iff.mp e0
    subst e1
    exact ⟨o, #[], ep, h1, h2, h3, fun e he => by simp at he, .nil, List.nodup_nil⟩
  · obtain ⟨o, es, ep, g1, g2, g3, g4, g5, g6⟩ := dd'
    have bd : BD2 X.prog X.w o y1 y2 := fun a2 hp2 ho => by
      have dd2 : hp2.DictOf (boolKind X.prog X.w) a2 (merged [] [(true, w1), (false, w2)]) := ⟨o, es, ep, ho, g2, g3, g4, g5, g6⟩
      refine ⟨w1, w2, r2, r4, ?_⟩
      obtain ⟨o', es', ep', z1, z2, z3, z4, z5⟩ := dd2.mapOf
      exact ⟨o', es', ep', z1, z2, z3, z4, fun k => (z5 k).trans (by cases k <;> rfl)⟩
    refine ⟨.ref s.heap.objs.size, upd H s.heap.objs.size (oddP s.heap.objs.size o), ?_, rfl, q _ o hn bd⟩
    have J5 : Inv X pins σ (upd (upd H s.heap.objs.size (.dK [])) s.heap.objs.size (oddP s.heap.objs.size o)) { s4 with heap := h', toks := s4.toks + [(Value.bool true, w1), (Value.bool false, w2)].length } :=
      d_write J4 (by rw [upd_same]; exact True.intro) hs ⟨o, g1⟩ ⟨g1, ⟨o, g1⟩, fun h1 h2 p k => k _ p⟩
    rw [upd_upd] at J5
    exact J5
theorem ix_bd2 {y1 y2 : V} : IxR X (fun x y H Q => ∃ p o b, x = .ref p ∧ H p = some (oddP p o) ∧ BD2 X.prog X.w o y1 y2 ∧ y = .bl b ∧ Q (if b then y1 else y2) H) := by
  intro value slice pins s σ H x y v u Q I rx ry h hs
  obtain ⟨p, o, b, rfl, hp, bd, rfl, q⟩ := h
  obtain rfl : v = Value.ref p := rx
  obtain rfl : u = Value.bool b := ry
  obtain ⟨u1, u2, r1, r2, hm⟩ := bd p s.heap (I.hok p _ hp).1
  refine tail_any hm.typeIs slot_dict_getitem.lookup (wpAny_getItem_of (k := b) (show (boolKind X.prog X.w).is b (.bool b) = true by show (b == b) = true; simp) hm rfl ⟨if b then y1 else y2, H, I.tok _, ?_, q⟩) hs
  cases b
  · exact r2
  · exact r1
theorem Post.pre {α β : Type} {R : (Mp) → Nat → Hp → β → α → Prop} {g : G} {m m1 : Mp} {n n1 : Nat} {H H1 : Hp} {Q : β → Hp → Prop} {o : Out α} (p : Post R g m n H E Q o) (e : Ex m n H m1 n1 H1) : Post R g m1 n1 H1 E Q o := by
  cases o with
  | ok d h => exact fun m' H' v a b c => p m' H' v (e.trans a) b c
  | err c h => exact fun m' H' C a b c => p m' H' C (e.trans a) b c
  | bad => exact p
theorem de_bdIx {i j : Nat} {j1 j2 j3 j4 : Nat} {q1 q2 q3 q4 : Pos} {s1 s2 : Str} (ha : DE X T E a f) (hs1 : s1 = wds i := by decide +kernel) (hs2 : s2 = wds j := by decide +kernel) (hp : PlainIx a := by exact fun _ _ => rfl) :
    DE X T E (.Subscript (.Dict [some (.Constant (.bool true) j1 q1), some (.Constant (.bool false) j2 q2)] [.Constant (.str s1) j3 q3, .Constant (.str s2) j4 q4] dpos) a pos) (op1 (truIx i j) f) := by
  refine PE.imp (pe_ix (ix_bd2 (y1 := .str s1) (y2 := .str s2)) (pe_dispB2 (PE.imp pe_bl fun _ _ _ q => q) (PE.imp pe_bl fun _ _ _ q => q) (PE.imp pe_str fun _ _ _ q => q) (PE.imp pe_str fun _ _ _ q => q)) ha hp) fun σ H Q ⟨m, h, en, rel, p⟩ => ?_
  intro q o hq bd
  have ex := Ex.fresh (m := m) (n := h.length) (o := oddP q o) hq NT.ext
  have rel0 := rel.next ex (rel.rh.fresh hq NT.ext)
  refine chain rel0 (p.pre ex) fun m1 h1' H1 v dd e1 rel1 rv1 p1 => ?_
  have hk : H1 q = some (oddP q o) := e1.keep q _ upd_same (rel.rh.off hq).2 NT.ext
  cases dd with
  | bl b =>
    cases rv1
    obtain ⟨hc, p1⟩ := Post.grd (show Post (Rv (gX X T).K) (gX X T) m1 h1'.length H1 E Q (grd (decide (i < nW) && decide (j < nW)) (.ok (.wd (if b then i else j)) h1')) from p1)
    rw [Bool.and_eq_true, decide_eq_true_eq, decide_eq_true_eq] at hc
    refine ⟨q, o, b, rfl, hk, bd, rfl, p1.val rel1.rh ?_⟩
    cases b
    · exact .wd hc.2 hs2
    · exact .wd hc.1 hs1
  | _ => exact p1.elim
end
/-! ### a def of plain data, run from an empty heap -/
/-- a result without lists that stood before -/
def pz (h : IH) : Nat → D → Option D
  | _, .non => some .non
  | _, .bl b => some (.bl b)
  | _, .int i => some (.int i)
  | _, .str s => some (.str s)
  | _, .wd n => some (.wd n)
  | k + 1, .tup xs => (optAll (pz h k) xs).map .tup
  | k + 1, .ref i => (match lstAt h i with
    | some xs => (optAll (pz h k) xs).map .vl
    | none => none)
  | _, _ => none
def fnZ (N : Nat) (b : MS) : List D → IH → Out D := fun ds h => match optAll (fz 0 h 3) ds with
  | some ds' => (match fnF N b ds' [] with
    | .ok d h' => (match pz h' 3 d with
      | some x => .ok x h
      | none => .bad)
    | .err c _ => .err c h
    | .bad => .bad)
  | none => .bad
theorem RH.nil {g : G} {m : Mp} {h : IH} {H : Hp} (r : RH g m h H) (e : g.T.env = []) : RH g m [] H where
  obj := fun i o hi => by simp at hi
  inj := fun i j hi => absurd hi (Nat.not_lt_zero i)
  tab := r.tab
  frm := fun p hp => by rw [e] at hp; cases hp
  prt := r.prt
  npr := fun i hi => absurd hi (Nat.not_lt_zero i)
  fz1 := fun i o hi => by simp at hi
  fz2 := r.fz2
  fz3 := r.fz3
theorem Ex.back {m m' : Mp} {n' : Nat} {H H' : Hp} {h : IH} (e : Ex m 0 H m' n' H') : Ex m h.length H m h.length H' where
  le := Nat.le_refl _
  prot := ⟨fun _ z => z, fun _ z => .inl z⟩
  same := fun _ _ => rfl
  new := fun i h1 h2 => absurd (Nat.lt_of_lt_of_le h2 h1) (Nat.lt_irrefl _)
  keep := fun a o ha _ k => e.keep a o ha (fun i hi => absurd hi (Nat.not_lt_zero i)) k
  dom := e.dom
  fz := fun _ _ z => z
theorem RH.back {g : G} {m m' : Mp} {h h' : IH} {H H' : Hp} (r : RH g m h H) (r' : RH g m' h' H') (e : Ex m 0 H m' h'.length H') : RH g m h H' where
  obj := fun i o hi => by
    have q := r.obj i o hi
    obtain ⟨z, e1, k⟩ := q.is
    exact q.mono e.back (by rw [e1]; exact e.keep _ _ e1 (fun i hi => absurd hi (Nat.not_lt_zero i)) k)
  inj := r.inj
  tab := r'.tab
  frm := fun p hp => (r.frm p hp).mono e.back
  prt := fun a z => by
    obtain ⟨u, e1, k⟩ := r.prt a z
    exact e.dom a u e1 k
  npr := r.npr
  fz1 := r.fz1
  fz2 := fun a u z => by
    obtain ⟨o, e1, k⟩ := r.fz2 a u z
    exact e.dom a o e1 k
  fz3 := r.fz3
theorem pz_ok {g : G} {m m' : Mp} {h h' : IH} {H H' : Hp} (r : RH g m h H) (r' : RH g m' h' H') (e : Ex m 0 H m' h'.length H') : ∀ (k : Nat) {v : V} {d x : D}, Rv g.K m' h'.length H' v d → pz h' k d = some x → Rv g.K m h.length H' v x := by
  have notup : ∀ a vs i, i < h.length → H' a = some (.tup vs) ∨ (∃ o, H' a = some (.frz o (.tup vs))) → m i ≠ a := by
    intro a vs i hi q z
    have ro := r.obj i h[i] (List.getElem?_eq_getElem hi)
    obtain ⟨u, e1, k⟩ := ro.is
    have e2 := e.keep _ _ e1 (fun i hi => absurd hi (Nat.not_lt_zero i)) k
    rw [z] at e2
    have bad : ∀ w, some w = some u → (w = .tup vs ∨ ∃ o, w = .frz o (.tup vs)) → False := by
      intro w ew hw
      cases ew
      rcases hw with rfl | ⟨o, rfl⟩
      · cases eo : h[i] with
        | lst ds => rw [eo] at ro; obtain ⟨_, q, _⟩ := ro; rw [e1] at q; cases q
        | dct ds => rw [eo] at ro; obtain ⟨_, q, _⟩ := ro; rw [e1] at q; cases q
        | ins c ds => rw [eo] at ro; obtain ⟨_, _, _, q, _⟩ := ro; rw [e1] at q; cases q
        | frz ds => rw [eo] at ro; obtain ⟨_, _, q, _⟩ := ro; rw [e1] at q; cases q
        | ext t ds => rw [eo] at ro; obtain ⟨_, _, q, _⟩ := ro; rw [e1] at q; cases q
      · cases eo : h[i] with
        | lst ds => rw [eo] at ro; obtain ⟨_, q, _⟩ := ro; rw [e1] at q; cases q
        | dct ds => rw [eo] at ro; obtain ⟨_, q, _⟩ := ro; rw [e1] at q; cases q
        | ins c ds => rw [eo] at ro; obtain ⟨_, _, _, q, _⟩ := ro; rw [e1] at q; cases q
        | frz ds => rw [eo] at ro; obtain ⟨_, _, q, _⟩ := ro; rw [e1] at q; cases q
        | ext t ds => rw [eo] at ro; obtain ⟨_, _, q, _⟩ := ro; rw [e1] at q; cases q
    rcases q with q | ⟨o, q⟩
    · exact bad _ (q.symm.trans e2) (.inl rfl)
    · exact bad _ (q.symm.trans e2) (.inr ⟨o, rfl⟩)
  have lists : ∀ (k : Nat), (∀ {v : V} {d x : D}, Rv g.K m' h'.length H' v d → pz h' k d = some x → Rv g.K m h.length H' v x) → ∀ {vs : List V} {ds xs : List D}, Rvs g.K m' h'.length H' vs ds → optAll (pz h' k) ds = some xs → Rvs g.K m h.length H' vs xs := by
    intro k ih vs ds xs r e
    have q := optAll_ok e
    clear e
    induction q generalizing vs with
    | nil => cases r; exact .nil
    | cons h1 _ ih2 =>
      cases r with
      | cons r1 r2 => exact .cons (ih r1 h1) (ih2 r2)
  have noP : ∀ a, ¬ m'.P a → ¬ m.P a := fun a z y => z (e.prot.1 a y)
  intro k
  induction k with
  | zero =>
    intro v d x rv ex
    cases rv with
    | non => cases ex; exact .non
    | bl b => cases ex; exact .bl b
    | int i => cases ex; exact .int i
    | str s => cases ex; exact .str s
    | wd h1 h2 => cases ex; exact .wd h1 h2
    | _ => cases ex
  | succ k ih =>
    intro v d x rv ex
    cases rv with
    | non => cases ex; exact .non
    | bl b => cases ex; exact .bl b
    | int i => cases ex; exact .int i
    | str s => cases ex; exact .str s
    | wd h1 h2 => cases ex; exact .wd h1 h2
    | tup h1 rs =>
      obtain ⟨zs, e1, rfl⟩ := Option.map_eq_some_iff.mp (show (optAll (pz h' k) _).map D.tup = some x from ex)
      refine .tup ?_ (lists k ih rs e1)
      rcases h1 with h1 | ⟨h1, off⟩
      · exact .inl h1
      · exact .inr ⟨h1, noP _ off.1, fun i hi => notup _ _ i hi h1⟩
    | vl h1 off rs => cases ex
    | fl h1 rs => cases ex
    | ref hi =>
      rename_i i
      unfold pz at ex
      split at ex
      · rename_i ys h1
        obtain ⟨zs, e1, rfl⟩ := Option.map_eq_some_iff.mp ex
        obtain ⟨vs, q1, q2⟩ := r'.lst (lstAt_ok h1)
        refine .vl q1 ⟨noP _ (r'.npr i hi), fun j hj z => ?_⟩ (lists k ih q2 e1)
        obtain ⟨u, e2, k2⟩ := r.is hj
        exact e.new i (Nat.zero_le _) hi u (by rw [← z]; exact e2) k2
      · cases ex
theorem fz_all {g : G} {m : Mp} {h : IH} {H : Hp} (rh : RH g m h H) {ds' : List D} : ∀ {vs : List V} {ds : List D}, Rvs g.K m h.length H vs ds → optAll (fz 0 h 3) ds = some ds' → Rvs g.K m 0 H vs ds' := by
  intro vs ds rv q
  have z := optAll_ok q
  clear q
  induction z generalizing vs with
  | nil => cases rv; exact .nil
  | cons h1 _ ih =>
    cases rv with
    | cons r1 r2 => exact .cons (fz_ok rh (Nat.zero_le _) 3 r1 h1) (ih r2)
section
variable {P : Program} {w : World} {K : PySem.W.Frag} {mg : Str → Option Value} {base : Heap} {T : TF}
theorem fn_okZ {x qual : Str} {ar : Arguments} {body : List Stmt} {sc : Scope} {f : Addr} {fd : FuncData} {N ps : List Str} {k : Nat} {b : MS} (hT : T.env = []) (F : FunD K x qual ar body sc [] [] f fd) (S : FnScope N ps sc) (hb : BodyOk P w K mg base T qual sc body N f fd.code k b) :
    FnOk P w K mg base (L2N.CX P w) (k + 1) f fd ps (SpOf ⟨K, mg, T⟩ ps.length (fnZ N.length b)) :=
  (fn_ok F S hb).imp fun vs H Q E ⟨hl, m, h, ds, rh, rv, p⟩ => by
    unfold fnZ at p
    cases q : optAll (fz 0 h 3) ds with
    | none => rw [q] at p; exact p.elim
    | some ds' =>
      rw [q] at p
      dsimp only at p
      have rv' : Rvs K m 0 H vs ds' := fz_all rh rv q
      refine ⟨hl, m, [], ds', rh.nil hT, rv', ?_⟩
      cases q2 : fnF N.length b ds' [] with
      | bad => rw [q2] at p; exact p.elim
      | ok d h' =>
        rw [q2] at p
        dsimp only at p
        cases q3 : pz h' 3 d with
        | none => rw [q3] at p; exact p.elim
        | some y =>
          rw [q3] at p
          intro m' H' v a1 a2 a3
          exact p m H' v a1.back (rh.back a2 a1) (pz_ok rh a2 a1 3 a3 q3)
      | err c h' =>
        rw [q2] at p
        intro m' H' C a1 a2 a3
        exact p m H' C a1.back (rh.back a2 a1) a3
end
end DL

set_option Elab.async false
set_option linter.all false
set_option maxRecDepth 100000
set_option autoImplicit false
set_option maxHeartbeats 1000000
/-! The head's facts about dicts of the module. -/
namespace DL
open PySem PySem.Spec PyProof.Rows L2
def keyW (e : DictEntry) (n : Nat) : Bool := match e.key with
  | .str x _ => decide (x = wds n)
  | _ => false
theorem keyW_ok {e : DictEntry} {n : Nat} (h : keyW e n = true) : ∃ t, e.key = .str (wds n) t := by
  unfold keyW at h
  split at h
  · rename_i x t q
    exact ⟨t, by rw [q, of_decide_eq_true h]⟩
  · cases h
def tupW (K : PySem.W.Frag) (e : DictEntry) (ws : List Nat) : Bool := match e.val with
  | .ref a => (match K.lookup a with
    | some ⟨.type c, _, .seq its _, _⟩ => decide (c = "tuple") && (decide (its.size ≤ sizeLine) && He.relAll (ws.map fun i => V.str (wds i)) its.toList)
    | _ => false)
  | _ => false
theorem tupW_ok {K : PySem.W.Frag} {e : DictEntry} {ws : List Nat} (h : tupW K e ws = true) : ∃ a, e.val = .ref a ∧ KT K a (ws.map fun i => V.str (wds i)) := by
  unfold tupW at h
  split at h
  · rename_i a q
    refine ⟨a, q, ?_⟩
    split at h
    · rename_i c od its n sl q2
      obtain ⟨h1, h2⟩ := He.ba h
      obtain ⟨h3, h4⟩ := He.ba h2
      have hc := of_decide_eq_true h1
      subst hc
      exact ⟨_, its, n, q2, rfl, rfl, of_decide_eq_true h3, He.relAll_ok h4⟩
    · cases h
  · cases h
def relTab (K : PySem.W.Frag) : List DictEntry → List (Nat × List Nat) → Bool
  | [], [] => true
  | e :: es, q :: qs => keyW e q.1 && (tupW K e q.2 && relTab K es qs)
  | _, _ => false
theorem isStr_wd {x : Str} {n : Nat} {t : Tok} : (Value.str (wds n) t).isStr x = (wds n == x) := rfl
theorem relTab_ok {K : PySem.W.Frag} (z : Str) : ∀ {es : List DictEntry} {kvs : List (Nat × List Nat)}, relTab K es kvs = true →
    ((kvs.find? fun q => wds q.1 == z) = none → (es.find? fun e => e.key.isStr z) = none) ∧ (es.any fun e => e.refKey) = false ∧ ∀ q, (kvs.find? fun q => wds q.1 == z) = some q → ∃ e a, (es.find? fun e => e.key.isStr z) = some e ∧ e.val = .ref a ∧ KT K a (q.2.map fun i => V.str (wds i))
  | [], [], _ => ⟨fun _ => rfl, rfl, fun q e => by cases e⟩
  | [], _ :: _, h => by cases h
  | _ :: _, [], h => by cases h
  | e :: es, q :: qs, h => by
    obtain ⟨h1, h2⟩ := He.ba (show (keyW e q.1 && (tupW K e q.2 && relTab K es qs)) = true from h)
    obtain ⟨h3, h4⟩ := He.ba h2
    obtain ⟨t, hk⟩ := keyW_ok h1
    obtain ⟨a, hv, kt⟩ := tupW_ok h3
    obtain ⟨i1, i2, i3⟩ := relTab_ok z h4
    have ek : e.key.isStr z = (wds q.1 == z) := by rw [hk]; exact isStr_wd
    refine ⟨fun y => ?_, ?_, fun y hy => ?_⟩
    · rw [List.find?_cons] at y ⊢
      rw [ek]
      cases c : (wds q.1 == z) with
      | true => rw [c] at y; cases y
      | false => rw [c] at y; exact i1 y
    · rw [List.any_cons, i2, Bool.or_false]
      unfold DictEntry.refKey
      rw [hk]
    · rw [List.find?_cons] at hy ⊢
      rw [ek]
      cases c : (wds q.1 == z) with
      | true =>
        rw [c] at hy
        cases hy
        exact ⟨e, a, rfl, hv, kt⟩
      | false => rw [c] at hy; exact i3 y hy
def tabB (K : PySem.W.Frag) (x : Str) (kvs : List (Nat × List Nat)) : Bool := match K.lookup (He.ga K x) with
  | some ⟨_, _, .dict es _, _⟩ => relTab K es.toList kvs
  | _ => false
theorem tabB_ok {K : PySem.W.Frag} {w : World} {mg : Str → Option Value} {x : Str} {kvs : List (Nat × List Nat)} (hm : mg x = some (.ref (He.ga K x))) (ht : ∃ es n, KDict K w (He.ga K x) es n) (h : tabB K x kvs = true) : TabW K w mg x kvs := by
  obtain ⟨es, n, kd⟩ := ht
  unfold tabB at h
  rw [kd.at_] at h
  dsimp only at h
  refine ⟨He.ga K x, es, n, hm, kd, fun z y => ?_, fun z q y => ?_⟩
  · obtain ⟨i1, i2, i3⟩ := relTab_ok z h
    unfold PySem.W.nsIn
    rw [kd.at_]
    dsimp only
    rw [i1 y]
    dsimp only
    rw [i2]
    rfl
  · obtain ⟨i1, i2, i3⟩ := relTab_ok z h
    obtain ⟨e, a, e1, e2, kt⟩ := i3 q y
    refine ⟨a, ?_, kt⟩
    unfold PySem.W.nsIn
    rw [kd.at_]
    dsimp only
    rw [e1]
    dsimp only
    rw [e2]
def truE (e : DictEntry) (b : Bool) (h : Int) (n : Nat) : Bool := (match e.key with
  | .bool c => c == b
  | _ => false) && (decide (e.hash = h) && match e.val with
  | .str x _ => decide (x = wds n)
  | _ => false)
theorem truE_ok {e : DictEntry} {b : Bool} {h : Int} {n : Nat} (q : truE e b h n = true) : e.key = .bool b ∧ e.hash = h ∧ ∃ t, e.val = .str (wds n) t := by
  obtain ⟨h1, h2⟩ := He.ba q
  obtain ⟨h3, h4⟩ := He.ba h2
  refine ⟨?_, of_decide_eq_true h3, ?_⟩
  · split at h1
    · rename_i c y
      rw [y, eq_of_beq h1]
    · cases h1
  · split at h4
    · rename_i x t y
      exact ⟨t, by rw [y, of_decide_eq_true h4]⟩
    · cases h4
def truB (K : PySem.W.Frag) (x : Str) (i j : Nat) : Bool := match K.lookup (He.ga K x) with
  | some ⟨.type c, none, .dict es _, sl⟩ => decide (c = "dict") && (sl.isEmpty && match es.toList with
    | [e1, e2] => truE e1 true (hashInt 1) i && truE e2 false (hashInt 0) j
    | _ => false)
  | _ => false
theorem truB_ok {K : PySem.W.Frag} {mg : Str → Option Value} {x : Str} {i j : Nat} (hm : mg x = some (.ref (He.ga K x))) (h : truB K x i j = true) : TruW K mg x i j := by
  unfold truB at h
  split at h
  · rename_i c es n sl q
    obtain ⟨h1, h2⟩ := He.ba h
    obtain ⟨h3, h4⟩ := He.ba h2
    have hc := of_decide_eq_true h1
    subst hc
    have hs : sl = #[] := Array.isEmpty_iff.mp h3
    subst hs
    split at h4
    · rename_i e1 e2 q2
      obtain ⟨h5, h6⟩ := He.ba h4
      obtain ⟨a1, a2, t1, a3⟩ := truE_ok h5
      obtain ⟨b1, b2, t2, b3⟩ := truE_ok h6
      have he : es = #[e1, e2] := by
        have := congrArg List.toArray q2
        simpa using this
      subst he
      exact ⟨_, e1, e2, n, t1, t2, hm, q, a1, a2, a3, b1, b2, b3⟩
    · cases h4
  · cases h
end DL

set_option Elab.async false
set_option linter.all false
set_option maxRecDepth 100000
set_option autoImplicit false
set_option maxHeartbeats 1000000
/-! sorted of rows of three ints and a tuple of ints. -/
namespace DL
open PySem PySem.Spec PyProof.Rows L2
/-- a row, told flat -/
def rowN : D → Option (List Int)
  | .tup [.int a, .int b, .int c, .tup es] => (asIs es).map fun js => a :: b :: c :: js
  | _ => none
def rN (d : D) : List Int := (rowN d).getD []
theorem rowN_ok {d : D} {ns : List Int} (h : rowN d = some ns) : ∃ (a b c : Int) (js : List Int), d = .tup [.int a, .int b, .int c, .tup (js.map D.int)] ∧ ns = a :: b :: c :: js := by
  unfold rowN at h
  split at h
  · rename_i a b c es
    cases q : asIs es with
    | none =>
      rw [q] at h
      cases h
    | some js =>
      rw [q] at h
      cases h
      exact ⟨a, b, c, js, by rw [asIs_ok q], rfl⟩
  · cases h
def pyN (a b c : Int) (js : List Int) : PyData := .tuple [.int a, .int b, .int c, .tuple (js.map .int)]
theorem py_rowN (a b c : Int) (js : List Int) : py (.tup [.int a, .int b, .int c, .tup (js.map D.int)]) = pyN a b c js := by
  unfold pyN
  simp only [py, pys]
  rw [pys_ints]
theorem rowN_alike (a b c a' b' c' : Int) (js js' : List Int) : PySem.W.alike (pyN a b c js) (pyN a' b' c' js') = true := by
  unfold pyN
  simp only [PySem.W.alike, PySem.W.alikeAll, PySem.W.alike_ints, Bool.and_true]
theorem rowN_lt (a b c a' b' c' : Int) (js js' : List Int) : PySem.W.dataLt (pyN a b c js) (pyN a' b' c' js') = decide (a :: b :: c :: js < a' :: b' :: c' :: js') := by
  unfold pyN
  rw [PySem.W.dataLt_tuple, PySem.W.dataLt_cons (by simp [PySem.W.alike]), PySem.W.dataLt_int, PySem.W.dataLt_cons (by simp [PySem.W.alike]), PySem.W.dataLt_int, PySem.W.dataLt_cons (by simp [PySem.W.alike]), PySem.W.dataLt_int, PySem.W.dataLt_cons (by simp only [PySem.W.alike, PySem.W.alike_ints])]
  have e0 : PyProof.Rows.lexLt PyProof.Rows.itemOrd (PySem.W.keyToksAll []) (PySem.W.keyToksAll []) = false := lex_irrefl _
  have e1 : PySem.W.dataLt (.tuple (js.map .int)) (.tuple (js'.map .int)) = decide (js < js') := by
    rw [PySem.W.dataLt_tuple]
    exact PySem.W.dataLt_ints js js'
  have e2 : (if PyData.eqv (.tuple (js.map .int)) (.tuple (js'.map .int)) = true then PyProof.Rows.lexLt PyProof.Rows.itemOrd (PySem.W.keyToksAll []) (PySem.W.keyToksAll []) else PySem.W.dataLt (.tuple (js.map .int)) (.tuple (js'.map .int))) = decide (js < js') := by
    split
    · rename_i q
      rw [e0, ← e1]
      have z := (PySem.W.toks_eqv (.tuple (js.map .int)) (.tuple (js'.map .int)) (by simp only [PySem.W.alike, PySem.W.alike_ints])).1 q
      unfold PySem.W.dataLt
      rw [z]
      exact (lex_irrefl _).symm
    · exact e1
  rw [e2]
  simp only [PyData.eqv, beq_iff_eq, List.cons_lt_cons_iff]
  by_cases h1 : a = a'
  · subst h1
    by_cases h2 : b = b'
    · subst h2
      by_cases h3 : c = c'
      · subst h3
        simp
      · simp [h3]
    · simp [h2]
  · simp [h1]
def sortND (r : Bool) (x : D) (h : IH) : Out D := match getL h x with
  | some xs => grd (xs.all fun d => (rowN d).isSome) (outL r (isrt (fun a b => lexI (rN a) (rN b)) xs) h)
  | none => .bad
theorem Rvs.pairedN {K : PySem.W.Frag} {m : Mp} {n : Nat} {H : Hp} : ∀ {vs : List V} {ds : List D}, Rvs K m n H vs ds → (∀ d ∈ ds, (rowN d).isSome = true) → Paired (fun (b : V × PyData) d => Rv K m n H b.1 d ∧ b.2 = py d ∧ (rowN d).isSome = true) (vs.zip (ds.map py)) ds
  | _, _, .nil, _ => .nil
  | _, _, .cons a b, h => .cons ⟨a, rfl, h _ List.mem_cons_self⟩ (Rvs.pairedN b fun d hd => h d (List.mem_cons_of_mem _ hd))
theorem Rvs.of_pairedN {K : PySem.W.Frag} {m : Mp} {n : Nat} {H : Hp} : ∀ {bs : List (V × PyData)} {ds : List D}, Paired (fun (b : V × PyData) d => Rv K m n H b.1 d ∧ b.2 = py d ∧ (rowN d).isSome = true) bs ds → Rvs K m n H (bs.map (·.1)) ds
  | _, _, .nil => .nil
  | _, _, .cons a b => .cons a.1 (Rvs.of_pairedN b)
theorem rowN_dp {g : G} {m : Mp} {h : IH} {H : Hp} {v : V} {a b c : Int} {js : List Int} (rv : Rv g.K m h.length H v (.tup [.int a, .int b, .int c, .tup (js.map D.int)])) : Dp g.K H v (pyN a b c js) := by
  obtain ⟨p, vs, rfl, s, r⟩ := getT_ok rv (show getT (.tup [.int a, .int b, .int c, .tup (js.map D.int)]) = some _ from rfl)
  refine .tup s ?_
  cases r with
  | cons r1 r =>
  cases r with
  | cons r2 r =>
  cases r with
  | cons r3 r =>
  cases r with
  | cons r4 r =>
  cases r
  obtain ⟨p2, vs2, rfl, s2, r5⟩ := getT_ok r4 (show getT (.tup (js.map D.int)) = some _ from rfl)
  cases r1
  cases r2
  cases r3
  refine .cons (.int a) (.cons (.int b) (.cons (.int c) (.cons (.tup s2 ?_) .nil)))
  rw [r5.ints]
  exact dp_ints js
section
variable {X : Cx} {T : TF} {E : XK} {a b c e o : Expr} {es rest : List Expr} {pos : Pos} {f k l : ME}
theorem de_sortN (r : Bool) {t : MA} {p : Pos} {n : Nat} (hr : Room n X.A) (hm : X.mg "sorted" = none) (ha : DA X T E [e] t) (hg : Gl X "sorted" := by rfl) (he : starEach (e :: []) X.env = (false, eval e X.env) :: starEach [] X.env := by rfl) : DE X T E (.Call (.Name "sorted" p) [e] [] pos) (callB (one (sortND r)) t) :=
  de_callB (cr_sortG hr) (one_ok fun m h H v d E Q rh rv p => by
    unfold sortND at p
    cases q : getL h d with
    | none => rw [q] at p; exact p.elim
    | some xs =>
      rw [q] at p
      obtain ⟨hc, p⟩ := Post.grd p
      rw [List.all_eq_true] at hc
      obtain ⟨a, vs, rfl, s, rs⟩ := getL_ok rh rv q
      have hl := rs.length
      have pr := rs.pairedN hc
      have e1 : (vs.zip (xs.map py)).map (·.1) = vs := List.map_fst_zip (by rw [List.length_map, hl]; exact Nat.le_refl _)
      have e2 : (vs.zip (xs.map py)).map (·.2) = xs.map py := List.map_snd_zip (by rw [List.length_map, hl]; exact Nat.le_refl _)
      have hN : ∀ d ∈ xs, ∃ (a b c : Int) (js : List Int), d = .tup [.int a, .int b, .int c, .tup (js.map D.int)] := fun d hd => by
        obtain ⟨ns, e⟩ := Option.isSome_iff_exists.mp (hc d hd)
        obtain ⟨a, b, c, js, e, _⟩ := rowN_ok e
        exact ⟨a, b, c, js, e⟩
      refine ⟨a, vs.zip (xs.map py), rfl, by rw [e1]; exact s, fun b hb => ?_, ?_, ?_, fun q hq => ?_⟩
      · obtain ⟨d, hd, h1, h2, h3⟩ : ∃ d, d ∈ xs ∧ Rv X.K m h.length H b.1 d ∧ b.2 = py d ∧ (rowN d).isSome = true := by
          obtain ⟨d, hd, q⟩ := paired_mem pr b hb
          exact ⟨d, hd, q⟩
        obtain ⟨a1, b1, c1, js, rfl⟩ := hN d hd
        rw [h2, py_rowN]
        refine ⟨rowN_dp (g := gX X T) h1, ?_⟩
        unfold pyN
        simp only [PyData.depth, PyData.depthAll]
        rw [PySem.W.depth_ints]
        omega
      · rw [e2]
        intro x hx y hy
        obtain ⟨d, hd, rfl⟩ := List.mem_map.mp hx
        obtain ⟨d', hd', rfl⟩ := List.mem_map.mp hy
        obtain ⟨a1, b1, c1, js, rfl⟩ := hN d hd
        obtain ⟨a2, b2, c2, js2, rfl⟩ := hN d' hd'
        rw [py_rowN, py_rowN]
        exact rowN_alike ..
      · rw [e2]
        refine .inl fun x hx => ?_
        obtain ⟨d, hd, rfl⟩ := List.mem_map.mp hx
        obtain ⟨a1, b1, c1, js, rfl⟩ := hN d hd
        exact ⟨_, _, py_rowN ..⟩
      · have tl := PySem.W.sortLe_total (α := V × PyData) (PyProof.Rows.listOrd PyProof.Rows.itemOrd) false fun b => PySem.W.keyToks b.2
        have es : (vs.zip (xs.map py)).mergeSort (PySem.W.dataLe false fun b => b.2) = isrt (PySem.W.dataLe false fun b => b.2) (vs.zip (xs.map py)) := isrt_eq (fun a b c => tl.trans a b c) (fun a b => Bool.or_eq_true_iff.mpr (tl.total a b)) _
        rw [es]
        have ps := isrt_pair (le := PySem.W.dataLe false fun b : V × PyData => b.2) (le' := fun a b => lexI (rN a) (rN b)) (fun b d b' d' h1 h2 => by
          obtain ⟨ns, e⟩ := Option.isSome_iff_exists.mp h1.2.2
          obtain ⟨ns', e'⟩ := Option.isSome_iff_exists.mp h2.2.2
          have z : lexI (rN d) (rN d') = lexI ns ns' := by unfold rN; rw [e, e']; rfl
          rw [z, lexI_lt]
          obtain ⟨a1, b1, c1, js, rfl, rfl⟩ := rowN_ok e
          obtain ⟨a2, b2, c2, js2, rfl, rfl⟩ := rowN_ok e'
          show (!PySem.W.dataLt b'.2 b.2) = _
          rw [h1.2.1, h2.2.1, py_rowN, py_rowN, rowN_lt]) pr
        exact p.outL rh (Rvs.of_pairedN ps) hq) hm (by decide +kernel) ha hg (by decide) (by decide) he
end
end DL

set_option Elab.async false
set_option linter.all false
set_option maxRecDepth 100000
set_option autoImplicit false
set_option maxHeartbeats 1000000
/-! A lambda without parameters as a value that is kept. -/
namespace DL
open PySem PySem.Spec PyProof.Rows L2 HotX L2H
/-- a lambda's text -/
abbrev Lm := Arguments × Expr × Scope
abbrev fnO (X : Cx) (l : Lm) (pm : Value) (c : Addr) (ctv : Value) : Obj := PySem.W.kla_obj "<lambda>" (X.env.qual ++ "<lambda>") l.1 l.2.1 l.2.2 (cloFrom X.env.cells l.2.2.names []) pm c ctv
def FnX (X : Cx) (l : Lm) (pm : Value) (c : Addr) (ctv : Value) (a : Addr) : Heap → Prop := fun h => h.get? a = some (fnO X l pm c ctv)
/-- what an object of kind t + 1 is: the lambda with the number t -/
def lamT (X : Cx) (L : List Lm) (T : TF) : TF where
  tb := T.tb
  env := T.env
  ot := fun t a φ => ∃ l pm c ctv, L[t]? = some l ∧ φ = FnX X l pm c ctv a
  cp := fun t a φ c q => q = X.env.qual ++ "<lambda>" ∧ ∃ l pm ctv, L[t]? = some l ∧ φ = FnX X l pm c ctv a
section
variable {X : Cx} {pins : List (Addr × Obj)} {σ : L2.St} {H : Hp} {s : Shared}
/-- it is made, and known from then on -/
def tLam (X : Cx) (T : List (Addr × Str)) (l : Lm) : TE := fun _ H Q => LamX.Tabs T H ∧ ∀ (f c : Addr) (pm ctv : Value) (H1 : Hp) (hp : Heap), H f = none → H1 f = none → LamX.ExtN H H1 → LamX.Tabs T H1 → H1 c = some (LamX.CodeO c (X.env.qual ++ "<lambda>")) →
  (H c = none ∨ H c = H1 c) → HOk X.prog X.w (upd H1 f (.ext (FnX X l pm c ctv f))) hp → Q (.ref f) (upd H1 f (.ext (FnX X l pm c ctv f)))
theorem pe_lam {T : List (Addr × Str)} {c P : Addr} {par : Arguments} {body : Expr} {sc : Scope} {pos : Pos} (TB : LamX.TabB X.base X.mg c P) (hcode : X.env.code = .ref c) (hm : (P, X.env.qual ++ "<lambda>") ∈ T)
    (hu : ∀ p ∈ T, p.1 = P → p.2 = X.env.qual ++ "<lambda>") (hdef : defaultsOf par X.env = ([], [])) (hfree : X.Ok → ∀ y ∈ sc.names, y.2 = .free → ∃ c, X.env.cells.lookup y.1 = some c) :
    PE X (.Lambda par body sc pos) (tLam X T (par, body, sc)) := by
  refine ⟨fun pins s σ H Q I hq => ?_⟩
  obtain ⟨hT, fin⟩ := hq
  have fr := hfree I.ok
  obtain ⟨ps, tP, t3, all⟩ := hT _ hm
  refine PySem.W.kla_eval hdef ?_
  have bP := TB.bm.keeps I.bk
  have oP : s.heap.get? P = some { cls := .none, data := .fields ps } := I.hok P _ tP
  have last : ∀ (h1 : Heap) (t1 : Nat) (c1 : Addr) (pm ctv : Value) (H1 : Hp), Inv X pins σ H1 { s with heap := h1, toks := t1 } → s.heap.objs.size ≤ h1.objs.size → LamX.ExtN H H1 → LamX.Tabs T H1 → H1 c1 = some (LamX.CodeO c1 (X.env.qual ++ "<lambda>")) → (H c1 = none ∨ H c1 = H1 c1) →
      EP X pins σ Q (.ref h1.objs.size) { s with heap := h1.push (fnO X (par, body, sc) pm c1 ctv), toks := t1 } := fun h1 t1 c1 pm ctv H1 I1 hle eN T1 hc ho => by
    have I2 := I1.laid (t' := t1) (a := h1.objs.size) (o := .ext (FnX X (par, body, sc) pm c1 ctv h1.objs.size)) (h' := h1.push (fnO X (par, body, sc) pm c1 ctv)) (fun b o e => Heap.get?_push_of_some _ e) (Nat.le_refl _)
      ⟨Heap.get?_push_size _ rfl, ⟨_, Heap.get?_push_size _ rfl⟩, fun g1 g2 y st => st _ y⟩
    exact ⟨.ref h1.objs.size, _, I2, rfl, fin _ c1 pm ctv H1 _ (I.hok.fresh hle) (I1.hok.fresh (Nat.le_refl _)) eN T1 hc ho I2.hok⟩
  cases hc : codeAmong pos ps.toList with
  | some cv =>
    obtain ⟨c1, rfl, hco⟩ := all pos cv hc
    refine PySem.W.kla_makeFunctionHit (mg := X.mg) (c := c) (P := P) (ps := ps) (closure_ok fr) I.ok.glob (I.mod.glob.keeps I.bk) hcode (TB.code.keeps I.bk) oP t3 hc bP fun ctv h1 tk hx hsz => ?_
    exact last h1 tk c1 _ ctv H (I.kept (t' := tk) hx) hsz (LamX.ExtN.refl H) hT hco (.inr rfl)
  | none =>
    refine PySem.W.kla_makeFunction (mg := X.mg) (c := c) (P := P) (ps := ps) (closure_ok fr) I.ok.glob (I.mod.glob.keeps I.bk) hcode (TB.code.keeps I.bk) oP t3 hc TB.gP bP fun c1 ctv h1 tk hx hge hlt hrec htb => ?_
    obtain ⟨c2, oc, vs, t, e2, hoc, hd, hv⟩ := hrec
    cases e2
    have nC : H c1 = none := I.hok.fresh hge
    have I1 := LamX.inv_table (t' := tk) (more := #[rawInt pos.line, rawInt pos.col, .ref c1]) (q := X.env.qual ++ "<lambda>") I tP hx htb hge ⟨oc, vs, t, hoc, hd, hv⟩
    have hE : LamX.ExtN H (upd (upd H P (.tbl (ps ++ #[rawInt pos.line, rawInt pos.col, .ref c1]))) c1 (LamX.CodeO c1 (X.env.qual ++ "<lambda>"))) := fun b o e n => by
      have b1 : b ≠ c1 := ne_of_none e nC
      have b2 : b ≠ P := fun z => by
        rw [z, tP] at e
        exact n ps (Option.some.inj e).symm
      rw [upd_ne b1, upd_ne b2]
      exact e
    refine last h1 tk c1 _ ctv _ I1 (Nat.le_trans hge (Nat.le_of_lt hlt)) hE (fun p hp => ?_) upd_same (.inl nC)
    by_cases hb : p.1 = P
    · rw [hu p hp hb, hb]
      refine ⟨ps ++ #[rawInt pos.line, rawInt pos.col, .ref c1], by rw [upd_ne (ne_of_none tP nC), upd_same], ?_, fun p2 cv hcv => ?_⟩
      · rw [Array.toList_append]
        exact PySem.TriplesOk_snoc _ _ _ _ t3
      · rw [Array.toList_append] at hcv
        rcases LamX.among_app _ t3 hcv with z | rfl
        · obtain ⟨c0, e1, e2⟩ := all p2 cv z
          exact ⟨c0, e1, hE _ _ e2 LamX.codeO_ne⟩
        · exact ⟨c1, rfl, upd_same⟩
    · obtain ⟨qs, a1, a2, a3⟩ := hT p hp
      refine ⟨qs, by rw [upd_ne (ne_of_none a1 nC), upd_ne hb]; exact a1, a2, fun p2 cv hcv => ?_⟩
      obtain ⟨c0, e1, e2⟩ := a3 p2 cv hcv
      exact ⟨c0, e1, hE _ _ e2 LamX.codeO_ne⟩
end
/-- a code object is none of the ideal heap's -/
theorem code_off {X : Cx} {L : List Lm} {T : TF} {K : PySem.W.Frag} {mg : Str → Option Value} {P : Program} {w : World} {m : Mp} {h : IH} {H : Hp} {hp : Heap} {c : Addr} {q : Str} (rh : RH ⟨K, mg, lamT X L T⟩ m h H) (hk : ∀ a φ, H a = some (.ext φ) → φ hp) (hc : H c = some (LamX.CodeO c q)) : ∀ i, i < h.length → m i ≠ c := fun i hi z => by
  have q1 := rh.obj i h[i] (List.getElem?_eq_getElem hi)
  obtain ⟨oc, vs, t, g1, g2, g3⟩ := hk c _ hc
  rw [z] at q1
  cases e : h[i] with
  | lst ds => rw [e] at q1; obtain ⟨_, y, _⟩ := q1; rw [hc] at y; exact nomatch y
  | dct ds => rw [e] at q1; obtain ⟨_, y, _⟩ := q1; rw [hc] at y; exact nomatch y
  | ins k ds => rw [e] at q1; obtain ⟨_, _, _, y, _⟩ := q1; rw [hc] at y; exact nomatch y
  | frz ds => rw [e] at q1; obtain ⟨_, _, y, _⟩ := q1; rw [hc] at y; exact nomatch y
  | ext k ds =>
    rw [e] at q1
    obtain ⟨φ, us, y, _, y2, _⟩ := q1
    have y3 := hk c _ y
    cases k with
    | zero =>
      obtain ⟨o, b, v, u, en, ep, _, rfl, _, _, y4, _⟩ := y2
      have y3 : hp.get? c = some o := y3
      rw [g1] at y3
      cases y3
      rw [g2] at y4
      exact nomatch y4
    | succ k =>
      obtain ⟨l, pm, c2, ctv, _, rfl⟩ := y2
      have y3 : hp.get? c = some (fnO X l pm c2 ctv) := y3
      rw [g1] at y3
      cases y3
      exact nomatch g2
theorem fnX_inj {X : Cx} {l l2 : Lm} {pm pm2 ctv ctv2 : Value} {c c2 a : Addr} {hp : Heap} (e : FnX X l pm c ctv a = FnX X l2 pm2 c2 ctv2 a) (h : FnX X l pm c ctv a hp) : c = c2 := by
  have h2 : FnX X l2 pm2 c2 ctv2 a hp := by rw [← e]; exact h
  have z := Option.some.inj (Eq.trans (Eq.symm h) h2)
  have z2 := congrArg Obj.data z
  injection z2 with z3
  have z4 := congrArg FuncData.code z3
  injection z4
/-- lambda: body, kept: the function with the number t -/
def lamV (t : Nat) : ME := fun _ h => .ok (.ref h.length) (h ++ [.ext (t + 1) []])
theorem de_lamV {X : Cx} {L : List Lm} {T : TF} {E : XK} (t : Nat) {c P : Addr} {par : Arguments} {body : Expr} {sc : Scope} {pos : Pos} (TB : LamX.TabB X.base X.mg c P) (hcode : X.env.code = .ref c) (hmT : (P, X.env.qual ++ "<lambda>") ∈ T.tb)
    (hu : ∀ p ∈ T.tb, p.1 = P → p.2 = X.env.qual ++ "<lambda>") (S : LamX.LamS X.env.scope sc) (hL : L[t]? = some (par, body, sc) := by rfl) (hdef : defaultsOf par X.env = ([], []) := by rfl) :
    DE X (lamT X L T) E (.Lambda par body sc pos) (lamV t) :=
  PE.imp (pe_lam (T := T.tb) TB hcode hmT hu hdef fun ok => S.has ok) fun σ H Q ⟨m, h, en, rel, post⟩ => ⟨rel.rh.tab, fun f c1 pm ctv H1 hp n0 n1 eN T1 hc hor hok => by
    have hlen : (h ++ [O.ext (t + 1) []]).length = h.length + 1 := by simp
    have rh1 := rel.rh.extN eN T1
    have hk := upd_keeps (o := .ext (FnX X (par, body, sc) pm c1 ctv f)) n1
    have ok1 : ∀ a φ, H1 a = some (.ext φ) → φ hp := fun a φ e => (hok a _ (hk _ _ e)).1
    have okF : FnX X (par, body, sc) pm c1 ctv f hp := (hok f _ upd_same).1
    have off := code_off (P := X.prog) (w := X.w) rh1 ok1 hc
    have cmp : Cmp (lamT X L T) m h.length H1 (t + 1) f (FnX X (par, body, sc) pm c1 ctv f) := fun c2 q ⟨e1, l2, pm2, ctv2, _, e2⟩ => by
      have e3 := fnX_inj e2 okF
      subst e3 e1
      exact ⟨hc, off⟩
    have ex : Ex m h.length H (putX m h.length f (.ext (FnX X (par, body, sc) pm c1 ctv f))) (h ++ [O.ext (t + 1) []]).length (upd H1 f (.ext (FnX X (par, body, sc) pm c1 ctv f))) := by
      rw [hlen]
      exact (Ex.extN eN).trans (Ex.allocX n1 (rh1.noF n1) hk)
    have rh2 : RH (gX X (lamT X L T)) (putX m h.length f (.ext (FnX X (par, body, sc) pm c1 ctv f))) (h ++ [O.ext (t + 1) []]) (upd H1 f (.ext (FnX X (par, body, sc) pm c1 ctv f))) :=
      rh1.allocX (t := t + 1) (vs := []) n1 hk upd_same ⟨(par, body, sc), pm, c1, ctv, hL, rfl⟩ .nil cmp
    refine post _ _ _ ex rh2 ?_
    have z := Rv.ref (K := X.K) (m := putX m h.length f (.ext (FnX X (par, body, sc) pm c1 ctv f))) (n := (h ++ [O.ext (t + 1) []]).length) (H := upd H1 f (.ext (FnX X (par, body, sc) pm c1 ctv f))) (i := h.length) (by rw [hlen]; omega)
    rw [putX_same] at z
    exact z⟩
end DL

set_option Elab.async false
set_option linter.all false
set_option maxRecDepth 100000
set_option autoImplicit false
set_option maxHeartbeats 1000000
/-! A comprehension whose test may lean on the maker's own invariant (its cells). -/
namespace DL
open PySem PySem.Spec PyProof.Rows L2 HotX L2H
/-- the maker's invariant at each state of the block -/
def Bck (X : Cx) (Y : Cx) (ps : List (Addr × Obj)) (τ : L2.St) : Prop := ∀ qs τ2 G z, Inv Y qs τ2 G z → Inv X ps τ G z
theorem pe_lcI {X : Cx} {elt tg iter : Expr} {ifs : List Expr} {scope : Scope} {own : List (Str × Nat)} {pos : Pos} {wi : TI} {g : TG} {tt : L2.St → TT} {te : TE} (cm : X.calm = true) (nd : X.N.Nodup) (hi : PI X tg iter wi) (bo : BlkOk X.N X.env.scope scope own)
    (hg : ∀ (z : Shared) (G : Hp) (C : Addr) (cl : List (Str × Addr)) (fp : List Addr), PG (X.blk z G scope (compEnvC scope cl C X.env) fp) tg g)
    (ht : ∀ (τ : L2.St) (ps : List (Addr × Obj)) (z : Shared) (G : Hp) (C : Addr) (cl : List (Str × Addr)) (fp : List Addr), Bck X (X.blk z G scope (compEnvC scope cl C X.env) fp) ps τ → PTs (X.blk z G scope (compEnvC scope cl C X.env) fp) ifs (tt τ))
    (he : ∀ (z : Shared) (G : Hp) (C : Addr) (cl : List (Str × Addr)) (fp : List Addr), PE (X.blk z G scope (compEnvC scope cl C X.env) fp) elt te) (fo : ∀ x, foldedSetIterable iter X.env x = pure x := by intro _; rfl) :
    PE X (.ListComp elt [⟨tg, iter, ifs, 0⟩] scope pos) (fun τ G Q => tLc wi g (tt τ) te (own.map (·.2)) τ G Q) := by
  refine ⟨fun ps z0 τ G0 Q I0 hw => ?_⟩
  rw [eval_ListComp]
  have fre : ∀ y ∈ scope.names, y.2 = .free → ∃ c, X.env.cells.lookup y.1 = some c := fun y hy e => (bo.free y hy e).elim (fun k => I0.ok.has _ (.inl k)) (fun k => I0.ok.has _ (.inr k))
  refine wpAny_comprehension_free (use := none) rfl fo (closure_ok fre) bo.kind (fun y hy e => (bo.uniq y hy).trans (congrArg some e)) (thn (hi.run ps z0 τ G0 _ I0 hw) fun xv z1 hx => thn hx fun itv z2 hx2 => ?_)
  obtain ⟨it, fp, tn, J, G2, rfl, I2, T, st2, free2, q⟩ := hx2
  refine wpAny_newObj_type (newEnv_comp ?_) (by show 0 ≤ sizeLine; decide)
  generalize eD : z2.heap.objs.size = D
  have nD : G2 D = none := I2.hok.fresh (Nat.le_of_eq eD)
  obtain ⟨W, ⟨m0, w0⟩, turn⟩ := q D nD
  -- the list in the making
  generalize e3 : ({ z2 with heap := z2.heap.push { cls := .type "list", data := .seq ([] : List Value).toArray } } : Shared) = z3
  have hz3 : z3.heap = z2.heap.push { cls := .type "list", data := .seq ([] : List Value).toArray } := by subst e3; rfl
  have I3 : Inv X ps τ (upd G2 D (.lst [])) z3 := by
    subst e3
    exact I2.laid (t' := z2.toks) (fun b o e => Heap.get?_push_of_some _ e) (Nat.le_of_eq eD) ⟨Nat.zero_le _, [], 0, .nil, by subst eD; exact Heap.get?_push_size _ rfl⟩
  have under : ∀ b ∈ fp, b < z2.heap.objs.size := fun b hb => let ⟨o, e, _⟩ := T.obj _ _ st2 b hb; Heap.lt_size e
  have free3 : ∀ b ∈ fp, FpOk X ps (upd G2 D (.lst [])) b ∧ b < z3.heap.objs.size := fun b hb =>
    ⟨⟨by rw [upd_ne (by subst eD; exact Nat.ne_of_lt (under b hb))]; exact (free2 b hb).1, (free2 b hb).2⟩, by rw [hz3, Heap.size_push]; exact Nat.lt_succ_of_lt (under b hb)⟩
  have st3 : tn 0 z3.heap := T.keep _ _ _ st2 fun b _ o e => by rw [hz3]; exact Heap.get?_push_of_some _ e
  generalize eG : upd G2 D (.lst []) = G3 at I3 free3 w0
  have B3 := block_start I3 bo nd free3
  have pg := hg z3 G3 z3.heap.objs.size (cellsFrom (z3.heap.objs.size + 1) scope.names (cloFrom X.env.cells scope.names [])) fp
  have pt := ht τ ps z3 G3 z3.heap.objs.size (cellsFrom (z3.heap.objs.size + 1) scope.names (cloFrom X.env.cells scope.names [])) fp
  have pe := he z3 G3 z3.heap.objs.size (cellsFrom (z3.heap.objs.size + 1) scope.names (cloFrom X.env.cells scope.names [])) fp
  show codeAny _ _ (.compStart (.ListComp elt [⟨tg, iter, ifs, 0⟩] scope pos) 0 (.ref it) (.ref D) (compEnvC scope (cellsFrom (z3.heap.objs.size + 1) scope.names (cloFrom X.env.cells scope.names [])) z3.heap.objs.size X.env)) (compPost (model X.prog X.w) X.A X.xe none (EP X ps τ Q) (.ref D) z3.heap.objs.size) { z3 with heap := pushCells (z3.heap.push { cls := .type "dict", data := .dict #[] }) scope.names }
  generalize ec : compEnvC scope (cellsFrom (z3.heap.objs.size + 1) scope.names (cloFrom X.env.cells scope.names [])) z3.heap.objs.size X.env = ce at B3 pg pt pe ⊢
  have cl : ce.locals = z3.heap.objs.size := by subst ec; rfl
  generalize e4 : ({ z3 with heap := pushCells (z3.heap.push { cls := .type "dict", data := .dict #[] }) scope.names } : Shared) = z4 at B3 ⊢
  have st4 : tn 0 z4.heap := T.keep _ _ _ st3 fun b _ o e => by subst e4; exact pushCells_keeps _ _ _ _ (Heap.get?_push_of_some _ e)
  -- back to the maker
  have back : Bck X (X.blk z3 G3 scope ce fp) ps τ := fun qs τ2 G z B => I3.call' (ch := fp) B.os B.base B.hok B.bare fun b hb =>
    let ⟨f1, _⟩ := free3 b hb
    ⟨f1.2.2.2.1, f1.2.1, f1.2.2.2.2.1, f1.2.2.2.2.2⟩
  have pt := pt back
  have fpo : ∀ {τ2 : L2.St} {G : Hp} {z : Shared}, Inv (X.blk z3 G3 scope ce fp) [] τ2 G z → (∀ b ∈ fp, G b = none) → ∀ b ∈ fp, FpOk (X.blk z3 G3 scope ce fp) [] G b := fun {τ2 G z} B n b hb =>
    ⟨n b hb, (B.ok.exf b hb).1, B.ok.exfs b hb, .inl hb, fun y c e => (B.ok.exf b hb).2 y c e, fun p hp => nomatch (show p ∈ ([] : List (Addr × Obj)) from hp)⟩
  have loop : codeAny (model X.prog X.w) X.A (.compLoop (.ListComp elt [⟨tg, iter, ifs, 0⟩] scope pos) 0 (.ref it) (.ref D) ce) (compPost (model X.prog X.w) X.A X.xe none (EP X ps τ Q) (.ref D) z3.heap.objs.size) z4 := by
    refine compLoop_any (fun n z => ∃ i G, Inv (X.blk z3 G3 scope ce fp) [] (wipe τ (own.map (·.2))) G z ∧ tn i z.heap ∧ (∀ b ∈ fp, G b = none) ∧ W i n G) ?_ m0 ⟨0, G3, B3, st4, fun b hb => (free3 b hb).1.1, w0⟩
    rintro n z5 ⟨i, G5, B5, st5, n5, w5⟩
    rcases turn i n G5 w5 with ⟨stop, qq⟩ | ⟨go, Nx, lower, step⟩
    · -- it ends
      refine thnF (T.done (X.blk z3 G3 scope ce fp) rfl rfl rfl cm i [] z5 _ G5 (fun _ _ => False) B5 (fpo B5 n5) st5 stop) fun r z6 hr => ?_
      obtain ⟨rfl, B6⟩ := hr
      have I7 := back _ _ _ _ B6
      have nC : G5 z3.heap.objs.size = none := by rw [← cl]; exact B6.free
      obtain ⟨mm, hn, _⟩ := B6.loc
      have hn : z6.heap.Ns ce.locals mm := hn
      rw [cl] at hn
      obtain ⟨k0, k1, k2, k3, k4, k5⟩ := I3.fpOk (Nat.le_refl _) nC
      exact ⟨mm, hn, fun h2 sb => ⟨.ref D, G5, I7.turned (t' := z6.toks) (fun b o hb e => (sb.2 b hb).trans e) k0 k1 k3 k4 k5, rfl, qq⟩⟩
    · -- a turn
      refine thnF (T.item (X.blk z3 G3 scope ce fp) rfl rfl rfl cm i [] z5 _ G5 (fun _ _ => False) B5 (fpo B5 n5) st5 go) fun r z6 hr => ?_
      obtain ⟨u, rfl, h6⟩ := hr
      refine thnF h6 fun _ z7 h7 => ?_
      obtain ⟨x, G7, B7, r7, y7, st7, n7⟩ := h7
      have P7 := B7.pinned (fpo B7 n7) (T.obj _ _ st7)
      refine thnF (pg.run _ z7 _ G7 x u _ P7 r7 (step x G7 y7)) fun _ z8 h8 => ?_
      obtain ⟨τ8, G8, B8, w8, q8⟩ := h8
      refine thnF (pt.run _ z8 τ8 G8 _ B8 q8) fun b z9 h9 => ?_
      obtain ⟨G9, B9, q9⟩ := h9
      have next : ∀ {z : Shared} {G : Hp}, Inv (X.blk z3 G3 scope ce fp) ([] ++ pinsAt fp z7.heap) τ8 G z → Nx G → ∃ m, m < n ∧ ∃ i G, Inv (X.blk z3 G3 scope ce fp) [] (wipe τ (own.map (·.2))) G z ∧ tn i z.heap ∧ (∀ b ∈ fp, G b = none) ∧ W i m G := fun {z G} B nx => by
        obtain ⟨m2, less, w2⟩ := lower G nx
        have kept : ∀ b ∈ fp, ∀ o, z7.heap.get? b = some o → z.heap.get? b = some o ∧ G b = none := fun b hb o e =>
          let y := B.pin (b, o) (List.mem_append_right _ (List.mem_append_right _ (mem_pinsAt hb e)))
          ⟨y.1, y.2.1⟩
        refine ⟨m2, less, i + 1, G, (B.unpinned (pins := [])).weak (by rw [← w8, wipe_length]) (fun j v e => ?_), T.keep _ _ _ st7 fun b hb o e => (kept b hb o e).1, fun b hb => let ⟨o, e, _⟩ := T.obj _ _ st7 b hb; (kept b hb o e).2, w2⟩
        rw [← w8] at e
        exact (wipe_some e).1
      cases b with
      | true =>
        rw [if_pos rfl] at q9 ⊢
        refine thnF (pe.run _ z9 τ8 G9 _ B9 q9) fun z z10 h10 => ?_
        obtain ⟨yv, G10, B10, r10, acc, hD10, hz10, nx⟩ := h10
        exact app_ok (X := X.blk z3 G3 scope ce fp) B10 hD10 hz10 r10 fun z11 B11 => next B11 nx
      | false =>
        rw [if_neg Bool.false_ne_true] at q9 ⊢
        exact next B9 q9
  exact codeAny_compStart_list loop (T.self X.A 0 _ _ _ st4 loop)
end DL

set_option Elab.async false
set_option linter.all false
set_option maxRecDepth 100000
set_option autoImplicit false
set_option maxHeartbeats 1000000
/-! A kept lambda is called in a def that got it. -/
namespace DL
open PySem PySem.Spec PyProof.Rows L2 HotX L2H
/-! ### other kept pairs -/
theorem RH.reenv {K : PySem.W.Frag} {mg : Str → Option Value} {T : TF} {ev : List (V × D)} {m : Mp} {h : IH} {H : Hp} (r : RH ⟨K, mg, T⟩ m h H) (f : ∀ p ∈ ev, Rv K m h.length H p.1 p.2) : RH ⟨K, mg, { T with env := ev }⟩ m h H where
  obj := fun i o hi => by
    have q := r.obj i o hi
    cases o with
    | ext t ds =>
      cases t with
      | zero => exact q
      | succ t => exact q
    | lst ds => exact q
    | dct ds => exact q
    | ins c ds => exact q
    | frz ds => exact q
  inj := r.inj
  tab := r.tab
  frm := f
  prt := r.prt
  npr := r.npr
  fz1 := r.fz1
  fz2 := r.fz2
  fz3 := r.fz3
theorem RH.unenv {K : PySem.W.Frag} {mg : Str → Option Value} {T : TF} {ev : List (V × D)} {m : Mp} {h : IH} {H : Hp} (r : RH ⟨K, mg, { T with env := ev }⟩ m h H) (f : ∀ p ∈ T.env, Rv K m h.length H p.1 p.2) : RH ⟨K, mg, T⟩ m h H where
  obj := fun i o hi => by
    have q := r.obj i o hi
    cases o with
    | ext t ds =>
      cases t with
      | zero => exact q
      | succ t => exact q
    | lst ds => exact q
    | dct ds => exact q
    | ins c ds => exact q
    | frz ds => exact q
  inj := r.inj
  tab := r.tab
  frm := f
  prt := r.prt
  npr := r.npr
  fz1 := r.fz1
  fz2 := r.fz2
  fz3 := r.fz3
/-- a frame's values, told -/
def prs : L2.St → En → List (V × D)
  | some v :: σ, some d :: en => (v, d) :: prs σ en
  | _ :: σ, _ :: en => prs σ en
  | _, _ => []
theorem prs_mem : ∀ {σ : L2.St} {en : En} {i : Nat} {v : V} {d : D}, σ[i]? = some (some v) → en[i]? = some (some d) → (v, d) ∈ prs σ en
  | [], _, _, _, _, h, _ => by simp at h
  | _ :: _, [], _, _, _, _, h => by simp at h
  | some v :: σ, some d :: en, 0, _, _, h1, h2 => by
    simp at h1 h2
    subst h1 h2
    exact List.mem_cons_self
  | some v :: σ, some d :: en, i + 1, _, _, h1, h2 => List.mem_cons_of_mem _ (prs_mem (i := i) (by simpa using h1) (by simpa using h2))
  | none :: σ, _ :: en, 0, _, _, h1, _ => by simp at h1
  | none :: σ, e :: en, i + 1, _, _, h1, h2 => by
    unfold prs
    exact prs_mem (i := i) (by simpa using h1) (by simpa using h2)
  | some w :: σ, none :: en, 0, _, _, _, h2 => by simp at h2
  | some w :: σ, none :: en, i + 1, _, _, h1, h2 => by
    unfold prs
    exact prs_mem (i := i) (by simpa using h1) (by simpa using h2)
theorem prs_of : ∀ {σ : L2.St} {en : En} {p : V × D}, p ∈ prs σ en → ∃ i : Nat, σ[i]? = some (some p.1) ∧ en[i]? = some (some p.2)
  | [], _, _, h => by simp [prs] at h
  | none :: _, [], _, h => by simp [prs] at h
  | some _ :: _, [], _, h => by simp [prs] at h
  | some v :: σ, some d :: en, p, h => by
    unfold prs at h
    rcases List.mem_cons.mp h with rfl | h
    · exact ⟨0, rfl, rfl⟩
    · obtain ⟨i, h1, h2⟩ := prs_of h
      exact ⟨i + 1, by simpa using h1, by simpa using h2⟩
  | none :: σ, e :: en, p, h => by
    unfold prs at h
    obtain ⟨i, h1, h2⟩ := prs_of h
    exact ⟨i + 1, by simpa using h1, by simpa using h2⟩
  | some w :: σ, none :: en, p, h => by
    unfold prs at h
    obtain ⟨i, h1, h2⟩ := prs_of h
    exact ⟨i + 1, by simpa using h1, by simpa using h2⟩
/-- what is known of each lambda: its names, that it takes nothing -/
def LmOk (X : Cx) (l : Lm) : Prop := LamX.LamS X.env.scope l.2.2 ∧ ∀ (q : Str) (cl : List (Str × Addr)) (pm cv ctv : Value), bindArgs (PySem.W.kla_fn "<lambda>" q l.1 l.2.1 l.2.2 cl pm cv ctv) ⟨[], []⟩ = pure []
/-- the def's context, started from X's own stack -/
abbrev callee (X : Cx) (N : List Str) (q : Str) (sc : Scope) (g : Addr) (cd : Value) (s : Shared) (H : Hp) (E : XK) : Cx := cxOf (L2N.CX X.prog X.w) X.prog X.w X.K X.mg X.base N q sc g cd X.A X.stack s H E
section
variable {X : Cx} {pins : List (Addr × Obj)} {σ : L2.St} {H : Hp} {s : Shared}
theorem pe_deedK {Ng : List Str} {qg : Str} {sg : Scope} {g : Addr} {cdg : Value} {Eg : XK} {k i : Nat} {a : Str} {L : List Lm} {t : Nat → TE} {p1 p2 : Pos} (I : Inv X pins σ H s) (hL : ∀ l ∈ L, LmOk X l)
    (hr : Room (k + 1) (X.A.deeper (envOfC qg sg s.heap.objs.size g cdg)))
    (hbody : ∀ (n : Nat) (l : Lm), L[n]? = some l → ∀ (A : Around) (outer : List Env) (s : Shared) (H : Hp) (f c' : Addr), Room k (A.deeper (LamX.lamEnv X l.2.2 s.heap.objs.size f c')) → PE (lamN X A outer s H NoE l.2.2 f c') l.2.1 (t n))
    (hN : Ng[i]? = some a) (hv : Vis sg a) (d1 : (a == ("__debug__" : Str)) = false) (d2 : (a == ("__classdict__" : Str)) = false) :
    PE (callee X Ng qg sg g cdg s H Eg) (.Call (.Name a p1) [] [] p2)
      (fun τ G Q => ∃ (f c' : Addr) (n : Nat) (l : Lm) (pm ctv : Value), τ[i]? = some (some (.ref f)) ∧ L[n]? = some l ∧ G f = some (.ext (FnX X l pm c' ctv f)) ∧ G c' = some (LamX.CodeO c' (X.env.qual ++ "<lambda>")) ∧ t n σ G Q) := by
  refine ⟨fun ps z τ G Q J hw => ?_⟩
  obtain ⟨f, c1, n, l, pm, ctv, e1, e2, e3, e4, hq⟩ := hw
  refine wpAny_Call_Name_kw (thn ((pe_var (pos := p1) (i := i) hN hv d1 d2).run ps z τ G (fun v G1 => v = .ref f ∧ G1 = G) J ⟨.ref f, e1, rfl, rfl⟩) fun u z1 hz => ?_)
  obtain ⟨v, G1, J1, r1, rfl, rfl⟩ := hz
  obtain rfl : u = Value.ref f := r1
  have fo : z1.heap.get? f = some (fnO X l pm c1 ctv) := (J1.hok f _ e3).1
  obtain ⟨S, hbi⟩ := hL l (List.mem_of_getElem? e2)
  have go := hbody n l e2
  refine PySem.W.callWith_F0 ⟨_, _, _, _, fo⟩ ?_
  have un : Un (frs X.stack) [] H G1 s.heap z1.heap := J1.base
  obtain ⟨⟨oc, vs, tt, q1, q2, q3⟩, _, _⟩ := J1.hok c1 _ e4
  have run : codeAny (model X.prog X.w) (X.A.deeper (envOfC qg sg s.heap.objs.size g cdg)) (.call (.ref f) ⟨[], []⟩) (CR (L2N.CX X.prog X.w) (envOfC qg sg s.heap.objs.size g cdg :: X.stack) X.prog X.w G1 z1 Q NoE) z1 := by
    refine PySem.W.kla_callFunE hr.depth fo rfl S.co S.gen rfl ⟨c1, oc, vs, tt, rfl, q1, q2, q3⟩ ?_
    rw [hbi]
    refine wpAny_pure (wpAny_newFunctionEnv (fun y hy => (S.own y hy).2) (fun y hy => nomatch hy) (fun h2 n1 n2 => ⟨J1.nolimit.fresh _ n2, ?_⟩) S.kind)
    have kp : ∀ b o, z1.heap.get? b = some o → h2.get? b = some o := fun b o e => n2.extBut b o (Nat.ne_of_lt (Heap.lt_size e)) (Heap.get?_push_of_some _ e)
    have Z := LamX.lam_start2 (E := NoE) (f := f) (c' := c1) (tk := z1.toks + ([] : List (Str × Value)).length) I S J1.env0 hr.hd un n1 kp
    show codeAny _ _ (.expr l.2.1 (LamX.lamEnv X l.2.2 z1.heap.objs.size f c1)) _ _
    refine PySem.W.kla_codeExpr (wpAny_mono ((go _ _ z1 G1 f c1 (hr.deeper _)).run [] _ _ G1 Q (Z.wish _) hq) (fun v z2 hv => ?_) fun e z2 hv => hv)
    obtain ⟨w2, G2, J2, rv, q⟩ := hv
    exact ⟨w2, G2, J2.os, J2.bare, J2.base, J2.hok, rv, q⟩
  refine wpAny_call (codeAny_mono run fun r z2 hq => ?_)
  match r, hq with
  | .ok (.ret u), hq => exact J1.after hq
  | .ok .next, hq => exact False.elim hq
  | .ok .brk, hq => exact False.elim hq
  | .ok .cont, hq => exact False.elim hq
  | .error e, hq =>
    obtain ⟨_, _, _, _, _, _, _, _, _, _, _, _, z⟩ := hq
    exact False.elim z
end
/-- what the kept function tells, of the frame en0 -/
def noErr (o : Out D) : Out D := match o with
  | .ok d h => .ok d h
  | _ => .bad
def deedE (i : Nat) (fbs : List ME) (en0 : En) : ME := fun en h => match en[i]? with
  | some (some (.ref j)) => (match h[j]? with
    | some (.ext (t + 1) _) => (match fbs[t]? with
      | some fb => noErr (fb en0 h)
      | none => .bad)
    | _ => .bad)
  | _ => .bad
theorem Post.noErr {α : Type} {R : (Mp) → Nat → Hp → α → D → Prop} {g : G} {m : Mp} {n : Nat} {H : Hp} {E E2 : XK} {Q : α → Hp → Prop} : ∀ {o : Out D}, Post R g m n H E Q (noErr o) → Post R g m n H E2 Q o
  | .ok _ _, p => p
  | .err _ _, p => p.elim
  | .bad, p => p.elim
section
variable {X : Cx} {pins : List (Addr × Obj)} {σ : L2.St} {H : Hp} {s : Shared}
abbrev envT (T : TF) (ev : List (V × D)) : TF := { T with env := ev }
theorem de_deed {Ng : List Str} {qg : Str} {sg : Scope} {g : Addr} {cdg : Value} {k : Nat} {a : Str} {L : List Lm} {T : TF} {ev : List (V × D)} {fbs : List ME} {en0 : En} {p1 p2 : Pos} (i : Nat) (I : Inv X pins σ H s) (hL : ∀ l ∈ L, LmOk X l)
    (hr : Room (k + 1) (X.A.deeper (envOfC qg sg s.heap.objs.size g cdg))) (hlen : σ.length = en0.length) (hE : ∀ (j : Nat) (d : D), en0[j]? = some (some d) → ∃ v, σ[j]? = some (some v) ∧ (v, d) ∈ ev)
    (hb : ∀ (n : Nat) (l : Lm) (fb : ME), L[n]? = some l → fbs[n]? = some fb → ∀ (A : Around) (outer : List Env) (s : Shared) (H : Hp) (f c' : Addr), Room k (A.deeper (LamX.lamEnv X l.2.2 s.heap.objs.size f c')) → DE (lamN X A outer s H NoE l.2.2 f c') (envT (lamT X L T) ev) NoE l.2.1 fb)
    (hN : Ng[i]? = some a := by rfl) (hv : Vis sg a := by first | exact Or.inl rfl | exact Or.inr (Or.inl rfl) | exact Or.inr (Or.inr rfl)) (d1 : (a == ("__debug__" : Str)) = false := by decide) (d2 : (a == ("__classdict__" : Str)) = false := by decide) :
    DE (callee X Ng qg sg g cdg s H NoE) (envT (lamT X L T) ev) NoE (.Call (.Name a p1) [] [] p2) (deedE i fbs en0) := by
  refine PE.imp (pe_deedK (t := fun n => match fbs[n]? with | some fb => LE (gX X (envT (lamT X L T) ev)) NoE fb | none => fun _ _ _ => False) (k := k) I hL hr (fun n l e A outer s H f c' r => ?_) hN hv d1 d2) fun τ G Q ⟨m, h, en, rel, post⟩ => ?_
  · cases q : fbs[n]? with
    | none => exact ⟨fun _ _ _ _ _ _ z => z.elim⟩
    | some fb => exact hb n l fb e q A outer s H f c' r
  · unfold deedE at post
    split at post
    case h_2 => exact post.elim
    rename_i j e1
    split at post
    case h_2 => exact post.elim
    rename_i t ds e2
    split at post
    case h_2 => exact post.elim
    rename_i fb e3
    obtain ⟨v, g1, g2⟩ := rel.env i _ e1
    cases g2
    obtain ⟨φ, vs, o1, o2, o3, o4, o5⟩ := rel.rh.obj j _ e2
    obtain ⟨l, pm, c, ctv, l1, rfl⟩ := o3
    obtain ⟨c1, c2⟩ := o4 c _ ⟨rfl, l, pm, ctv, l1, rfl⟩
    refine ⟨_, c, t, l, pm, ctv, g1, l1, o1, c1, ?_⟩
    rw [e3]
    refine ⟨m, h, en0, ⟨rel.rh, hlen, fun j d hj => ?_⟩, Post.noErr post⟩
    obtain ⟨w, w1, w2⟩ := hE j d hj
    exact ⟨w, w1, rel.rh.frm _ w2⟩
end
/-! ### the def that gets the lambda is called, from where the maker's invariant is known -/
section
variable {Y : Cx}
theorem pe_callI {x : Str} {k : Nat} {f : Addr} {name qual : Str} {params : Arguments} {body : List Stmt} {scope : Scope} {dV kV doc pm cdv ct oc : Value} {an od : Option Addr} {osl : Array (Option Value)} {N ps : List Str} {e : Expr} {es : List Expr} {t : TA} {p pos : Pos}
    {bt : L2.St → List V → Hp → VK → Prop} (lk : Y.K.lookup f = some ⟨oc, od, .func (PySem.W.fnOf name qual params body scope dV kV doc pm an cdv ct), osl⟩) (hcd : PySem.W.codeIn Y.K cdv qual = true) (S : FnScope N ps scope) (hr : Room (k + 1) Y.A)
    (hm : Y.mg x = some (.ref f)) (hk : PySem.W.keepIn Y.K (.ref f) = true) (hb : Binds Y.K (PySem.W.fnOf name qual params body scope dV kV doc pm an cdv ct) ps []) (ha : PA Y (e :: es) t)
    (go : ∀ (σ : L2.St) (pins : List (Addr × Obj)) (s : Shared) (H : Hp) (vs : List V) (Q : VK), Inv Y pins σ H s → bt σ vs H Q → vs.length = ps.length ∧ (Room k (Y.A.deeper (envOfC qual scope s.heap.objs.size f cdv)) → ∃ tb, PSs (callee Y N qual scope f cdv s H NoE) body tb ∧ tb { nx := fun _ H' => Q .non H', rt := Q } (L2.start N vs) H))
    (hg : Gl Y x := by rfl) (hdb : (x == ("__debug__" : Str)) = false := by decide) (he : starEach (e :: es) Y.env = (false, eval e Y.env) :: starEach es Y.env := by rfl) (hpl : (backTo pos (starEach es Y.env)).any (·.1) = false := by rfl) :
    PE Y (.Call (.Name x p) (e :: es) [] pos) (fun σ H Q => t σ H fun vs H1 => bt σ vs H1 Q) := by
  refine ⟨fun pins s σ H Q I hw => ?_⟩
  refine wpAny_Call_Name_kw (ld_glob I hg hm ?_ hdb)
  refine PySem.W.callWith_K (h₀ := Y.base) I.ok.mod.kin hk (thn (ha.run pos pins s σ H _ I hw) fun us z1 hz => ?_) he hpl
  obtain ⟨vs, G1, J1, r, q⟩ := hz
  refine ⟨J1.kIn, ?_⟩
  obtain ⟨len, body⟩ := go σ pins z1 G1 vs Q J1 q
  have run : codeAny (model Y.prog Y.w) Y.A (.call (.ref f) ⟨us, []⟩) (CR (L2N.CX Y.prog Y.w) Y.stack Y.prog Y.w G1 z1 Q NoE) z1 := by
    refine LamX.run_ofS lk hcd S hr J1.env0 ?_ r len body
    have b := hb z1 us J1.kIn (by rw [List.append_nil, ← r.length, len])
    simpa using b
  refine wpAny_call (codeAny_mono run fun r z2 hq => ?_)
  match r, hq with
  | .ok (.ret u), hq => exact J1.after hq
  | .ok .next, hq => exact False.elim hq
  | .ok .brk, hq => exact False.elim hq
  | .ok .cont, hq => exact False.elim hq
  | .error e, hq =>
    obtain ⟨_, _, _, _, _, _, _, _, _, _, _, _, z⟩ := hq
    exact False.elim z
end
end DL

set_option Elab.async false
set_option linter.all false
set_option maxRecDepth 100000
set_option autoImplicit false
set_option maxHeartbeats 1000000
/-! [.. for f in kept if not again(f, x)], the kept ones lambdas of the def itself. -/
namespace DL
open PySem PySem.Spec PyProof.Rows L2 HotX L2H
theorem redLcI {g : G} {E : XK} {σ : L2.St} {H : Hp} {Q : VK} {r : Bool} {fi : MV} {p : Pat} {t : MT} {e : ME} {vs : List Nat} (hp : ∀ i ∈ p.slots, i ∈ vs) (q : LE g E (lcE r fi p t e vs) σ H Q) :
    tLc (LX (ItS g) g E fi) (p.tg g.K) (fun τ G K => wipe τ vs = wipe σ vs ∧ LT g (fun _ _ _ => False) t τ G K) (LE g (fun _ _ _ => False) e) vs σ H Q := by
  obtain ⟨m, h, en, rel, pp⟩ := q
  refine chain rel pp fun m1 h1 H1 J w e1 rel1 its p1 => ?_
  intro D0 hD0
  cases q0 : w h1 with
  | none => rw [q0] at p1; exact p1.elim
  | some xs0 =>
  rw [q0] at p1
  have exS : Ex m1 h1.length H1 (m1.add D0) h1.length (upd H1 D0 (.lst [])) :=
    ⟨Nat.le_refl _, ⟨fun _ z => .inl z, fun a z => z.elim .inl fun y => .inr fun o ho => by rw [y, hD0] at ho; cases ho⟩, fun _ _ => rfl, fun i a b => absurd (Nat.lt_of_lt_of_le b a) (Nat.lt_irrefl _), fun a o ha _ _ => upd_keeps hD0 _ _ ha, fun a o ha k => ⟨o, upd_keeps hD0 _ _ ha, k⟩, fun _ _ z => z⟩
  have np : ¬ m1.P D0 := (rel1.rh.off hD0).1
  refine ⟨fun i μ H' => ∃ m' h' acc ys, Rel g m' h' (wipe σ vs) (wipeE en vs) H' ∧ Ex m1 h1.length H1 m' h'.length H' ∧ m'.P D0 ∧ H' D0 = some (.lst acc) ∧ Rvs g.K m' h'.length H' acc ys ∧ Post (Rv g.K) g m1 h1.length H1 E Q ((lcV w p t e vs en μ i ys h').bind fun ys h2 => outL r ys h2),
    ⟨xs0.length, m1.add D0, h1, [], [], ?_, exS, .inr rfl, upd_same, .nil, p1⟩, fun i μ H' ⟨m', h', acc, ys, rel', ex', pD, hD, racc, p'⟩ => ?_⟩
  · exact (rel1.next exS (rel1.rh.add hD0 NT.lst)).wipe vs
  unfold lcV at p'
  cases q : w h' with
  | none => rw [q] at p'; exact p'.elim
  | some xs =>
    rw [q] at p'
    obtain ⟨its1, its2⟩ := its m' h' H' ex' rel'.rh xs q i
    dsimp only at p'
    cases q2 : xs[i]? with
    | none =>
      rw [q2] at p'
      refine .inl ⟨its2 (List.getElem?_eq_none_iff.mp q2), ?_⟩
      exact lc_end (m0 := m1) (m' := m') ⟨ex'.le, ⟨fun _ z => z, fun _ z => .inl z⟩, ex'.same, ex'.new, ex'.keep, ex'.dom, ex'.fz⟩ ex'.prot.1 rel'.rh hD hD0 pD np racc p'
    | some d =>
      rw [q2] at p'
      obtain ⟨go, yl⟩ := its1 d q2
      dsimp only at p'
      cases μ with
      | zero => exact p'.elim
      | succ μ =>
        dsimp only at p'
        refine .inr ⟨go, fun H2 => ∃ m2 h2 acc ys, Rel g m2 h2 (wipe σ vs) (wipeE en vs) H2 ∧ Ex m1 h1.length H1 m2 h2.length H2 ∧ m2.P D0 ∧ H2 D0 = some (.lst acc) ∧ Rvs g.K m2 h2.length H2 acc ys ∧ Post (Rv g.K) g m1 h1.length H1 E Q ((lcV w p t e vs en μ (i + 1) ys h2).bind fun ys h2 => outL r ys h2),
          fun H2 z => ⟨μ, Nat.lt_succ_self _, z⟩, fun x Hx y => ?_⟩
        obtain ⟨ex2, rh2, rv2⟩ := yl x Hx y
        have rel2 := rel'.next ex2 rh2
        cases q3 : p.set d (wipeE en vs) with
        | none => rw [q3] at p'; exact p'.elim
        | some en3 =>
          rw [q3] at p'
          dsimp only at p'
          have keepD : ∀ {ma : Mp} {ha : IH} {Ha : Hp} {mb : Mp} {hb : IH} {Hb : Hp} {ac : List V}, RH g ma ha Ha → ma.P D0 → Ha D0 = some (.lst ac) → Ex ma ha.length Ha mb hb.length Hb → Hb D0 = some (.lst ac) := fun {ma ha Ha mb hb Hb ac} ra pa hd ex => ex.keep _ _ hd (fun i hi z => ra.npr i hi (by rw [z]; exact pa)) NT.lst
          have hD2 := keepD rel'.rh pD hD ex2
          refine p.run hp rel2 rv2 q3 fun σ3 rel3 ws => ⟨ws, ws, ?_⟩
          refine ⟨m', h', en3, rel3, ?_⟩
          cases q4 : t en3 h' with
          | bad => rw [q4] at p'; exact p'.elim
          | err c h4 => rw [q4] at p'; exact p'.elim
          | ok b h4 =>
            rw [q4] at p'
            intro m4 H4 b' ex4 rh4 eb
            cases (show b' = b from eb)
            have rel4 := rel2.next ex4 rh4
            have rel4s := rel3.next ex4 rh4
            have ex14 := (ex'.trans ex2).trans ex4
            have pD4 := ex4.prot.1 _ (ex2.prot.1 _ pD)
            have hD4 := keepD rh2 (ex2.prot.1 _ pD) hD2 ex4
            cases b with
            | false =>
              rw [if_neg Bool.false_ne_true]
              exact ⟨m4, h4, acc, ys, rel4, ex14, pD4, hD4, (racc.mono ex2).mono ex4, p'⟩
            | true =>
              rw [if_pos rfl]
              dsimp only at p'
              refine ⟨m4, h4, en3, rel4s, ?_⟩
              cases q5 : e en3 h4 with
              | bad => rw [q5] at p'; exact p'.elim
              | err c h5 => rw [q5] at p'; exact p'.elim
              | ok y h5 =>
                rw [q5] at p'
                dsimp only at p'
                intro m5 H5 u ex5 rh5 ru
                by_cases hl : ys.length < sizeLine
                · rw [grd_of _ (decide_eq_true hl)] at p'
                  have racc5 := ((racc.mono ex2).mono ex4).mono ex5
                  have pD5 := ex5.prot.1 _ pD4
                  have hD5 := keepD rh4 pD4 hD4 ex5
                  refine ⟨acc, hD5, by rw [racc5.length]; exact hl, m5, h5, acc ++ [u], ys ++ [y], ?_, ?_, pD5, upd_same, (racc5.append (.cons ru .nil)).upd pD5, p'⟩
                  · have r5 := rel4.next ex5 rh5
                    exact ⟨r5.rh.updP pD5 hD5, r5.len, fun j dj hj => let ⟨v, z1, z2⟩ := r5.env j dj hj; ⟨v, z1, z2.upd pD5⟩⟩
                  · have exA := ex14.trans ex5
                    refine ⟨exA.le, exA.prot, exA.same, exA.new, fun a o ha oi k => ?_, fun a o ha k => ?_, exA.fz⟩
                    · rw [upd_ne (ne_of_none ha hD0)]
                      exact exA.keep a o ha oi k
                    · rw [upd_ne (ne_of_none ha hD0)]
                      exact exA.dom a o ha k
                · rw [decide_eq_false hl] at p'
                  exact p'.elim
section
variable {X : Cx} {T : TF} {E : XK} {elt tg iter : Expr} {ifs : List Expr} {scope : Scope} {pos : Pos} {fi : MV} {t : MT} {e : ME}
/-- a comprehension, its test under the maker's invariant -/
theorem de_lcI (r : Bool) (p : Pat) (own : List (Str × Nat)) (cm : X.calm = true) (nd : X.N.Nodup) (hi : DI X T E tg iter fi) (bo : BlkOk X.N X.env.scope scope own)
    (hg : ∀ (z : Shared) (G : Hp) (C : Addr) (cl : List (Str × Addr)) (fp : List Addr), PG (X.blk z G scope (compEnvC scope cl C X.env) fp) tg (p.tg X.K))
    (ht : ∀ (τ : L2.St) (ps : List (Addr × Obj)) (z : Shared) (G : Hp) (C : Addr) (cl : List (Str × Addr)) (fp : List Addr), Bck X (X.blk z G scope (compEnvC scope cl C X.env) fp) ps τ →
      PTs (X.blk z G scope (compEnvC scope cl C X.env) fp) ifs (fun τ2 G K => wipe τ2 (own.map (·.2)) = wipe τ (own.map (·.2)) ∧ LT (gX X T) NoE t τ2 G K))
    (he : ∀ (z : Shared) (G : Hp) (C : Addr) (cl : List (Str × Addr)) (fp : List Addr), DE (X.blk z G scope (compEnvC scope cl C X.env) fp) T NoE elt e)
    (hp : ∀ i ∈ p.slots, i ∈ own.map (·.2) := by decide) (hs : ∀ x, foldedSetIterable iter X.env x = pure x := by intro _; rfl) : DE X T E (.ListComp elt [⟨tg, iter, ifs, 0⟩] scope pos) (lcE r fi p t e (own.map (·.2))) :=
  PE.imp (pe_lcI (tt := fun τ τ2 G K => wipe τ2 (own.map (·.2)) = wipe τ (own.map (·.2)) ∧ LT (gX X T) NoE t τ2 G K) (te := LE (gX X T) NoE e) cm nd hi bo hg ht he hs) fun _ _ _ q => redLcI hp q
end
theorem wipe_get {σ : L2.St} {j : Nat} : ∀ {vs : List Nat}, j ∉ vs → (wipe σ vs)[j]? = σ[j]?
  | [], _ => rfl
  | v :: vs, h => by
    unfold wipe
    rw [List.getElem?_set_ne (fun z => h (by rw [z]; exact List.mem_cons_self))]
    exact wipe_get fun z => h (List.mem_cons_of_mem _ z)
/-- again(f, x), f a kept lambda: vs the block's own slots -/
def againE (vs : List Nat) (N : Nat) (body : ME → MS) (fbs : List ME) (tA : MA) : ME := fun en h => (tA en h).bind fun ds h1 => grd (decide (ds.length = 2)) (noErr (fnC N (body (deedE 0 fbs (wipeE en vs))) ds h1))
section
variable {X : Cx}
/-- as the def stands -/
structure AgainOk (X : Cx) (L : List Lm) (T : TF) (x : Str) (k : Nat) (N : Nat) (body : ME → MS) : Prop where
  ex : ∃ (f : Addr) (name qual : Str) (params : Arguments) (st : List Stmt) (scope : Scope) (dV kV doc pm cdv ct oc : Value) (an od : Option Addr) (osl : Array (Option Value)) (Ns : List Str) (a1 a2 : Str),
    X.K.lookup f = some ⟨oc, od, .func (PySem.W.fnOf name qual params st scope dV kV doc pm an cdv ct), osl⟩ ∧ PySem.W.codeIn X.K cdv qual = true ∧ FnScope Ns [a1, a2] scope ∧ X.mg x = some (.ref f) ∧ PySem.W.keepIn X.K (.ref f) = true ∧
    Binds X.K (PySem.W.fnOf name qual params st scope dV kV doc pm an cdv ct) [a1, a2] [] ∧ Ns.length = N ∧ Ns[0]? = some a1 ∧ Vis scope a1 ∧ (a1 == ("__debug__" : Str)) = false ∧ (a1 == ("__classdict__" : Str)) = false ∧
    ∀ (ev : List (V × D)) (dF : ME) (s : Shared) (H : Hp), Room k (X.A.deeper (envOfC qual scope s.heap.objs.size f cdv)) →
      (∀ p1 p2, DE (callee X Ns qual scope f cdv s H NoE) (envT (lamT X L T) ev) NoE (.Call (.Name a1 p1) [] [] p2) dF) → DSs (callee X Ns qual scope f cdv s H NoE) (envT (lamT X L T) ev) NoE st (body dF)
/-- the test of the comprehension -/
theorem pt_again {x : Str} {k N : Nat} {body : ME → MS} {L : List Lm} {T : TF} {fbs : List ME} {vs : List Nat} {z : Shared} {G : Hp} {scope : Scope} {cenv : Env} {fp : List Addr} {ps : List (Addr × Obj)} {τ : L2.St} {e : Expr} {es : List Expr} {tA : MA} {p pos pos2 : Pos}
    (B : Bck X (X.blk z G scope cenv fp) ps τ) (hL : ∀ l ∈ L, LmOk X l) (A : AgainOk X L T x (k + 1) N body) (hr : Room (k + 2) X.A)
    (hb : ∀ (ev : List (V × D)) (n : Nat) (l : Lm) (fb : ME), L[n]? = some l → fbs[n]? = some fb → ∀ (A : Around) (outer : List Env) (s : Shared) (H : Hp) (f c' : Addr), Room k (A.deeper (LamX.lamEnv X l.2.2 s.heap.objs.size f c')) → DE (lamN X A outer s H NoE l.2.2 f c') (envT (lamT X L T) ev) NoE l.2.1 fb)
    (ha : DA (X.blk z G scope cenv fp) (lamT X L T) NoE (e :: es) tA) (hg : Gl (X.blk z G scope cenv fp) x) (hdb : (x == ("__debug__" : Str)) = false := by decide)
    (he : starEach (e :: es) cenv = (false, eval e cenv) :: starEach es cenv := by rfl) (hpl : (backTo pos (starEach es cenv)).any (·.1) = false := by rfl) :
    PTs (X.blk z G scope cenv fp) [.UnaryOp .Not (.Call (.Name x p) (e :: es) [] pos) pos2] (fun τ2 G2 K => wipe τ2 vs = wipe τ vs ∧ LT (gX X (lamT X L T)) NoE (notT (tst (againE vs N body fbs tA))) τ2 G2 K) := by
  obtain ⟨f, name, qual, params, st, sg, dV, kV, doc, pm, cdv, ct, oc, an, od, osl, Ns, a1, a2, lk, hcd, S, hm, hk, hbd, eN, hN, hv, d1, d2, hbody⟩ := A.ex
  subst eN
  have c : PE (X.blk z G scope cenv fp) (.Call (.Name x p) (e :: es) [] pos) (fun τ2 G2 K => wipe τ2 vs = wipe τ vs ∧ LE (gX X (lamT X L T)) NoE (againE vs Ns.length body fbs tA) τ2 G2 K) :=
    PE.imp (pe_callI (bt := fun τ2 us G2 K => wipe τ2 vs = wipe τ vs ∧ ∃ m h en ds, Rel (gX X (lamT X L T)) m h τ2 en G2 ∧ Rvs X.K m h.length G2 us ds ∧ Post (Rv X.K) (gX X (lamT X L T)) m h.length G2 NoE K (grd (decide (ds.length = 2)) (noErr (fnC Ns.length (body (deedE 0 fbs (wipeE en vs))) ds h))))
      lk hcd S hr hm hk hbd ha (fun τ2 pins z2 G2 us K J ⟨hw, m, h, en, ds, rel, rv, post⟩ => ?_) hg hdb he hpl) fun τ2 G2 K ⟨hw, m, h, en, rel, post⟩ => chain rel post fun m1 h1 H1 v d e1 rel1 rv1 p1 => ⟨hw, m1, h1, en, d, rel1, rv1, p1⟩
  · refine pts_one (PT.imp (pt_not (pt_val c (by intro _; rfl))) fun τ2 G2 K ⟨hw, m, h, en, rel, post⟩ => ⟨hw, ?_⟩)
    have post : Post RB (gX X (lamT X L T)) m h.length G2 NoE K ((againE vs Ns.length body fbs tA en h).bind fun d h1 => (asB d h1).bind fun b h2 => .ok (!b) h2) := by
      unfold notT tst at post
      cases q : againE vs Ns.length body fbs tA en h with
      | ok d h1 => rw [q] at post; exact post
      | err c h1 => rw [q] at post; exact post
      | bad => rw [q] at post; exact post
    refine chain rel post fun m1 h1 H1 v d e1 rel1 rv1 p1 => ?_
    cases d with
    | bl b =>
      cases rv1
      exact ⟨b, rfl, p1 m1 H1 _ (Ex.refl _ _ _) rel1.rh rfl⟩
    | _ => exact p1.elim
  · have I := B _ _ _ _ J
    obtain ⟨hc, post⟩ := Post.grd post
    have l2 : ds.length = 2 := of_decide_eq_true hc
    refine ⟨by rw [rv.length, l2]; rfl, fun hr2 => ?_⟩
    have same : ∀ j, j ∉ vs → τ2[j]? = τ[j]? := fun j hj => by rw [← wipe_get hj, hw, wipe_get hj]
    have back : ∀ (j : Nat) (d : D), (wipeE en vs)[j]? = some (some d) → ∃ v, τ[j]? = some (some v) ∧ Rv X.K m h.length G2 v d := fun j d hj => by
      obtain ⟨h1, h2⟩ := wipeE_some hj
      obtain ⟨v, h3, h4⟩ := rel.env j d h1
      exact ⟨v, by rw [← same j h2]; exact h3, h4⟩
    have rh2 : RH (gX X (envT (lamT X L T) (prs τ (wipeE en vs)))) m h G2 := rel.rh.reenv fun q hq => by
      obtain ⟨i, h1, h2⟩ := prs_of hq
      obtain ⟨v, h3, h4⟩ := back i _ h2
      rw [h1] at h3
      cases h3
      exact h4
    have len : τ.length = (wipeE en vs).length := by rw [wipeE_length, ← rel.len, ← wipe_length τ vs, ← hw, wipe_length]
    refine ⟨_, hbody (prs τ (wipeE en vs)) (deedE 0 fbs (wipeE en vs)) z2 G2 hr2 (fun p1 p2 => de_deed (k := k) 0 I hL hr2 len (fun j d hj => ?_) (hb _) hN hv d1 d2), m, h, _, start_rel rh2 rv, ?_⟩
    · obtain ⟨v, h3, _⟩ := back j d hj
      exact ⟨v, h3, prs_mem h3 hj⟩
    · have un : ∀ {m' : Mp} {h' : IH} {H' : Hp}, Ex m h.length G2 m' h'.length H' → RH (gX X (envT (lamT X L T) (prs τ (wipeE en vs)))) m' h' H' → RH (gX X (lamT X L T)) m' h' H' := fun ex r => RH.unenv (T := lamT X L T) r fun q hq => (rel.rh.frm q hq).mono ex
      have post := Post.cut (N := Ns.length) rel.rh (Post.noErr (E2 := NoE) post)
      unfold fnF at post
      cases q : body (deedE 0 fbs (wipeE en vs)) (ds.map some ++ List.replicate (Ns.length - ds.length) none) h with
      | nx en2 h2 => rw [q] at post; exact fun m' H' σ' b1 b2 => post m' H' _ b1 (un b1 b2.rh) .non
      | rt d h2 => rw [q] at post; exact fun m' H' v b1 b2 b3 => post m' H' v b1 (un b1 b2) b3
      | bk en2 h2 => rw [q] at post; exact post.elim
      | ct en2 h2 => rw [q] at post; exact post.elim
      | err c h2 => rw [q] at post; exact fun m' H' C b1 b2 b3 => post m' H' C b1 (un b1 b2) b3
      | bad => rw [q] at post; exact post.elim
end
end DL

set_option Elab.async false
set_option linter.all false
set_option maxRecDepth 100000
set_option autoImplicit false
set_option maxHeartbeats 1000000
/-! isinstance of one of two; what is never reached; the lambdas of a body; other kinds of objects. -/
namespace DL
open PySem PySem.Spec PyProof.Rows L2 HotX L2H
theorem isBT_ty {g : G} {m : Mp} {h : IH} {H : Hp} {v : V} {d : D} {t0 : BT} {b0 : Bool} (rh : RH g m h H) (r : Rv g.K m h.length H v d) (e0 : isBT h t0 d = some b0) : ∃ ty, TyX g.K H v ty ∧ ∀ (t : BT) (b : Bool), isBT h t d = some b → PySem.W.kitOne g.K ty (.type t.nm) = some b := by
  cases r with
  | non => exact ⟨_, .base .non, fun t b e => by cases e; exact kit_ty (by cases t <;> decide +kernel)⟩
  | bl x => exact ⟨_, .base (.bl x), fun t b e => by cases e; exact kit_ty (by cases t <;> decide +kernel)⟩
  | int x => exact ⟨_, .base (.int x), fun t b e => by cases e; exact kit_ty (by cases t <;> decide +kernel)⟩
  | str x => exact ⟨_, .base (.str x), fun t b e => by cases e; exact kit_ty (by cases t <;> decide +kernel)⟩
  | wd h1 h2 => exact ⟨_, .base (.str _), fun t b e => by cases e; exact kit_ty (by cases t <;> decide +kernel)⟩
  | tup h1 _ =>
    refine ⟨.type "tuple", ?_, fun t b e => by cases e; exact kit_ty (by cases t <;> decide +kernel)⟩
    rcases h1 with h1 | ⟨h1 | ⟨o, h1⟩, _⟩
    · obtain ⟨o, q1, q2⟩ := kt_cls h1
      exact .kTuple q1 q2
    · exact .base (.tup h1)
    · exact .fTuple h1
  | vl h1 _ _ => exact ⟨_, .base (.lst h1), fun t b e => by cases e; exact kit_ty (by cases t <;> decide +kernel)⟩
  | fl h1 _ =>
    refine ⟨.type "list", ?_, fun t b e => by cases e; exact kit_ty (by cases t <;> decide +kernel)⟩
    rcases h1 with h1 | ⟨h1 | ⟨o, h1⟩, _⟩
    · obtain ⟨o, q1, q2⟩ := kl_cls h1
      exact .kList q1 q2
    · exact .base (.lst h1)
    · exact .base (.frz h1)
  | ref hi =>
    rename_i i
    unfold isBT at e0
    dsimp only at e0
    split at e0
    · rename_i q
      obtain ⟨vs, h1, _⟩ := rh.obj i _ q
      exact ⟨_, .base (.lst h1), fun t b e => by
        unfold isBT at e
        dsimp only at e
        rw [q] at e
        cases e
        exact kit_ty (by cases t <;> decide +kernel)⟩
    · rename_i q
      obtain ⟨vs, h1, _⟩ := rh.obj i _ q
      exact ⟨_, .base (.dK h1), fun t b e => by
        unfold isBT at e
        dsimp only at e
        rw [q] at e
        cases e
        exact kit_ty (by cases t <;> decide +kernel)⟩
    · cases e0
/-- isinstance(x, (a, b)) -/
def isi2D (a b : BT) (d : D) (h : IH) : Out D := match isBT h a d, isBT h b d with
  | some x, some y => .ok (.bl (x || y)) h
  | _, _ => .bad
section
variable {X : Cx} {T : TF} {E : XK} {e : Expr} {f : ME} {pos : Pos}
theorem de_isi2 (a b : BT) {x y : Str} {k : Nat} {p p1 p2 p3 : Pos} (hm : X.mg "isinstance" = none) (hx : X.mg x = none) (hy : X.mg y = none) (hvx : bootBuiltins x = some (.type a.nm)) (hvy : bootBuiltins y = some (.type b.nm)) (ha : DE X T E e f)
    (hg : Gl X "isinstance" := by rfl) (hgx : Gl X x := by rfl) (hgy : Gl X y := by rfl) (hn : x ≠ "__name__" := by decide) (hn2 : y ≠ "__name__" := by decide) (hdb : (x == ("__debug__" : Str)) = false := by decide) (hdb2 : (y == ("__debug__" : Str)) = false := by decide)
    (hs1 : starEach [e, .Tuple [.Name x p1, .Name y p2] k p3] X.env = (false, eval e X.env) :: starEach [.Tuple [.Name x p1, .Name y p2] k p3] X.env := by rfl) (hpl : (backTo pos (starEach [.Tuple [.Name x p1, .Name y p2] k p3] X.env)).any (·.1) = false := by rfl) :
    DE X T E (.Call (.Name "isinstance" p) [e, .Tuple [.Name x p1, .Name y p2] k p3] [] pos) (op1 (isi2D a b) f) :=
  PE.imp (pe_callB call_isiT hg hm boot_isinstance (pa_cons ha (pa_cons (pe_tup (pa_cons (pe_bltn (v := .ty a.nm) hgx hx hvx rfl hn hdb) (pa_cons (pe_bltn (v := .ty b.nm) hgy hy hvy rfl hn2 hdb2) pa_nil rfl) rfl)) pa_nil rfl) hs1) (by decide) (by decide) hs1 hpl) fun σ H Q ⟨m, h, en, rel, p⟩ => chain rel p fun m1 h1 H1 v d e1 rel1 rv1 p1 => by
    unfold isi2D at p1
    split at p1
    case h_2 => exact p1.elim
    rename_i u w q1 q2
    obtain ⟨ty, k1, k2⟩ := isBT_ty rel1.rh rv1 q1
    refine ⟨by show 2 ≤ sizeLine; decide, fun tp hp => ?_⟩
    have ex := Ex.fresh (m := m1) (n := h1.length) (o := .tup [.ty a.nm, .ty b.nm]) hp NT.tup
    have rh2 := rel1.rh.fresh (o := .tup [.ty a.nm, .ty b.nm]) hp NT.tup
    obtain ⟨ty, k1, k2⟩ := isBT_ty rh2 (rv1.mono ex) q1
    have z1 := k2 a u q1
    have z2 := k2 b w q2
    refine ⟨v, tp, [.ty a.nm, .ty b.nm], ty, [.type a.nm, .type b.nm], u || w, rfl, upd_same, .cons (.ty _) (.cons (.ty _) .nil), k1, ?_, p1 m1 _ _ ex rh2 (.bl _)⟩
    refine kitAny_cons (b := u) z1 (fun hu => ?_) (fun hu => by rw [hu]; rfl)
    subst hu
    refine kitAny_cons (b := w) z2 (fun hw => ?_) (fun hw => by rw [hw]; rfl)
    subst hw
    exact kitAny_nil
end
/-- what is never reached -/
def badS : MS := fun _ _ => .bad
section
variable {X : Cx} {T : TF} {E : XK}
theorem dss_bad {sts : List Stmt} : DSs X T E sts badS := ⟨fun _ _ _ _ _ _ ⟨_, _, _, _, p⟩ => p.elim⟩
theorem ds_bad {st : Stmt} : DS X T E st badS := ⟨fun _ _ _ _ _ _ ⟨_, _, _, _, p⟩ => p.elim⟩
/-! ### other kinds of objects -/
def isX : O → Bool
  | .ext (_ + 1) _ => true
  | _ => false
def noX (b : MS) : MS := fun en h => if h.all (fun o => !isX o) then b en h else .bad
theorem RH.toLam {K : PySem.W.Frag} {mg : Str → Option Value} {L : List Lm} {m : Mp} {h : IH} {H : Hp} (hn : h.all (fun o => !isX o) = true) (r : RH ⟨K, mg, T⟩ m h H) : RH ⟨K, mg, lamT X L T⟩ m h H where
  obj := fun i o hi => by
    have q := r.obj i o hi
    cases o with
    | ext t ds =>
      cases t with
      | zero => exact q
      | succ t =>
        rw [List.all_eq_true] at hn
        have z := hn _ (List.mem_of_getElem? hi)
        cases z
    | lst ds => exact q
    | dct ds => exact q
    | ins c ds => exact q
    | frz ds => exact q
  inj := r.inj
  tab := r.tab
  frm := r.frm
  prt := r.prt
  npr := r.npr
  fz1 := r.fz1
  fz2 := r.fz2
  fz3 := r.fz3
theorem RH.ofLam {K : PySem.W.Frag} {mg : Str → Option Value} {L : List Lm} {tb : List (Addr × Str)} {m : Mp} {h : IH} {H : Hp} (r : RH ⟨K, mg, lamT X L (.of tb)⟩ m h H) : RH ⟨K, mg, .of tb⟩ m h H where
  obj := fun i o hi => by
    have q := r.obj i o hi
    cases o with
    | ext t ds =>
      cases t with
      | zero => exact q
      | succ t =>
        obtain ⟨φ, vs, q1, q2, q3, q4, q5⟩ := q
        exact ⟨φ, vs, q1, q2, trivial, fun _ _ z => z.elim, q5⟩
    | lst ds => exact q
    | dct ds => exact q
    | ins c ds => exact q
    | frz ds => exact q
  inj := r.inj
  tab := r.tab
  frm := r.frm
  prt := r.prt
  npr := r.npr
  fz1 := r.fz1
  fz2 := r.fz2
  fz3 := r.fz3
theorem dss_lam {L : List Lm} {sts : List Stmt} {b : MS} (hT : ∃ tb, T = .of tb) (hb : DSs X (lamT X L T) E sts b) : DSs X T E sts (noX b) := by
  obtain ⟨tb, rfl⟩ := hT
  refine PSs.imp hb fun D σ H ⟨m, h, en, rel, p⟩ => ?_
  unfold noX at p
  split at p
  case isFalse => exact p.elim
  rename_i hn
  have un : ∀ {m' : Mp} {h' : IH} {σ' : L2.St} {en' : En} {H' : Hp}, Rel (gX X (lamT X L (.of tb))) m' h' σ' en' H' → Rel (gX X (.of tb)) m' h' σ' en' H' := fun r => ⟨r.rh.ofLam, r.len, r.env⟩
  refine ⟨m, h, en, ⟨rel.rh.toLam hn, rel.len, rel.env⟩, ?_⟩
  cases q : b en h with
  | nx en2 h2 => rw [q] at p; exact fun m' H' σ' c1 c2 => p m' H' σ' c1 (un c2)
  | rt d h2 => rw [q] at p; exact fun m' H' v c1 c2 c3 => p m' H' v c1 c2.ofLam c3
  | bk en2 h2 => rw [q] at p; exact fun m' H' σ' c1 c2 => p m' H' σ' c1 (un c2)
  | ct en2 h2 => rw [q] at p; exact fun m' H' σ' c1 c2 => p m' H' σ' c1 (un c2)
  | err c h2 => rw [q] at p; exact fun m' H' C c1 c2 c3 => p m' H' C c1 c2.ofLam c3
  | bad => rw [q] at p; exact p.elim
end
/-! ### the lambdas of a body -/
def lamOf1 : Expr → Option Lm
  | .Lambda p b s _ => some (p, b, s)
  | _ => none
def lamOf : Stmt → Option Lm
  | .Assign _ (.List [e] _) _ => lamOf1 e
  | .Expr (.Call _ [e] _ _) _ => lamOf1 e
  | _ => none
def forBody : Stmt → List Stmt
  | .For _ _ b _ _ => b
  | _ => []
end DL

set_option Elab.async false
set_option linter.all false
set_option maxRecDepth 100000
set_option autoImplicit false
set_option maxHeartbeats 1000000
/-! A def of plain data that tells a new list of plain data: run from an empty heap. -/
namespace DL
open PySem PySem.Spec PyProof.Rows L2
mutual
def noL : D → Bool
  | .non => true
  | .bl _ => true
  | .int _ => true
  | .str _ => true
  | .wd _ => true
  | .tup xs => noLs xs
  | .vl _ => false
  | .fl _ => false
  | .ref _ => false
def noLs : List D → Bool
  | [] => true
  | x :: xs => noL x && noLs xs
end
def fnR (N : Nat) (b : MS) : List D → IH → Out D := fun ds h => match optAll (fz 0 h 3) ds with
  | some ds' => (match fnF N b ds' [] with
    | .ok (.ref j) h' => (match h'[j]? with
      | some (.lst xs) => (match optAll (pz h' 3) xs with
        | some ys => if noLs ys then .ok (.ref h.length) (h ++ [.lst ys]) else .bad
        | none => .bad)
      | _ => .bad)
    | _ => .bad)
  | none => .bad
section
variable {K : PySem.W.Frag} {m : Mp} {n : Nat} {H : Hp} {p : Addr} {us : List V}
theorem Off.tupPut {a : Addr} {vs : List V} (hl : H p = some (.lst us)) (r : Rd H a (.tup vs)) (q : Off m n a) : Off (put m n p) (n + 1) a := ⟨q.1, fun i hi z => by
  by_cases h1 : i = n
  · rw [h1, put_same] at z
    subst z
    rcases r with r | ⟨o, r⟩ <;> rw [hl] at r <;> cases r
  · rw [put_ne h1] at z
    exact q.2 i (by omega) z⟩
mutual
theorem Rv.noPut (hl : H p = some (.lst us)) : ∀ {v : V} {d : D}, Rv K m n H v d → noL d = true → Rv K (put m n p) (n + 1) H v d
  | _, _, .non, _ => .non
  | _, _, .bl b, _ => .bl b
  | _, _, .int i, _ => .int i
  | _, _, .str x, _ => .str x
  | _, _, .wd h1 h2, _ => .wd h1 h2
  | _, _, .tup (.inl h) r, e => .tup (.inl h) (Rvs.noPut hl r e)
  | _, _, .tup (.inr h) r, e => .tup (.inr ⟨h.1, h.2.tupPut hl h.1⟩) (Rvs.noPut hl r e)
  | _, _, .vl _ _ _, e => nomatch e
  | _, _, .fl _ _, e => nomatch e
  | _, _, .ref _, e => nomatch e
theorem Rvs.noPut (hl : H p = some (.lst us)) : ∀ {vs : List V} {ds : List D}, Rvs K m n H vs ds → noLs ds = true → Rvs K (put m n p) (n + 1) H vs ds
  | _, _, .nil, _ => .nil
  | _, _, .cons a b, e => by
    have e : (noL _ && noLs _) = true := e
    rw [Bool.and_eq_true] at e
    exact .cons (Rv.noPut hl a e.1) (Rvs.noPut hl b e.2)
end
end
theorem pz_all {g : G} {m m' : Mp} {h h' : IH} {H H' : Hp} (r : RH g m h H) (r' : RH g m' h' H') (e : Ex m 0 H m' h'.length H') {ys : List D} : ∀ {vs : List V} {xs : List D}, Rvs g.K m' h'.length H' vs xs → optAll (pz h' 3) xs = some ys → Rvs g.K m h.length H' vs ys := by
  intro vs xs rv q
  have z := optAll_ok q
  clear q
  induction z generalizing vs with
  | nil => cases rv; exact .nil
  | cons h1 _ ih =>
    cases rv with
    | cons r1 r2 => exact .cons (pz_ok r r' e 3 r1 h1) (ih r2)
theorem RH.adopt {g : G} {m m' : Mp} {h h' : IH} {H H' : Hp} {j : Nat} {vs : List V} {ys : List D} (r : RH g m h H) (tb : LamX.Tabs g.T.tb H') (e : Ex m 0 H m' h'.length H') (hj : j < h'.length) (hl : H' (m' j) = some (.lst vs)) (rv : Rvs g.K m h.length H' vs ys) (nl : noLs ys = true) :
    Ex m h.length H (put m h.length (m' j)) (h ++ [O.lst ys]).length H' ∧ RH g (put m h.length (m' j)) (h ++ [.lst ys]) H' := by
  have hlen : (h ++ [O.lst ys]).length = h.length + 1 := by simp
  have none : ∀ o, H (m' j) = some o → ¬ NT o := e.new j (Nat.zero_le _) hj
  have kp : ∀ a o, H a = some o → NT o → H' a = some o := fun a o ha k => e.keep a o ha (fun i hi => absurd hi (Nat.not_lt_zero i)) k
  have ne : ∀ i, i < h.length → m i ≠ m' j := fun i hi z => by
    obtain ⟨u, e1, k⟩ := r.is hi
    rw [z] at e1
    exact none u e1 k
  have ex : Ex m h.length H (put m h.length (m' j)) (h.length + 1) H' := by
    refine ⟨Nat.le_succ _, ⟨fun _ z => z, fun _ z => .inl z⟩, fun i hi => put_ne (Nat.ne_of_lt hi), fun i h1 h2 o ho => ?_, fun a o ha _ k => kp a o ha k, e.dom, fun _ _ z => z⟩
    have : i = h.length := by omega
    subst this
    rw [put_same] at ho
    exact none o ho
  refine ⟨by rw [hlen]; exact ex, ?_⟩
  refine ⟨fun i u hi => ?_, fun a b ha hb q => ?_, tb, fun q hq => by rw [hlen]; exact (r.frm q hq).mono ex, fun a z => ?_, fun i hi z => ?_, fun i u hi nf nx => ?_, fun a u z => ?_, r.fz3⟩
  · rw [hlen]
    by_cases h1 : i < h.length
    · rw [List.getElem?_append_left h1] at hi
      have q := r.obj i u hi
      obtain ⟨z, e1, k⟩ := q.is
      rw [put_ne (Nat.ne_of_lt h1)]
      exact q.mono ex (by rw [e1]; exact kp _ _ e1 k)
    · have : i = h.length := by
        have := (List.getElem?_eq_some_iff.mp hi).1
        omega
      subst this
      simp at hi
      subst hi
      rw [put_same]
      exact ⟨vs, hl, rv.noPut hl nl⟩
  · rw [hlen] at ha hb
    by_cases h1 : a = h.length
    · by_cases h2 : b = h.length
      · rw [h1, h2]
      · rw [h1, put_same, put_ne h2] at q
        exact absurd q.symm (ne b (by omega))
    · by_cases h2 : b = h.length
      · rw [h2, put_same, put_ne h1] at q
        exact absurd q (ne a (by omega))
      · rw [put_ne h1, put_ne h2] at q
        exact r.inj a b (by omega) (by omega) q
  · obtain ⟨o, e1, k⟩ := r.prt a z
    exact e.dom a o e1 k
  · rw [hlen] at hi
    by_cases h1 : i = h.length
    · rw [h1, put_same] at z
      obtain ⟨o, e1, k⟩ := r.prt _ z
      exact none o e1 k
    · rw [put_ne h1] at z
      exact r.npr i (by omega) z
  · show m.F (put m h.length (m' j) i) = Option.none
    by_cases h1 : i < h.length
    · rw [List.getElem?_append_left h1] at hi
      rw [put_ne (Nat.ne_of_lt h1)]
      exact r.fz1 i u hi nf nx
    · have : i = h.length := by
        have := (List.getElem?_eq_some_iff.mp hi).1
        omega
      subst this
      rw [put_same]
      cases q : m.F (m' j) with
      | none => rfl
      | some w =>
        obtain ⟨o, e1, k⟩ := r.fz2 _ w q
        exact absurd k (none o e1)
  · obtain ⟨o, e1, k⟩ := r.fz2 a u z
    exact e.dom a o e1 k
section
variable {P : Program} {w : World} {K : PySem.W.Frag} {mg : Str → Option Value} {base : Heap} {T : TF}
theorem fn_okR {x qual : Str} {ar : Arguments} {body : List Stmt} {sc : Scope} {f : Addr} {fd : FuncData} {N ps : List Str} {k : Nat} {b : MS} (F : FunD K x qual ar body sc [] [] f fd) (S : FnScope N ps sc) (hb : BodyOk P w K mg base (envT T []) qual sc body N f fd.code k b) :
    FnOk P w K mg base (L2N.CX P w) (k + 1) f fd ps (SpOf ⟨K, mg, T⟩ ps.length (fnR N.length b)) :=
  (fn_ok F S hb).imp fun vs H Q E ⟨hl, m, h, ds, rh, rv, p⟩ => by
    have rh0 : RH ⟨K, mg, envT T []⟩ m h H := rh.reenv fun _ z => nomatch z
    unfold fnR at p
    cases q : optAll (fz 0 h 3) ds with
    | none => rw [q] at p; exact p.elim
    | some ds' =>
      rw [q] at p
      dsimp only at p
      refine ⟨hl, m, [], ds', rh0.nil rfl, fz_all rh rv q, ?_⟩
      split at p
      case h_2 => exact p.elim
      rename_i j h' q2
      rw [q2]
      split at p
      case h_2 => exact p.elim
      rename_i xs q3
      split at p
      case h_2 => exact p.elim
      rename_i ys q4
      split at p
      case isFalse => exact p.elim
      rename_i nl
      intro m' H' v a1 a2 a3
      have hj : j < h'.length := (List.getElem?_eq_some_iff.mp q3).1
      cases a3
      obtain ⟨ws, y1, y2⟩ := a2.obj j _ q3
      have rw2 : Rvs K m h.length H' ws ys := pz_all rh0 a2 a1 y2 q4
      obtain ⟨ex, rh2⟩ := RH.adopt rh a2.tab a1 hj y1 rw2 nl
      have z := Rv.ref (K := K) (m := put m h.length (m' j)) (n := (h ++ [O.lst ys]).length) (H := H') (i := h.length) (by simp)
      rw [put_same] at z
      exact p _ H' _ ex rh2 z
end
end DL

set_option Elab.async false
set_option linter.all false
set_option maxRecDepth 100000
set_option maxHeartbeats 0
namespace GK
open PySem PySem.Spec PyProof.Rows L2 DL HotX L2H
def top (i : Nat) : Stmt := PySem.Challenge.pw_cordboard_k90_again_and_shared.main.body.getD i (.Pass ⟨0, 0, 0, 0⟩)
abbrev nE : Nat := 9
abbrev st__law_cell : Stmt := top 51
abbrev st__law_drawn : Stmt := top 52
abbrev st_is_count : Stmt := top 18
abbrev st_Line___init__ : Stmt := (C8.clsBody (top 20)).getD 0 (.Pass ⟨0, 0, 0, 0⟩)
abbrev st_Cord___init__ : Stmt := (C8.clsBody (top 21)).getD 0 (.Pass ⟨0, 0, 0, 0⟩)
abbrev st_Board___init__ : Stmt := (C8.clsBody (top 22)).getD 0 (.Pass ⟨0, 0, 0, 0⟩)
abbrev st_Board_need_line : Stmt := (C8.clsBody (top 22)).getD 1 (.Pass ⟨0, 0, 0, 0⟩)
abbrev st_need_truth : Stmt := top 19
abbrev st_Line_twin : Stmt := (C8.clsBody (top 20)).getD 1 (.Pass ⟨0, 0, 0, 0⟩)
abbrev st_Cord_twin : Stmt := (C8.clsBody (top 21)).getD 1 (.Pass ⟨0, 0, 0, 0⟩)
abbrev st_Board_keep : Stmt := (C8.clsBody (top 22)).getD 4 (.Pass ⟨0, 0, 0, 0⟩)
abbrev st_Line_hook : Stmt := (C8.clsBody (top 20)).getD 2 (.Pass ⟨0, 0, 0, 0⟩)
abbrev st_Board_look : Stmt := (C8.clsBody (top 22)).getD 12 (.Pass ⟨0, 0, 0, 0⟩)
abbrev st_Board_hook : Stmt := (C8.clsBody (top 22)).getD 6 (.Pass ⟨0, 0, 0, 0⟩)
abbrev st_Board_need_cord : Stmt := (C8.clsBody (top 22)).getD 2 (.Pass ⟨0, 0, 0, 0⟩)
abbrev st_Board_need_end : Stmt := (C8.clsBody (top 22)).getD 3 (.Pass ⟨0, 0, 0, 0⟩)
abbrev st_Board_holder : Stmt := (C8.clsBody (top 22)).getD 7 (.Pass ⟨0, 0, 0, 0⟩)
abbrev st_Board_plug : Stmt := (C8.clsBody (top 22)).getD 8 (.Pass ⟨0, 0, 0, 0⟩)
abbrev st_Board_tick : Stmt := (C8.clsBody (top 22)).getD 5 (.Pass ⟨0, 0, 0, 0⟩)
abbrev st_Board_listen : Stmt := (C8.clsBody (top 22)).getD 10 (.Pass ⟨0, 0, 0, 0⟩)
abbrev st_Board_line_lamps : Stmt := (C8.clsBody (top 22)).getD 14 (.Pass ⟨0, 0, 0, 0⟩)
abbrev st_Board_lamp : Stmt := (C8.clsBody (top 22)).getD 15 (.Pass ⟨0, 0, 0, 0⟩)
abbrev st_Board_cord_lamps : Stmt := (C8.clsBody (top 22)).getD 16 (.Pass ⟨0, 0, 0, 0⟩)
abbrev st_Board_plugs : Stmt := (C8.clsBody (top 22)).getD 17 (.Pass ⟨0, 0, 0, 0⟩)
abbrev st_Board_talks : Stmt := (C8.clsBody (top 22)).getD 18 (.Pass ⟨0, 0, 0, 0⟩)
abbrev st_Board_hears : Stmt := (C8.clsBody (top 22)).getD 20 (.Pass ⟨0, 0, 0, 0⟩)
abbrev st_Board_calls : Stmt := (C8.clsBody (top 22)).getD 21 (.Pass ⟨0, 0, 0, 0⟩)
abbrev st_is_row : Stmt := top 48
abbrev st_known : Stmt := top 49
abbrev st_is_call : Stmt := top 40
abbrev st_need_calls : Stmt := top 41
abbrev st_led : Stmt := top 42
abbrev st_carried : Stmt := top 43
abbrev st_is_part : Stmt := top 27
abbrev st_is_deed : Stmt := top 28
abbrev st_part_text : Stmt := top 29
abbrev st_deed_text : Stmt := top 30
abbrev st_written : Stmt := top 31
abbrev st_part_in : Stmt := top 32
abbrev st_read : Stmt := top 33
abbrev st_greatest : Stmt := top 45
abbrev st_fewest : Stmt := top 44
abbrev st_Board_pull : Stmt := (C8.clsBody (top 22)).getD 9 (.Pass ⟨0, 0, 0, 0⟩)
abbrev st_Board_ring : Stmt := (C8.clsBody (top 22)).getD 11 (.Pass ⟨0, 0, 0, 0⟩)
abbrev st_Board_undo : Stmt := (C8.clsBody (top 22)).getD 13 (.Pass ⟨0, 0, 0, 0⟩)
abbrev st_do_deed : Stmt := top 34
abbrev st_played : Stmt := top 35
abbrev st__law_copy : Stmt := top 53
abbrev st__law_spoil : Stmt := top 54
abbrev st__law_again : Stmt := top 55
abbrev st_law : Stmt := top 56
structure Fs (P : Program) (w : World) (K : PySem.W.Frag) (mg : Str → Option Value) (base : Heap) (T : TF) : Prop where
  n_all : mg "all" = none
  n_bool : mg "bool" = none
  n_dict : mg "dict" = none
  n_enumerate : mg "enumerate" = none
  n_int : mg "int" = none
  n_isinstance : mg "isinstance" = none
  n_len : mg "len" = none
  n_list : mg "list" = none
  n_max : mg "max" = none
  n_min : mg "min" = none
  n_range : mg "range" = none
  n_sorted : mg "sorted" = none
  n_str : mg "str" = none
  n_tuple : mg "tuple" = none
  n_zip : mg "zip" = none
  g_ENDS : GloIs K mg "ENDS" (.tup [(.wd 12), (.wd 13)])
  g_FLASH : GloIs K mg "FLASH" (.int 3)
  g_LATEST : GloIs K mg "LATEST" (.int 10000)
  g_LONGEST : GloIs K mg "LONGEST" (.int 1000)
  g_MOST_CALLS : GloIs K mg "MOST_CALLS" (.int 60)
  g_MOST_CORDS : GloIs K mg "MOST_CORDS" (.int 8)
  g_MOST_DEEDS : GloIs K mg "MOST_DEEDS" (.int 200)
  g_MOST_LINES : GloIs K mg "MOST_LINES" (.int 20)
  g_MOST_TICKS : GloIs K mg "MOST_TICKS" (.int 1000000)
  g_WORDS : GloIs K mg "WORDS" (.tup [(.wd 21), (.wd 22), (.wd 23)])
  t_ENDS : GloT K mg "ENDS" [.wd 12, .wd 13]
  e_11 : ErOk K mg 11
  e_12 : ErOk K mg 12
  e_13 : ErOk K mg 13
  e_14 : ErOk K mg 14
  e_15 : ErOk K mg 15
  e_16 : ErOk K mg 16
  e_17 : ErOk K mg 17
  e_18 : ErOk K mg 18
  e_19 : ErOk K mg 19
  s_SHAPES : TabW K w mg "SHAPES" [(14, [34, 35]), (15, [34, 36, 34]), (16, [34, 36]), (17, [34, 35]), (18, [34, 35]), (19, [34]), (20, [])]
  s_TRUTHS : TruW K mg "TRUTHS" 37 38
  c_0 : ClOk K mg 0
  c_1 : ClOk K mg 1
  c_2 : ClOk K mg 2
  d__law_cell : DefF K mg "_law_cell" st__law_cell
  d__law_drawn : DefF K mg "_law_drawn" st__law_drawn
  d_is_count : DefF K mg "is_count" st_is_count
  d_Line___init__ : DefI K mg 0 "Line.__init__" st_Line___init__
  d_Cord___init__ : DefI K mg 1 "Cord.__init__" st_Cord___init__
  d_Board___init__ : DefI K mg 2 "Board.__init__" st_Board___init__
  d_Board_need_line : DefM K mg 2 "need_line" "Board.need_line" st_Board_need_line
  d_need_truth : DefF K mg "need_truth" st_need_truth
  d_Line_twin : DefM K mg 0 "twin" "Line.twin" st_Line_twin
  d_Cord_twin : DefM K mg 1 "twin" "Cord.twin" st_Cord_twin
  d_Board_keep : DefM K mg 2 "keep" "Board.keep" st_Board_keep
  d_Line_hook : DefM K mg 0 "hook" "Line.hook" st_Line_hook
  d_Board_look : DefM K mg 2 "look" "Board.look" st_Board_look
  d_Board_hook : DefM K mg 2 "hook" "Board.hook" st_Board_hook
  d_Board_need_cord : DefM K mg 2 "need_cord" "Board.need_cord" st_Board_need_cord
  d_Board_need_end : DefM K mg 2 "need_end" "Board.need_end" st_Board_need_end
  d_Board_holder : DefM K mg 2 "holder" "Board.holder" st_Board_holder
  d_Board_plug : DefM K mg 2 "plug" "Board.plug" st_Board_plug
  d_Board_tick : DefM K mg 2 "tick" "Board.tick" st_Board_tick
  d_Board_listen : DefM K mg 2 "listen" "Board.listen" st_Board_listen
  d_Board_line_lamps : DefM K mg 2 "line_lamps" "Board.line_lamps" st_Board_line_lamps
  d_Board_lamp : DefM K mg 2 "lamp" "Board.lamp" st_Board_lamp
  d_Board_cord_lamps : DefM K mg 2 "cord_lamps" "Board.cord_lamps" st_Board_cord_lamps
  d_Board_plugs : DefM K mg 2 "plugs" "Board.plugs" st_Board_plugs
  d_Board_talks : DefM K mg 2 "talks" "Board.talks" st_Board_talks
  d_Board_hears : DefM K mg 2 "hears" "Board.hears" st_Board_hears
  d_Board_calls : DefM K mg 2 "calls" "Board.calls" st_Board_calls
  d_is_row : DefF K mg "is_row" st_is_row
  d_known : DefF K mg "known" st_known
  d_is_call : DefF K mg "is_call" st_is_call
  d_need_calls : DefF K mg "need_calls" st_need_calls
  d_led : DefL K mg base T "led" st_led
  d_carried : DefF K mg "carried" st_carried
  d_is_part : DefF K mg "is_part" st_is_part
  d_is_deed : DefF K mg "is_deed" st_is_deed
  d_part_text : DefF K mg "part_text" st_part_text
  d_deed_text : DefF K mg "deed_text" st_deed_text
  d_written : DefF K mg "written" st_written
  d_part_in : DefF K mg "part_in" st_part_in
  d_read : DefF K mg "read" st_read
  d_greatest : DefF K mg "greatest" st_greatest
  d_fewest : DefF K mg "fewest" st_fewest
  d_Board_pull : DefM K mg 2 "pull" "Board.pull" st_Board_pull
  d_Board_ring : DefM K mg 2 "ring" "Board.ring" st_Board_ring
  d_Board_undo : DefM K mg 2 "undo" "Board.undo" st_Board_undo
  d_do_deed : DefF K mg "do_deed" st_do_deed
  d_played : DefF K mg "played" st_played
  d__law_copy : DefF K mg "_law_copy" st__law_copy
  d__law_spoil : DefF K mg "_law_spoil" st__law_spoil
  d__law_again : DefF K mg "_law_again" st__law_again
  d_law : DefL K mg base T "law" st_law
theorem Fs.re {P : Program} {w : World} {K : PySem.W.Frag} {mg : Str → Option Value} {base : Heap} {T T2 : TF} (Fx : Fs P w K mg base T) (h : T2.tb = T.tb) : Fs P w K mg base T2 := by
  cases T; cases T2; cases h; exact { Fx with }
section
variable {P : Program} {w : World} {K : PySem.W.Frag} {mg : Str → Option Value} {base : Heap} {T : TF}
abbrev N__law_cell : List Str := ["script", "k"]
theorem sc__law_cell : FnScope N__law_cell ["script", "k"] (defScope st__law_cell) := ⟨rfl, rfl, rfl, by decide +kernel, rfl, by decide +kernel, by decide +kernel⟩
def b__law_cell : MS := seqS (ifS (tst (op2 eqD (varE 0) (lstE false (nilA)))) (retS (op2 (mulD false) (varE 1) (cE (.int 7919)))) (passS)) (retS (op2 (addD false) (op2 ixD (varE 0) (op2 modD (varE 1) (callB lenD (consA (varE 0) (nilA))))) (op2 (mulD false) (op2 fdivD (varE 1) (callB lenD (consA (varE 0) (nilA)))) (cE (.int 104729)))))
abbrev F__law_cell : List D → IH → Out D := fnC 2 b__law_cell
theorem cal__law_cell (Fx : Fs P w K mg base T) : CalF P w K mg base T "_law_cell" 1 2 F__law_cell := by
  obtain ⟨f, fd, F, gF⟩ := Fx.d__law_cell
  have S := sc__law_cell
  refine ⟨f, fd, ["script", "k"], rfl, gF, F.kp, F.bindsN (fun _ _ _ _ _ _ us hl => match us, hl with | [_, _], _ => rfl), fn_okC (k := 0) F S (fun A outer s H E hc hr tk hp => ?_)⟩
  unfold b__law_cell
  exact dss_cons (ds_if (dt_cmp (cr_eq hr) (de_var 0) (de_lst false (da_nil))) (dss_one (ds_ret (de_mul false (de_var 1) (de_int)))) (dss_nil)) (dss_one (ds_ret (de_add false (de_item (de_var 0) (de_mod (de_var 1) (de_len Fx.n_len (da_cons (de_var 0) (da_nil))))) (de_mul false (de_fdiv (de_var 1) (de_len Fx.n_len (da_cons (de_var 0) (da_nil)))) (de_int)))))
abbrev N__law_drawn : List Str := ["cell", "k", "more"]
theorem sc__law_drawn : FnScope N__law_drawn ["cell", "k"] (defScope st__law_drawn) := ⟨rfl, rfl, rfl, by decide +kernel, rfl, by decide +kernel, by decide +kernel⟩
def b__law_drawn : MS := seqS (asgS (op2 modD (op2 (addD false) (op2 (mulD false) (varE 0) (cE (.int 6364136223846793005))) (op2 (mulD false) (op2 (addD false) (varE 1) (cE (.int 1))) (cE (.int 1442695040888963407)))) (cE (.int 340282366920938463463374607431768211507))) (nameG 2)) (seqS (asgS (op2 modD (op2 (mulD false) (varE 2) (varE 2)) (cE (.int 340282366920938463463374607431768211297))) (nameG 2)) (seqS (asgS (op2 (mulD false) (op2 (mulD false) (op2 (addD false) (op2 modD (varE 2) (cE (.int 18446744073709551557))) (cE (.int 1))) (op2 (addD false) (op2 fdivD (varE 2) (cE (.int 18446744073709551557))) (cE (.int 1)))) (varE 2)) (nameG 2)) (retS (op2 modD (varE 2) (cE (.int 340282366920938463463374607431768211507))))))
abbrev F__law_drawn : List D → IH → Out D := fnC 3 b__law_drawn
theorem cal__law_drawn (Fx : Fs P w K mg base T) : CalF P w K mg base T "_law_drawn" 1 2 F__law_drawn := by
  obtain ⟨f, fd, F, gF⟩ := Fx.d__law_drawn
  have S := sc__law_drawn
  refine ⟨f, fd, ["cell", "k"], rfl, gF, F.kp, F.bindsN (fun _ _ _ _ _ _ us hl => match us, hl with | [_, _], _ => rfl), fn_okC (k := 0) F S (fun A outer s H E hc hr tk hp => ?_)⟩
  unfold b__law_drawn
  exact dss_cons (ds_set 2 S.nd (de_mod (de_add false (de_mul false (de_var 0) (de_int)) (de_mul false (de_add false (de_var 1) (de_int)) (de_int))) (de_int))) (dss_cons (ds_set 2 S.nd (de_mod (de_mul false (de_var 2) (de_var 2)) (de_int))) (dss_cons (ds_set 2 S.nd (de_mul false (de_mul false (de_add false (de_mod (de_var 2) (de_int)) (de_int)) (de_add false (de_fdiv (de_var 2) (de_int)) (de_int))) (de_var 2))) (dss_one (ds_ret (de_mod (de_var 2) (de_int))))))
abbrev N_is_count : List Str := ["thing", "low", "high"]
theorem sc_is_count : FnScope N_is_count ["thing", "low", "high"] (defScope st_is_count) := ⟨rfl, rfl, rfl, by decide +kernel, rfl, by decide +kernel, by decide +kernel⟩
def b_is_count : MS := retS (andE (op1 (isiD .int) (varE 0)) (andE (op1 notD (op1 (isiD .bool) (varE 0))) (chE leD leD (varE 1) (varE 0) (varE 2))))
abbrev F_is_count : List D → IH → Out D := fnC 3 b_is_count
theorem cal_is_count (Fx : Fs P w K mg base T) : CalF P w K mg base T "is_count" 1 3 F_is_count := by
  obtain ⟨f, fd, F, gF⟩ := Fx.d_is_count
  have S := sc_is_count
  refine ⟨f, fd, ["thing", "low", "high"], rfl, gF, F.kp, F.bindsN (fun _ _ _ _ _ _ us hl => match us, hl with | [_, _, _], _ => rfl), fn_okC (k := 0) F S (fun A outer s H E hc hr tk hp => ?_)⟩
  unfold b_is_count
  exact dss_one (ds_ret (de_and (de_isi .int Fx.n_isinstance Fx.n_int (by decide +kernel) (de_var 0)) (de_and (de_not (de_isi .bool Fx.n_isinstance Fx.n_bool (by decide +kernel) (de_var 0))) (de_one (de_chain cr_le cr_le (de_var 1) (de_var 0) (de_var 2))))))
abbrev N_Line___init__ : List Str := ["self"]
theorem sc_Line___init__ : FnScope N_Line___init__ ["self"] (defScope st_Line___init__) := ⟨rfl, rfl, rfl, by decide +kernel, rfl, by decide +kernel, by decide +kernel⟩
def b_Line___init__ : MS := seqS (asgS (cE (.bl false)) (fldG 0 0 (varE 0))) (seqS (asgS (op2 subD (op1 negD (cE (.int 1))) (cE (.int 3))) (fldG 0 1 (varE 0))) (seqS (asgS (cE (.int 0)) (fldG 0 2 (varE 0))) (seqS (asgS (cE (.int 0)) (fldG 0 3 (varE 0))) (asgS (cE (.bl false)) (fldG 0 4 (varE 0))))))
abbrev F_Line___init__ : List D → IH → Out D := fnF 1 b_Line___init__
theorem mak_Line (Fx : Fs P w K mg base T) : MakF P w K mg base T 0 1 1 F_Line___init__ := by
  obtain ⟨C, f, fd, gC, hM, F⟩ := Fx.d_Line___init__
  have S := sc_Line___init__
  refine ⟨C, f, fd, ["self"], rfl, gC, hM, F.bindsN (fun _ _ _ _ _ _ us hl => match us, hl with | [_], _ => rfl), fn_ok (k := 0) F S (fun A outer s H E hc hr tk hp => ?_)⟩
  unfold b_Line___init__
  exact dss_cons (ds_asg (de_bl) (dg_fld 0 0 Fx.c_0 (fun E => de_var 0) (varE_ne))) (dss_cons (ds_asg (de_sub (de_neg (de_int)) (de_glob (by rfl) Fx.g_FLASH)) (dg_fld 0 1 Fx.c_0 (fun E => de_var 0) (varE_ne))) (dss_cons (ds_asg (de_int) (dg_fld 0 2 Fx.c_0 (fun E => de_var 0) (varE_ne))) (dss_cons (ds_asg (de_int) (dg_fld 0 3 Fx.c_0 (fun E => de_var 0) (varE_ne))) (dss_one (ds_asg (de_bl) (dg_fld 0 4 Fx.c_0 (fun E => de_var 0) (varE_ne)))))))
abbrev N_Cord___init__ : List Str := ["self"]
theorem sc_Cord___init__ : FnScope N_Cord___init__ ["self"] (defScope st_Cord___init__) := ⟨rfl, rfl, rfl, by decide +kernel, rfl, by decide +kernel, by decide +kernel⟩
def b_Cord___init__ : MS := seqS (asgS (lstE true (consA (cE .non) (consA (cE .non) (nilA)))) (fldG 1 0 (varE 0))) (seqS (asgS (lstE true (consA (cE (.int 0)) (consA (cE (.int 0)) (nilA)))) (fldG 1 1 (varE 0))) (seqS (asgS (cE (.bl false)) (fldG 1 2 (varE 0))) (seqS (asgS (cE (.bl false)) (fldG 1 3 (varE 0))) (seqS (asgS (cE (.int 0)) (fldG 1 4 (varE 0))) (asgS (cE .non) (fldG 1 5 (varE 0)))))))
abbrev F_Cord___init__ : List D → IH → Out D := fnF 1 b_Cord___init__
theorem mak_Cord (Fx : Fs P w K mg base T) : MakF P w K mg base T 1 1 1 F_Cord___init__ := by
  obtain ⟨C, f, fd, gC, hM, F⟩ := Fx.d_Cord___init__
  have S := sc_Cord___init__
  refine ⟨C, f, fd, ["self"], rfl, gC, hM, F.bindsN (fun _ _ _ _ _ _ us hl => match us, hl with | [_], _ => rfl), fn_ok (k := 0) F S (fun A outer s H E hc hr tk hp => ?_)⟩
  unfold b_Cord___init__
  exact dss_cons (ds_asg (de_lst true (da_cons (de_non) (da_cons (de_non) (da_nil)))) (dg_fld 1 0 Fx.c_1 (fun E => de_var 0) (varE_ne))) (dss_cons (ds_asg (de_lst true (da_cons (de_int) (da_cons (de_int) (da_nil)))) (dg_fld 1 1 Fx.c_1 (fun E => de_var 0) (varE_ne))) (dss_cons (ds_asg (de_bl) (dg_fld 1 2 Fx.c_1 (fun E => de_var 0) (varE_ne))) (dss_cons (ds_asg (de_bl) (dg_fld 1 3 Fx.c_1 (fun E => de_var 0) (varE_ne))) (dss_cons (ds_asg (de_int) (dg_fld 1 4 Fx.c_1 (fun E => de_var 0) (varE_ne))) (dss_one (ds_asg (de_non) (dg_fld 1 5 Fx.c_1 (fun E => de_var 0) (varE_ne))))))))
abbrev N_Board___init__ : List Str := ["self", "lines", "cords", "number"]
theorem sc_Board___init__ : FnScope N_Board___init__ ["self", "lines", "cords"] (defScope st_Board___init__) := ⟨rfl, rfl, rfl, by decide +kernel, rfl, by decide +kernel, by decide +kernel⟩
def b_Board___init__ : MS := seqS (ifS (orT (notT (tst (callF 3 F_is_count (consA (varE 1) (consA (cE (.int 2)) (consA (cE (.int 20)) (nilA))))))) (notT (tst (callF 3 F_is_count (consA (varE 2) (consA (cE (.int 1)) (consA (cE (.int 8)) (nilA)))))))) (raiseS 11) (passS)) (seqS (asgS (lcE false (rng1V (consA (varE 1) (nilA))) (.one 3) (yesT) (makE 0 1 F_Line___init__ nilA) [3]) (fldG 2 0 (varE 0))) (seqS (asgS (lcE false (rng1V (consA (varE 2) (nilA))) (.one 3) (yesT) (makE 1 1 F_Cord___init__ nilA) [3]) (fldG 2 1 (varE 0))) (seqS (asgS (cE (.int 0)) (fldG 2 2 (varE 0))) (seqS (asgS (cE (.int 0)) (fldG 2 3 (varE 0))) (seqS (asgS (lstE true (nilA)) (fldG 2 4 (varE 0))) (asgS (lstE true (nilA)) (fldG 2 5 (varE 0))))))))
abbrev F_Board___init__ : List D → IH → Out D := fnF 4 b_Board___init__
theorem mak_Board (Fx : Fs P w K mg base T) : MakF P w K mg base T 2 3 3 F_Board___init__ := by
  obtain ⟨C, f, fd, gC, hM, F⟩ := Fx.d_Board___init__
  have S := sc_Board___init__
  refine ⟨C, f, fd, ["self", "lines", "cords"], rfl, gC, hM, F.bindsN (fun _ _ _ _ _ _ us hl => match us, hl with | [_, _, _], _ => rfl), fn_ok (k := 2) F S (fun A outer s H E hc hr tk hp => ?_)⟩
  unfold b_Board___init__
  exact dss_cons (ds_if (DW.dt (dw_or (dt_not (dt_val (de_call ⟨cal_is_count Fx⟩ (hr.mono (by decide)) tk (da_cons (de_var 1) (da_cons (de_int) (da_cons (de_glob (by rfl) Fx.g_MOST_LINES) (da_nil))))))) (dw_or1 (dt_not (dt_val (de_call ⟨cal_is_count Fx⟩ (hr.mono (by decide)) tk (da_cons (de_var 2) (da_cons (de_int) (da_cons (de_glob (by rfl) Fx.g_MOST_CORDS) (da_nil)))))))))) (dss_one (ds_raise 11 Fx.e_11 rfl tk)) (dss_nil)) (dss_cons (ds_asg (de_lc false (.one 3) [("number", 3)] rfl S.nd (di_range1 Fx.n_range (da_cons (de_var 1) (da_nil))) (blkOk_by (by rfl)) (fun _ _ _ _ _ => pg_name S.nd rfl (by first | exact Or.inl rfl | exact Or.inr rfl)) (fun _ _ _ _ _ => dts_nil) (fun _ _ _ _ _ => de_make0 0 (mak_Line Fx) (hr.mono (by decide)) takesN0)) (dg_fld 2 0 Fx.c_2 (fun E => de_var 0) (varE_ne))) (dss_cons (ds_asg (de_lc false (.one 3) [("number", 3)] rfl S.nd (di_range1 Fx.n_range (da_cons (de_var 2) (da_nil))) (blkOk_by (by rfl)) (fun _ _ _ _ _ => pg_name S.nd rfl (by first | exact Or.inl rfl | exact Or.inr rfl)) (fun _ _ _ _ _ => dts_nil) (fun _ _ _ _ _ => de_make0 1 (mak_Cord Fx) (hr.mono (by decide)) takesN0)) (dg_fld 2 1 Fx.c_2 (fun E => de_var 0) (varE_ne))) (dss_cons (ds_asg (de_int) (dg_fld 2 2 Fx.c_2 (fun E => de_var 0) (varE_ne))) (dss_cons (ds_asg (de_int) (dg_fld 2 3 Fx.c_2 (fun E => de_var 0) (varE_ne))) (dss_cons (ds_asg (de_lst true (da_nil)) (dg_fld 2 4 Fx.c_2 (fun E => de_var 0) (varE_ne))) (dss_one (ds_asg (de_lst true (da_nil)) (dg_fld 2 5 Fx.c_2 (fun E => de_var 0) (varE_ne)))))))))
abbrev N_Board_need_line : List Str := ["self", "line"]
theorem sc_Board_need_line : FnScope N_Board_need_line ["self", "line"] (defScope st_Board_need_line) := ⟨rfl, rfl, rfl, by decide +kernel, rfl, by decide +kernel, by decide +kernel⟩
def b_Board_need_line : MS := ifS (notT (tst (callF 3 F_is_count (consA (varE 1) (consA (cE (.int 0)) (consA (op2 subD (callB lenD (consA (op1 (fldD 2 0) (varE 0)) (nilA))) (cE (.int 1))) (nilA))))))) (raiseS 11) (passS)
abbrev F_Board_need_line : List D → IH → Out D := fnC 2 b_Board_need_line
theorem met_Board_need_line (Fx : Fs P w K mg base T) : MetF P w K mg base T 2 "need_line" 2 2 F_Board_need_line := by
  obtain ⟨C, f, fd, gC, hC, hM, F⟩ := Fx.d_Board_need_line
  have S := sc_Board_need_line
  refine ⟨C, f, fd, ["self", "line"], rfl, gC, hC, hM, F.bindsN (fun _ _ _ _ _ _ us hl => match us, hl with | [_, _], _ => rfl), fn_okC (k := 1) F S (fun A outer s H E hc hr tk hp => ?_), by decide +kernel⟩
  unfold b_Board_need_line
  exact dss_one (ds_if (dt_not (dt_val (de_call ⟨cal_is_count Fx⟩ (hr.mono (by decide)) tk (da_cons (de_var 1) (da_cons (de_int) (da_cons (de_sub (de_len Fx.n_len (da_cons (de_fld 2 0 Fx.c_2 (de_var 0)) (da_nil))) (de_int)) (da_nil))))))) (dss_one (ds_raise 11 Fx.e_11 rfl tk)) (dss_nil))
abbrev N_need_truth : List Str := ["thing"]
theorem sc_need_truth : FnScope N_need_truth ["thing"] (defScope st_need_truth) := ⟨rfl, rfl, rfl, by decide +kernel, rfl, by decide +kernel, by decide +kernel⟩
def b_need_truth : MS := ifS (notT (tst (op1 (isiD .bool) (varE 0)))) (raiseS 12) (passS)
abbrev F_need_truth : List D → IH → Out D := fnC 1 b_need_truth
theorem cal_need_truth (Fx : Fs P w K mg base T) : CalF P w K mg base T "need_truth" 1 1 F_need_truth := by
  obtain ⟨f, fd, F, gF⟩ := Fx.d_need_truth
  have S := sc_need_truth
  refine ⟨f, fd, ["thing"], rfl, gF, F.kp, F.bindsN (fun _ _ _ _ _ _ us hl => match us, hl with | [_], _ => rfl), fn_okC (k := 0) F S (fun A outer s H E hc hr tk hp => ?_)⟩
  unfold b_need_truth
  exact dss_one (ds_if (dt_not (dt_val (de_isi .bool Fx.n_isinstance Fx.n_bool (by decide +kernel) (de_var 0)))) (dss_one (ds_raise 12 Fx.e_12 rfl tk)) (dss_nil))
abbrev N_Line_twin : List Str := ["self", "other"]
theorem sc_Line_twin : FnScope N_Line_twin ["self"] (defScope st_Line_twin) := ⟨rfl, rfl, rfl, by decide +kernel, rfl, by decide +kernel, by decide +kernel⟩
def b_Line_twin : MS := seqS (asgS (makE 0 1 F_Line___init__ nilA) (nameG 1)) (seqS (asgS (tupE (consA (op1 (fldD 0 0) (varE 0)) (consA (op1 (fldD 0 1) (varE 0)) (consA (op1 (fldD 0 4) (varE 0)) (nilA))))) (tupG 3 (consG (fldG 0 0 (varE 1)) (consG (fldG 0 1 (varE 1)) (consG (fldG 0 4 (varE 1)) (nilG)))))) (seqS (asgS (tupE (consA (op1 (fldD 0 2) (varE 0)) (consA (op1 (fldD 0 3) (varE 0)) (nilA)))) (tupG 2 (consG (fldG 0 2 (varE 1)) (consG (fldG 0 3 (varE 1)) (nilG))))) (retS (varE 1))))
abbrev F_Line_twin : List D → IH → Out D := fnF 2 b_Line_twin
theorem met_Line_twin (Fx : Fs P w K mg base T) : MetF P w K mg base T 0 "twin" 3 1 F_Line_twin := by
  obtain ⟨C, f, fd, gC, hC, hM, F⟩ := Fx.d_Line_twin
  have S := sc_Line_twin
  refine ⟨C, f, fd, ["self"], rfl, gC, hC, hM, F.bindsN (fun _ _ _ _ _ _ us hl => match us, hl with | [_], _ => rfl), fn_ok (k := 2) F S (fun A outer s H E hc hr tk hp => ?_), by decide +kernel⟩
  unfold b_Line_twin
  exact dss_cons (ds_set 1 S.nd (de_make0 0 (mak_Line Fx) (hr.mono (by decide)) tk)) (dss_cons (ds_asg (de_tup (da_cons (de_fld 0 0 Fx.c_0 (de_var 0)) (da_cons (de_fld 0 1 Fx.c_0 (de_var 0)) (da_cons (de_fld 0 4 Fx.c_0 (de_var 0)) (da_nil))))) (dg_tup rfl (dgs_cons (dg_fld 0 0 Fx.c_0 (fun E => de_var 1) (varE_ne)) (dgs_cons (dg_fld 0 1 Fx.c_0 (fun E => de_var 1) (varE_ne)) (dgs_cons (dg_fld 0 4 Fx.c_0 (fun E => de_var 1) (varE_ne)) (dgs_nil)))))) (dss_cons (ds_asg (de_tup (da_cons (de_fld 0 2 Fx.c_0 (de_var 0)) (da_cons (de_fld 0 3 Fx.c_0 (de_var 0)) (da_nil)))) (dg_tup rfl (dgs_cons (dg_fld 0 2 Fx.c_0 (fun E => de_var 1) (varE_ne)) (dgs_cons (dg_fld 0 3 Fx.c_0 (fun E => de_var 1) (varE_ne)) (dgs_nil))))) (dss_one (ds_ret (de_var 1)))))
abbrev N_Cord_twin : List Str := ["self", "other"]
theorem sc_Cord_twin : FnScope N_Cord_twin ["self"] (defScope st_Cord_twin) := ⟨rfl, rfl, rfl, by decide +kernel, rfl, by decide +kernel, by decide +kernel⟩
def b_Cord_twin : MS := seqS (asgS (makE 1 1 F_Cord___init__ nilA) (nameG 1)) (seqS (asgS (tupE (consA (callB (one (listD true)) (consA (op1 (fldD 1 0) (varE 0)) (nilA))) (consA (callB (one (listD true)) (consA (op1 (fldD 1 1) (varE 0)) (nilA))) (nilA)))) (tupG 2 (consG (fldG 1 0 (varE 1)) (consG (fldG 1 1 (varE 1)) (nilG))))) (seqS (asgS (tupE (consA (op1 (fldD 1 2) (varE 0)) (consA (op1 (fldD 1 3) (varE 0)) (consA (op1 (fldD 1 4) (varE 0)) (nilA))))) (tupG 3 (consG (fldG 1 2 (varE 1)) (consG (fldG 1 3 (varE 1)) (consG (fldG 1 4 (varE 1)) (nilG)))))) (seqS (asgS (iteE (tst (op1 isN (op1 (fldD 1 5) (varE 0)))) (cE .non) (callB (one (listD true)) (consA (op1 (fldD 1 5) (varE 0)) (nilA)))) (fldG 1 5 (varE 1))) (retS (varE 1)))))
abbrev F_Cord_twin : List D → IH → Out D := fnF 2 b_Cord_twin
theorem met_Cord_twin (Fx : Fs P w K mg base T) : MetF P w K mg base T 1 "twin" 3 1 F_Cord_twin := by
  obtain ⟨C, f, fd, gC, hC, hM, F⟩ := Fx.d_Cord_twin
  have S := sc_Cord_twin
  refine ⟨C, f, fd, ["self"], rfl, gC, hC, hM, F.bindsN (fun _ _ _ _ _ _ us hl => match us, hl with | [_], _ => rfl), fn_ok (k := 2) F S (fun A outer s H E hc hr tk hp => ?_), by decide +kernel⟩
  unfold b_Cord_twin
  exact dss_cons (ds_set 1 S.nd (de_make0 1 (mak_Cord Fx) (hr.mono (by decide)) tk)) (dss_cons (ds_asg (de_tup (da_cons (de_list true Fx.n_list (da_cons (de_fld 1 0 Fx.c_1 (de_var 0)) (da_nil))) (da_cons (de_list true Fx.n_list (da_cons (de_fld 1 1 Fx.c_1 (de_var 0)) (da_nil))) (da_nil)))) (dg_tup rfl (dgs_cons (dg_fld 1 0 Fx.c_1 (fun E => de_var 1) (varE_ne)) (dgs_cons (dg_fld 1 1 Fx.c_1 (fun E => de_var 1) (varE_ne)) (dgs_nil))))) (dss_cons (ds_asg (de_tup (da_cons (de_fld 1 2 Fx.c_1 (de_var 0)) (da_cons (de_fld 1 3 Fx.c_1 (de_var 0)) (da_cons (de_fld 1 4 Fx.c_1 (de_var 0)) (da_nil))))) (dg_tup rfl (dgs_cons (dg_fld 1 2 Fx.c_1 (fun E => de_var 1) (varE_ne)) (dgs_cons (dg_fld 1 3 Fx.c_1 (fun E => de_var 1) (varE_ne)) (dgs_cons (dg_fld 1 4 Fx.c_1 (fun E => de_var 1) (varE_ne)) (dgs_nil)))))) (dss_cons (ds_asg (de_ifExp (dt_isN (de_fld 1 5 Fx.c_1 (de_var 0))) (de_non) (de_list true Fx.n_list (da_cons (de_fld 1 5 Fx.c_1 (de_var 0)) (da_nil)))) (dg_fld 1 5 Fx.c_1 (fun E => de_var 1) (varE_ne))) (dss_one (ds_ret (de_var 1))))))
abbrev N_Board_keep : List Str := ["self", "lines", "cords", "line", "cord"]
theorem sc_Board_keep : FnScope N_Board_keep ["self"] (defScope st_Board_keep) := ⟨rfl, rfl, rfl, by decide +kernel, rfl, by decide +kernel, by decide +kernel⟩
def b_Board_keep : MS := seqS (parS 1 2 (consA (lcE false (seqV (op1 (fldD 2 0) (varE 0))) (.one 3) (yesT) (metE 0 1 F_Line_twin (varE 3) nilA) [3]) (consA (lcE false (seqV (op1 (fldD 2 1) (varE 0))) (.one 4) (yesT) (metE 1 1 F_Cord_twin (varE 4) nilA) [4]) nilA))) (seqS (exprS (bmE appD (op1 (fldD 2 5) (varE 0)) (consA (tupE (consA (varE 1) (consA (varE 2) (consA (op1 (fldD 2 2) (varE 0)) (consA (callB (one (listD true)) (consA (op1 (fldD 2 4) (varE 0)) (nilA))) (nilA)))))) (nilA)))) (asgS (op2 (addD false) (op1 (fldD 2 3) (varE 0)) (cE (.int 1))) (fldG 2 3 (varE 0))))
abbrev F_Board_keep : List D → IH → Out D := fnF 5 b_Board_keep
theorem met_Board_keep (Fx : Fs P w K mg base T) : MetF P w K mg base T 2 "keep" 4 1 F_Board_keep := by
  obtain ⟨C, f, fd, gC, hC, hM, F⟩ := Fx.d_Board_keep
  have S := sc_Board_keep
  refine ⟨C, f, fd, ["self"], rfl, gC, hC, hM, F.bindsN (fun _ _ _ _ _ _ us hl => match us, hl with | [_], _ => rfl), fn_ok (k := 3) F S (fun A outer s H E hc hr tk hp => ?_), by decide +kernel⟩
  unfold b_Board_keep
  exact dss_cons (ds_par 1 2 rfl S.nd (da_cons (de_lc false (.one 3) [("line", 3)] rfl S.nd (di_seq (de_fld 2 0 Fx.c_2 (de_var 0))) (blkOk_by (by rfl)) (fun _ _ _ _ _ => pg_name S.nd rfl (by first | exact Or.inl rfl | exact Or.inr rfl)) (fun _ _ _ _ _ => dts_nil) (fun _ _ _ _ _ => de_meth0 (met_Line_twin Fx) (hr.mono (by decide)) takesN0 (de_var 3))) (da_cons (de_lc false (.one 4) [("cord", 4)] rfl S.nd (di_seq (de_fld 2 1 Fx.c_2 (de_var 0))) (blkOk_by (by rfl)) (fun _ _ _ _ _ => pg_name S.nd rfl (by first | exact Or.inl rfl | exact Or.inr rfl)) (fun _ _ _ _ _ => dts_nil) (fun _ _ _ _ _ => de_meth0 (met_Cord_twin Fx) (hr.mono (by decide)) takesN0 (de_var 4))) da_nil))) (dss_cons (ds_expr (de_append (de_fld 2 5 Fx.c_2 (de_var 0)) (da_cons (de_tup (da_cons (de_var 1) (da_cons (de_var 2) (da_cons (de_fld 2 2 Fx.c_2 (de_var 0)) (da_cons (de_list true Fx.n_list (da_cons (de_fld 2 4 Fx.c_2 (de_var 0)) (da_nil))) (da_nil)))))) (da_nil)))) (dss_one (ds_asg (de_add false (de_fld 2 3 Fx.c_2 (de_var 0)) (de_int)) (dg_fld 2 3 Fx.c_2 (fun E => de_var 0) (varE_ne)))))
abbrev N_Line_hook : List Str := ["self", "is_off", "clock", "step"]
theorem sc_Line_hook : FnScope N_Line_hook ["self", "is_off", "clock", "step"] (defScope st_Line_hook) := ⟨rfl, rfl, rfl, by decide +kernel, rfl, by decide +kernel, by decide +kernel⟩
def b_Line_hook : MS := seqS (ifS (tst (op2 eqD (varE 1) (op1 (fldD 0 0) (varE 0)))) (retN) (passS)) (seqS (ifS (tst (varE 1)) (seqS (asgS (op2 leD (op2 subD (varE 2) (op1 (fldD 0 1) (varE 0))) (cE (.int 3))) (fldG 0 4 (varE 0))) (asgS (varE 3) (fldG 0 3 (varE 0)))) (asgS (varE 3) (fldG 0 2 (varE 0)))) (seqS (asgS (varE 1) (fldG 0 0 (varE 0))) (asgS (varE 2) (fldG 0 1 (varE 0)))))
abbrev F_Line_hook : List D → IH → Out D := fnF 4 b_Line_hook
theorem met_Line_hook (Fx : Fs P w K mg base T) : MetF P w K mg base T 0 "hook" 1 4 F_Line_hook := by
  obtain ⟨C, f, fd, gC, hC, hM, F⟩ := Fx.d_Line_hook
  have S := sc_Line_hook
  refine ⟨C, f, fd, ["self", "is_off", "clock", "step"], rfl, gC, hC, hM, F.bindsN (fun _ _ _ _ _ _ us hl => match us, hl with | [_, _, _, _], _ => rfl), fn_ok (k := 0) F S (fun A outer s H E hc hr tk hp => ?_), by decide +kernel⟩
  unfold b_Line_hook
  exact dss_cons (ds_if (dt_cmp (cr_eq hr) (de_var 1) (de_fld 0 0 Fx.c_0 (de_var 0))) (dss_one (ds_retN)) (dss_nil)) (dss_cons (ds_if (dt_val (de_var 1)) (dss_cons (ds_asg (de_cmp cr_le (de_sub (de_var 2) (de_fld 0 1 Fx.c_0 (de_var 0))) (de_glob (by rfl) Fx.g_FLASH)) (dg_fld 0 4 Fx.c_0 (fun E => de_var 0) (varE_ne))) (dss_one (ds_asg (de_var 3) (dg_fld 0 3 Fx.c_0 (fun E => de_var 0) (varE_ne))))) (dss_one (ds_asg (de_var 3) (dg_fld 0 2 Fx.c_0 (fun E => de_var 0) (varE_ne))))) (dss_cons (ds_asg (de_var 1) (dg_fld 0 0 Fx.c_0 (fun E => de_var 0) (varE_ne))) (dss_one (ds_asg (de_var 2) (dg_fld 0 1 Fx.c_0 (fun E => de_var 0) (varE_ne))))))
abbrev N_Board_look : List Str := ["self", "cord", "off", "line"]
theorem sc_Board_look : FnScope N_Board_look ["self"] (defScope st_Board_look) := ⟨rfl, rfl, rfl, by decide +kernel, rfl, by decide +kernel, by decide +kernel⟩
def b_Board_look_0 : MS := seqS (ifS (tst (op2 (inD false) (cE .non) (op1 (fldD 1 0) (varE 1)))) (contS) (passS)) (seqS (asgS (lcE false (seqV (op1 (fldD 1 0) (varE 1))) (.one 3) (yesT) (op1 (fldD 0 0) (op2 ixD (op1 (fldD 2 0) (varE 0)) (varE 3))) [3]) (nameG 2)) (ifS (andT (tst (op1 isN (op1 (fldD 1 5) (varE 1)))) (tst (op2 eqD (varE 2) (lstE false (consA (cE (.bl true)) (consA (cE (.bl true)) (nilA))))))) (asgS (lstE true (consA (op2 ixD (op1 (fldD 1 0) (varE 1)) (cE (.int 0))) (consA (op2 ixD (op1 (fldD 1 0) (varE 1)) (cE (.int 1))) (consA (op1 (fldD 2 2) (varE 0)) (consA (cE .non) (nilA)))))) (fldG 1 5 (varE 1))) (ifS (andT (tst (op1 isNN (op1 (fldD 1 5) (varE 1)))) (andT (tst (op2 eqD (varE 2) (lstE false (consA (cE (.bl false)) (consA (cE (.bl false)) (nilA)))))) (tst (op1 isN (op2 ixD (op1 (fldD 1 5) (varE 1)) (cE (.int 3))))))) (setS (op1 (fldD 2 2) (varE 0)) (op1 (fldD 1 5) (varE 1)) (cE (.int 3))) (passS))))
def b_Board_look : MS := forS (seqV (op1 (fldD 2 1) (varE 0))) (nameG 1) (b_Board_look_0)
abbrev F_Board_look : List D → IH → Out D := fnF 4 b_Board_look
theorem met_Board_look (Fx : Fs P w K mg base T) : MetF P w K mg base T 2 "look" 1 1 F_Board_look := by
  obtain ⟨C, f, fd, gC, hC, hM, F⟩ := Fx.d_Board_look
  have S := sc_Board_look
  refine ⟨C, f, fd, ["self"], rfl, gC, hC, hM, F.bindsN (fun _ _ _ _ _ _ us hl => match us, hl with | [_], _ => rfl), fn_ok (k := 0) F S (fun A outer s H E hc hr tk hp => ?_), by decide +kernel⟩
  unfold b_Board_look
  exact dss_one (ds_for hp rfl (di_seq (de_fld 2 1 Fx.c_2 (de_var 0))) (dg_name 1 S.nd) (dss_cons (ds_if (dt_cmp cr_in (de_non) (de_fld 1 0 Fx.c_1 (de_var 1))) (dss_one (ds_continue)) (dss_nil)) (dss_cons (ds_setLc 2 false (.one 3) [("line", 3)] rfl S.nd (di_seq (de_fld 1 0 Fx.c_1 (de_var 1))) (blkOk_by (by rfl)) (fun _ _ _ _ _ => pg_name S.nd rfl (by first | exact Or.inl rfl | exact Or.inr rfl)) (fun _ _ _ _ _ => dts_nil) (fun _ _ _ _ _ => de_fld 0 0 Fx.c_0 (de_item (de_fld 2 0 Fx.c_2 (de_var 0)) (de_var 3)))) (dss_one (ds_if (DW.dt (dw_and (dt_isN (de_fld 1 5 Fx.c_1 (de_var 1))) (dw_and1 (dt_cmp (cr_eq hr) (de_var 2) (de_lst false (da_cons (de_bl) (da_cons (de_bl) (da_nil)))))))) (dss_one (ds_asg (de_lst true (da_cons (de_item (de_fld 1 0 Fx.c_1 (de_var 1)) (de_int)) (da_cons (de_item (de_fld 1 0 Fx.c_1 (de_var 1)) (de_int)) (da_cons (de_fld 2 2 Fx.c_2 (de_var 0)) (da_cons (de_non) (da_nil)))))) (dg_fld 1 5 Fx.c_1 (fun E => de_var 1) (varE_ne)))) (dss_one (ds_if (DW.dt (dw_and (dt_isNN (de_fld 1 5 Fx.c_1 (de_var 1))) (dw_and (dt_cmp (cr_eq hr) (de_var 2) (de_lst false (da_cons (de_bl) (da_cons (de_bl) (da_nil))))) (dw_and1 (dt_isN (de_item (de_fld 1 5 Fx.c_1 (de_var 1)) (de_int))))))) (dss_one (ds_setItem (de_fld 2 2 Fx.c_2 (de_var 0)) (de_fld 1 5 Fx.c_1 (de_var 1)) (de_int))) (dss_nil))))))))
abbrev N_Board_hook : List Str := ["self", "line", "is_off"]
theorem sc_Board_hook : FnScope N_Board_hook ["self", "line", "is_off"] (defScope st_Board_hook) := ⟨rfl, rfl, rfl, by decide +kernel, rfl, by decide +kernel, by decide +kernel⟩
def b_Board_hook : MS := seqS (exprS (metE 2 2 F_Board_need_line (varE 0) (consA (varE 1) (nilA)))) (seqS (exprS (callF 1 F_need_truth (consA (varE 2) (nilA)))) (seqS (exprS (metE 2 1 F_Board_keep (varE 0) nilA)) (seqS (exprS (metE 0 4 F_Line_hook (op2 ixD (op1 (fldD 2 0) (varE 0)) (varE 1)) (consA (varE 2) (consA (op1 (fldD 2 2) (varE 0)) (consA (op1 (fldD 2 3) (varE 0)) (nilA)))))) (exprS (metE 2 1 F_Board_look (varE 0) nilA)))))
abbrev F_Board_hook : List D → IH → Out D := fnF 3 b_Board_hook
theorem met_Board_hook (Fx : Fs P w K mg base T) : MetF P w K mg base T 2 "hook" 5 3 F_Board_hook := by
  obtain ⟨C, f, fd, gC, hC, hM, F⟩ := Fx.d_Board_hook
  have S := sc_Board_hook
  refine ⟨C, f, fd, ["self", "line", "is_off"], rfl, gC, hC, hM, F.bindsN (fun _ _ _ _ _ _ us hl => match us, hl with | [_, _, _], _ => rfl), fn_ok (k := 4) F S (fun A outer s H E hc hr tk hp => ?_), by decide +kernel⟩
  unfold b_Board_hook
  exact dss_cons (ds_expr (de_meth (met_Board_need_line Fx) (hr.mono (by decide)) tk (de_var 0) (da_cons (de_var 1) (da_nil)))) (dss_cons (ds_expr (de_call ⟨cal_need_truth Fx⟩ (hr.mono (by decide)) tk (da_cons (de_var 2) (da_nil)))) (dss_cons (ds_expr (de_meth0 (met_Board_keep Fx) (hr.mono (by decide)) tk (de_var 0))) (dss_cons (ds_expr (de_meth (met_Line_hook Fx) (hr.mono (by decide)) tk (de_item (de_fld 2 0 Fx.c_2 (de_var 0)) (de_var 1)) (da_cons (de_var 2) (da_cons (de_fld 2 2 Fx.c_2 (de_var 0)) (da_cons (de_fld 2 3 Fx.c_2 (de_var 0)) (da_nil)))))) (dss_one (ds_expr (de_meth0 (met_Board_look Fx) (hr.mono (by decide)) tk (de_var 0)))))))
abbrev N_Board_need_cord : List Str := ["self", "cord"]
theorem sc_Board_need_cord : FnScope N_Board_need_cord ["self", "cord"] (defScope st_Board_need_cord) := ⟨rfl, rfl, rfl, by decide +kernel, rfl, by decide +kernel, by decide +kernel⟩
def b_Board_need_cord : MS := ifS (notT (tst (callF 3 F_is_count (consA (varE 1) (consA (cE (.int 0)) (consA (op2 subD (callB lenD (consA (op1 (fldD 2 1) (varE 0)) (nilA))) (cE (.int 1))) (nilA))))))) (raiseS 11) (passS)
abbrev F_Board_need_cord : List D → IH → Out D := fnC 2 b_Board_need_cord
theorem met_Board_need_cord (Fx : Fs P w K mg base T) : MetF P w K mg base T 2 "need_cord" 2 2 F_Board_need_cord := by
  obtain ⟨C, f, fd, gC, hC, hM, F⟩ := Fx.d_Board_need_cord
  have S := sc_Board_need_cord
  refine ⟨C, f, fd, ["self", "cord"], rfl, gC, hC, hM, F.bindsN (fun _ _ _ _ _ _ us hl => match us, hl with | [_, _], _ => rfl), fn_okC (k := 1) F S (fun A outer s H E hc hr tk hp => ?_), by decide +kernel⟩
  unfold b_Board_need_cord
  exact dss_one (ds_if (dt_not (dt_val (de_call ⟨cal_is_count Fx⟩ (hr.mono (by decide)) tk (da_cons (de_var 1) (da_cons (de_int) (da_cons (de_sub (de_len Fx.n_len (da_cons (de_fld 2 1 Fx.c_2 (de_var 0)) (da_nil))) (de_int)) (da_nil))))))) (dss_one (ds_raise 11 Fx.e_11 rfl tk)) (dss_nil))
abbrev N_Board_need_end : List Str := ["self", "end"]
theorem sc_Board_need_end : FnScope N_Board_need_end ["self", "end"] (defScope st_Board_need_end) := ⟨rfl, rfl, rfl, by decide +kernel, rfl, by decide +kernel, by decide +kernel⟩
def b_Board_need_end : MS := seqS (ifS (orT (notT (tst (op1 (isiD .str) (varE 1)))) (tst (op2 (inD true) (varE 1) (cE (.tup [(.wd 12), (.wd 13)]))))) (raiseS 12) (passS)) (retS (tixE [.wd 12, .wd 13] (consA (varE 1) (nilA))))
abbrev F_Board_need_end : List D → IH → Out D := fnC 2 b_Board_need_end
theorem met_Board_need_end (Fx : Fs P w K mg base T) : MetF P w K mg base T 2 "need_end" 1 2 F_Board_need_end := by
  obtain ⟨C, f, fd, gC, hC, hM, F⟩ := Fx.d_Board_need_end
  have S := sc_Board_need_end
  refine ⟨C, f, fd, ["self", "end"], rfl, gC, hC, hM, F.bindsN (fun _ _ _ _ _ _ us hl => match us, hl with | [_, _], _ => rfl), fn_okC (k := 0) F S (fun A outer s H E hc hr tk hp => ?_), by decide +kernel⟩
  unfold b_Board_need_end
  exact dss_cons (ds_if (DW.dt (dw_or (dt_not (dt_val (de_isi .str Fx.n_isinstance Fx.n_str (by decide +kernel) (de_var 1)))) (dw_or1 (dt_cmp cr_notin (de_var 1) (de_glob (by rfl) Fx.g_ENDS))))) (dss_one (ds_raise 12 Fx.e_12 rfl tk)) (dss_nil)) (dss_one (ds_ret (de_tix Fx.t_ENDS (da_cons (de_var 1) (da_nil)))))
abbrev N_Board_holder : List Str := ["self", "line", "some", "number", "cord"]
theorem sc_Board_holder : FnScope N_Board_holder ["self", "line"] (defScope st_Board_holder) := ⟨rfl, rfl, rfl, by decide +kernel, rfl, by decide +kernel, by decide +kernel⟩
def b_Board_holder : MS := seqS (asgS (lcE false (enumV (consA (op1 (fldD 2 1) (varE 0)) (nilA))) (.many [3, 4]) (tst (op2 (inD false) (varE 1) (op1 (fldD 1 0) (varE 4)))) (varE 3) [3, 4]) (nameG 2)) (retS (iteE (tst (op2 neD (varE 2) (lstE false (nilA)))) (op2 ixD (varE 2) (cE (.int 0))) (cE .non)))
abbrev F_Board_holder : List D → IH → Out D := fnC 5 b_Board_holder
theorem met_Board_holder (Fx : Fs P w K mg base T) : MetF P w K mg base T 2 "holder" 1 2 F_Board_holder := by
  obtain ⟨C, f, fd, gC, hC, hM, F⟩ := Fx.d_Board_holder
  have S := sc_Board_holder
  refine ⟨C, f, fd, ["self", "line"], rfl, gC, hC, hM, F.bindsN (fun _ _ _ _ _ _ us hl => match us, hl with | [_, _], _ => rfl), fn_okC (k := 0) F S (fun A outer s H E hc hr tk hp => ?_), by decide +kernel⟩
  unfold b_Board_holder
  exact dss_cons (ds_setLc 2 false (.many [3, 4]) [("number", 3), ("cord", 4)] rfl S.nd (di_enum Fx.n_enumerate (da_cons (de_fld 2 1 Fx.c_2 (de_var 0)) (da_nil))) (blkOk_by (by rfl)) (fun _ _ _ _ _ => pg_tup rfl (pgs_cons (pg_name S.nd rfl (by first | exact Or.inl rfl | exact Or.inr rfl)) (pgs_cons (pg_name S.nd rfl (by first | exact Or.inl rfl | exact Or.inr rfl)) (pgs_nil)))) (fun _ _ _ _ _ => dts_one (dt_cmp cr_in (de_var 1) (de_fld 1 0 Fx.c_1 (de_var 4)))) (fun _ _ _ _ _ => de_var 3)) (dss_one (ds_ret (de_ifExp (dt_cmp (cr_ne hr) (de_var 2) (de_lst false (da_nil))) (de_item (de_var 2) (de_int)) (de_non))))
abbrev N_Board_plug : List Str := ["self", "cord", "end", "line", "at"]
theorem sc_Board_plug : FnScope N_Board_plug ["self", "cord", "end", "line"] (defScope st_Board_plug) := ⟨rfl, rfl, rfl, by decide +kernel, rfl, by decide +kernel, by decide +kernel⟩
def b_Board_plug : MS := seqS (exprS (metE 2 2 F_Board_need_cord (varE 0) (consA (varE 1) (nilA)))) (seqS (asgS (metE 2 2 F_Board_need_end (varE 0) (consA (varE 2) (nilA))) (nameG 4)) (seqS (exprS (metE 2 2 F_Board_need_line (varE 0) (consA (varE 3) (nilA)))) (seqS (ifS (tst (op1 isNN (op2 ixD (op1 (fldD 1 0) (op2 ixD (op1 (fldD 2 1) (varE 0)) (varE 1))) (varE 4)))) (raiseS 15) (passS)) (seqS (ifS (tst (op1 isNN (metE 2 2 F_Board_holder (varE 0) (consA (varE 3) (nilA))))) (raiseS 13) (passS)) (seqS (exprS (metE 2 1 F_Board_keep (varE 0) nilA)) (seqS (setS (varE 3) (op1 (fldD 1 0) (op2 ixD (op1 (fldD 2 1) (varE 0)) (varE 1))) (varE 4)) (seqS (setS (op1 (fldD 2 3) (varE 0)) (op1 (fldD 1 1) (op2 ixD (op1 (fldD 2 1) (varE 0)) (varE 1))) (varE 4)) (exprS (metE 2 1 F_Board_look (varE 0) nilA)))))))))
abbrev F_Board_plug : List D → IH → Out D := fnF 5 b_Board_plug
theorem met_Board_plug (Fx : Fs P w K mg base T) : MetF P w K mg base T 2 "plug" 5 4 F_Board_plug := by
  obtain ⟨C, f, fd, gC, hC, hM, F⟩ := Fx.d_Board_plug
  have S := sc_Board_plug
  refine ⟨C, f, fd, ["self", "cord", "end", "line"], rfl, gC, hC, hM, F.bindsN (fun _ _ _ _ _ _ us hl => match us, hl with | [_, _, _, _], _ => rfl), fn_ok (k := 4) F S (fun A outer s H E hc hr tk hp => ?_), by decide +kernel⟩
  unfold b_Board_plug
  exact dss_cons (ds_expr (de_meth (met_Board_need_cord Fx) (hr.mono (by decide)) tk (de_var 0) (da_cons (de_var 1) (da_nil)))) (dss_cons (ds_set 4 S.nd (de_meth (met_Board_need_end Fx) (hr.mono (by decide)) tk (de_var 0) (da_cons (de_var 2) (da_nil)))) (dss_cons (ds_expr (de_meth (met_Board_need_line Fx) (hr.mono (by decide)) tk (de_var 0) (da_cons (de_var 3) (da_nil)))) (dss_cons (ds_if (dt_isNN (de_item (de_fld 1 0 Fx.c_1 (de_item (de_fld 2 1 Fx.c_2 (de_var 0)) (de_var 1))) (de_var 4))) (dss_one (ds_raise 15 Fx.e_15 rfl tk)) (dss_nil)) (dss_cons (ds_if (dt_isNN (de_meth (met_Board_holder Fx) (hr.mono (by decide)) tk (de_var 0) (da_cons (de_var 3) (da_nil)))) (dss_one (ds_raise 13 Fx.e_13 rfl tk)) (dss_nil)) (dss_cons (ds_expr (de_meth0 (met_Board_keep Fx) (hr.mono (by decide)) tk (de_var 0))) (dss_cons (ds_setItem (de_var 3) (de_fld 1 0 Fx.c_1 (de_item (de_fld 2 1 Fx.c_2 (de_var 0)) (de_var 1))) (de_var 4)) (dss_cons (ds_setItem (de_fld 2 3 Fx.c_2 (de_var 0)) (de_fld 1 1 Fx.c_1 (de_item (de_fld 2 1 Fx.c_2 (de_var 0)) (de_var 1))) (de_var 4)) (dss_one (ds_expr (de_meth0 (met_Board_look Fx) (hr.mono (by decide)) tk (de_var 0)))))))))))
abbrev N_Board_tick : List Str := ["self", "many"]
theorem sc_Board_tick : FnScope N_Board_tick ["self", "many"] (defScope st_Board_tick) := ⟨rfl, rfl, rfl, by decide +kernel, rfl, by decide +kernel, by decide +kernel⟩
def b_Board_tick : MS := seqS (ifS (notT (tst (callF 3 F_is_count (consA (varE 1) (consA (cE (.int 0)) (consA (cE (.int 1000000)) (nilA))))))) (raiseS 11) (passS)) (seqS (exprS (metE 2 1 F_Board_keep (varE 0) nilA)) (asgS (op2 (addD false) (op1 (fldD 2 2) (varE 0)) (varE 1)) (fldG 2 2 (varE 0))))
abbrev F_Board_tick : List D → IH → Out D := fnF 2 b_Board_tick
theorem met_Board_tick (Fx : Fs P w K mg base T) : MetF P w K mg base T 2 "tick" 5 2 F_Board_tick := by
  obtain ⟨C, f, fd, gC, hC, hM, F⟩ := Fx.d_Board_tick
  have S := sc_Board_tick
  refine ⟨C, f, fd, ["self", "many"], rfl, gC, hC, hM, F.bindsN (fun _ _ _ _ _ _ us hl => match us, hl with | [_, _], _ => rfl), fn_ok (k := 4) F S (fun A outer s H E hc hr tk hp => ?_), by decide +kernel⟩
  unfold b_Board_tick
  exact dss_cons (ds_if (dt_not (dt_val (de_call ⟨cal_is_count Fx⟩ (hr.mono (by decide)) tk (da_cons (de_var 1) (da_cons (de_int) (da_cons (de_glob (by rfl) Fx.g_MOST_TICKS) (da_nil))))))) (dss_one (ds_raise 11 Fx.e_11 rfl tk)) (dss_nil)) (dss_cons (ds_expr (de_meth0 (met_Board_keep Fx) (hr.mono (by decide)) tk (de_var 0))) (dss_one (ds_asg (de_add false (de_fld 2 2 Fx.c_2 (de_var 0)) (de_var 1)) (dg_fld 2 2 Fx.c_2 (fun E => de_var 0) (varE_ne)))))
abbrev N_Board_listen : List Str := ["self", "cord", "is_on"]
theorem sc_Board_listen : FnScope N_Board_listen ["self", "cord", "is_on"] (defScope st_Board_listen) := ⟨rfl, rfl, rfl, by decide +kernel, rfl, by decide +kernel, by decide +kernel⟩
def b_Board_listen : MS := seqS (exprS (metE 2 2 F_Board_need_cord (varE 0) (consA (varE 1) (nilA)))) (seqS (exprS (callF 1 F_need_truth (consA (varE 2) (nilA)))) (seqS (exprS (metE 2 1 F_Board_keep (varE 0) nilA)) (seqS (ifS (orT (tst (varE 2)) (tst (op1 (fldD 1 2) (op2 ixD (op1 (fldD 2 1) (varE 0)) (varE 1))))) (asgS (op1 (fldD 2 3) (varE 0)) (fldG 1 4 (op2 ixD (op1 (fldD 2 1) (varE 0)) (varE 1)))) (passS)) (asgS (varE 2) (fldG 1 2 (op2 ixD (op1 (fldD 2 1) (varE 0)) (varE 1)))))))
abbrev F_Board_listen : List D → IH → Out D := fnF 3 b_Board_listen
theorem met_Board_listen (Fx : Fs P w K mg base T) : MetF P w K mg base T 2 "listen" 5 3 F_Board_listen := by
  obtain ⟨C, f, fd, gC, hC, hM, F⟩ := Fx.d_Board_listen
  have S := sc_Board_listen
  refine ⟨C, f, fd, ["self", "cord", "is_on"], rfl, gC, hC, hM, F.bindsN (fun _ _ _ _ _ _ us hl => match us, hl with | [_, _, _], _ => rfl), fn_ok (k := 4) F S (fun A outer s H E hc hr tk hp => ?_), by decide +kernel⟩
  unfold b_Board_listen
  exact dss_cons (ds_expr (de_meth (met_Board_need_cord Fx) (hr.mono (by decide)) tk (de_var 0) (da_cons (de_var 1) (da_nil)))) (dss_cons (ds_expr (de_call ⟨cal_need_truth Fx⟩ (hr.mono (by decide)) tk (da_cons (de_var 2) (da_nil)))) (dss_cons (ds_expr (de_meth0 (met_Board_keep Fx) (hr.mono (by decide)) tk (de_var 0))) (dss_cons (ds_if (DW.dt (dw_or (dt_val (de_var 2)) (dw_or1 (dt_val (de_fld 1 2 Fx.c_1 (de_item (de_fld 2 1 Fx.c_2 (de_var 0)) (de_var 1))))))) (dss_one (ds_asg (de_fld 2 3 Fx.c_2 (de_var 0)) (dg_fld 1 4 Fx.c_1 (fun E => de_item (de_fld 2 1 Fx.c_2 (de_var 0)) (de_var 1)) (ix_ne (fld_ne (varE_ne)) (varE_ne))))) (dss_nil)) (dss_one (ds_asg (de_var 2) (dg_fld 1 2 Fx.c_1 (fun E => de_item (de_fld 2 1 Fx.c_2 (de_var 0)) (de_var 1)) (ix_ne (fld_ne (varE_ne)) (varE_ne))))))))
abbrev N_Board_line_lamps : List Str := ["self", "number", "one"]
theorem sc_Board_line_lamps : FnScope N_Board_line_lamps ["self"] (defScope st_Board_line_lamps) := ⟨rfl, rfl, rfl, by decide +kernel, rfl, by decide +kernel, by decide +kernel⟩
def b_Board_line_lamps : MS := retS (lcE true (enumV (consA (op1 (fldD 2 0) (varE 0)) (nilA))) (.many [1, 2]) (yesT) (andE (op1 (fldD 0 0) (varE 2)) (op1 isN (metE 2 2 F_Board_holder (varE 0) (consA (varE 1) (nilA))))) [1, 2])
abbrev F_Board_line_lamps : List D → IH → Out D := fnF 3 b_Board_line_lamps
theorem met_Board_line_lamps (Fx : Fs P w K mg base T) : MetF P w K mg base T 2 "line_lamps" 2 1 F_Board_line_lamps := by
  obtain ⟨C, f, fd, gC, hC, hM, F⟩ := Fx.d_Board_line_lamps
  have S := sc_Board_line_lamps
  refine ⟨C, f, fd, ["self"], rfl, gC, hC, hM, F.bindsN (fun _ _ _ _ _ _ us hl => match us, hl with | [_], _ => rfl), fn_ok (k := 1) F S (fun A outer s H E hc hr tk hp => ?_), by decide +kernel⟩
  unfold b_Board_line_lamps
  exact dss_one (ds_ret (de_lc true (.many [1, 2]) [("number", 1), ("one", 2)] rfl S.nd (di_enum Fx.n_enumerate (da_cons (de_fld 2 0 Fx.c_2 (de_var 0)) (da_nil))) (blkOk_by (by rfl)) (fun _ _ _ _ _ => pg_tup rfl (pgs_cons (pg_name S.nd rfl (by first | exact Or.inl rfl | exact Or.inr rfl)) (pgs_cons (pg_name S.nd rfl (by first | exact Or.inl rfl | exact Or.inr rfl)) (pgs_nil)))) (fun _ _ _ _ _ => dts_nil) (fun _ _ _ _ _ => de_and (de_fld 0 0 Fx.c_0 (de_var 2)) (de_one (de_isN (de_meth (met_Board_holder Fx) (hr.mono (by decide)) takesN0 (de_var 0) (da_cons (de_var 1) (da_nil))))))))
abbrev N_Board_lamp : List Str := ["self", "cord", "at", "own", "line"]
theorem sc_Board_lamp : FnScope N_Board_lamp ["self", "cord", "at"] (defScope st_Board_lamp) := ⟨rfl, rfl, rfl, by decide +kernel, rfl, by decide +kernel, by decide +kernel⟩
def b_Board_lamp : MS := seqS (asgS (op2 ixD (op1 (fldD 2 1) (varE 0)) (varE 1)) (nameG 3)) (seqS (ifS (tst (op1 isN (op2 ixD (op1 (fldD 1 0) (varE 3)) (varE 2)))) (retS (cE (.wd 21))) (passS)) (seqS (asgS (op2 ixD (op1 (fldD 2 0) (varE 0)) (op2 ixD (op1 (fldD 1 0) (varE 3)) (varE 2))) (nameG 4)) (seqS (ifS (notT (tst (op1 (fldD 0 0) (varE 4)))) (retS (cE (.wd 22))) (passS)) (seqS (ifS (orT (notT (tst (op1 (fldD 0 4) (varE 4)))) (orT (tst (op2 ltD (op1 (fldD 0 2) (varE 4)) (op2 ixD (op1 (fldD 1 1) (varE 3)) (varE 2)))) (orT (tst (op1 (fldD 1 2) (varE 3))) (tst (op2 gtD (op1 (fldD 1 4) (varE 3)) (op1 (fldD 0 3) (varE 4))))))) (retS (cE (.wd 21))) (passS)) (retS (cE (.wd 23)))))))
abbrev F_Board_lamp : List D → IH → Out D := fnC 5 b_Board_lamp
theorem met_Board_lamp (Fx : Fs P w K mg base T) : MetF P w K mg base T 2 "lamp" 1 3 F_Board_lamp := by
  obtain ⟨C, f, fd, gC, hC, hM, F⟩ := Fx.d_Board_lamp
  have S := sc_Board_lamp
  refine ⟨C, f, fd, ["self", "cord", "at"], rfl, gC, hC, hM, F.bindsN (fun _ _ _ _ _ _ us hl => match us, hl with | [_, _, _], _ => rfl), fn_okC (k := 0) F S (fun A outer s H E hc hr tk hp => ?_), by decide +kernel⟩
  unfold b_Board_lamp
  exact dss_cons (ds_set 3 S.nd (de_item (de_fld 2 1 Fx.c_2 (de_var 0)) (de_var 1))) (dss_cons (ds_if (dt_isN (de_item (de_fld 1 0 Fx.c_1 (de_var 3)) (de_var 2))) (dss_one (ds_ret (de_wd 21))) (dss_nil)) (dss_cons (ds_set 4 S.nd (de_item (de_fld 2 0 Fx.c_2 (de_var 0)) (de_item (de_fld 1 0 Fx.c_1 (de_var 3)) (de_var 2)))) (dss_cons (ds_if (dt_not (dt_val (de_fld 0 0 Fx.c_0 (de_var 4)))) (dss_one (ds_ret (de_wd 22))) (dss_nil)) (dss_cons (ds_if (DW.dt (dw_or (dt_not (dt_val (de_fld 0 4 Fx.c_0 (de_var 4)))) (dw_or (dt_cmp cr_lt (de_fld 0 2 Fx.c_0 (de_var 4)) (de_item (de_fld 1 1 Fx.c_1 (de_var 3)) (de_var 2))) (dw_or (dt_val (de_fld 1 2 Fx.c_1 (de_var 3))) (dw_or1 (dt_cmp cr_gt (de_fld 1 4 Fx.c_1 (de_var 3)) (de_fld 0 3 Fx.c_0 (de_var 4)))))))) (dss_one (ds_ret (de_wd 21))) (dss_nil)) (dss_one (ds_ret (de_wd 23)))))))
abbrev N_Board_cord_lamps : List Str := ["self", "number"]
theorem sc_Board_cord_lamps : FnScope N_Board_cord_lamps ["self"] (defScope st_Board_cord_lamps) := ⟨rfl, rfl, rfl, by decide +kernel, rfl, by decide +kernel, by decide +kernel⟩
def b_Board_cord_lamps : MS := retS (lcE true (rng1V (consA (callB lenD (consA (op1 (fldD 2 1) (varE 0)) (nilA))) (nilA))) (.one 1) (yesT) (tupE (consA (metE 2 3 F_Board_lamp (varE 0) (consA (varE 1) (consA (cE (.int 0)) (nilA)))) (consA (metE 2 3 F_Board_lamp (varE 0) (consA (varE 1) (consA (cE (.int 1)) (nilA)))) (nilA)))) [1])
abbrev F_Board_cord_lamps : List D → IH → Out D := fnF 2 b_Board_cord_lamps
theorem met_Board_cord_lamps (Fx : Fs P w K mg base T) : MetF P w K mg base T 2 "cord_lamps" 2 1 F_Board_cord_lamps := by
  obtain ⟨C, f, fd, gC, hC, hM, F⟩ := Fx.d_Board_cord_lamps
  have S := sc_Board_cord_lamps
  refine ⟨C, f, fd, ["self"], rfl, gC, hC, hM, F.bindsN (fun _ _ _ _ _ _ us hl => match us, hl with | [_], _ => rfl), fn_ok (k := 1) F S (fun A outer s H E hc hr tk hp => ?_), by decide +kernel⟩
  unfold b_Board_cord_lamps
  exact dss_one (ds_ret (de_lc true (.one 1) [("number", 1)] rfl S.nd (di_range1 Fx.n_range (da_cons (de_len Fx.n_len (da_cons (de_fld 2 1 Fx.c_2 (de_var 0)) (da_nil))) (da_nil))) (blkOk_by (by rfl)) (fun _ _ _ _ _ => pg_name S.nd rfl (by first | exact Or.inl rfl | exact Or.inr rfl)) (fun _ _ _ _ _ => dts_nil) (fun _ _ _ _ _ => de_tup (da_cons (de_meth (met_Board_lamp Fx) (hr.mono (by decide)) takesN0 (de_var 0) (da_cons (de_var 1) (da_cons (de_int) (da_nil)))) (da_cons (de_meth (met_Board_lamp Fx) (hr.mono (by decide)) takesN0 (de_var 0) (da_cons (de_var 1) (da_cons (de_int) (da_nil)))) (da_nil))))))
abbrev N_Board_plugs : List Str := ["self", "cord"]
theorem sc_Board_plugs : FnScope N_Board_plugs ["self"] (defScope st_Board_plugs) := ⟨rfl, rfl, rfl, by decide +kernel, rfl, by decide +kernel, by decide +kernel⟩
def b_Board_plugs : MS := retS (lcE true (seqV (op1 (fldD 2 1) (varE 0))) (.one 1) (yesT) (tupE (consA (op2 ixD (op1 (fldD 1 0) (varE 1)) (cE (.int 0))) (consA (op2 ixD (op1 (fldD 1 0) (varE 1)) (cE (.int 1))) (nilA)))) [1])
abbrev F_Board_plugs : List D → IH → Out D := fnF 2 b_Board_plugs
theorem met_Board_plugs (Fx : Fs P w K mg base T) : MetF P w K mg base T 2 "plugs" 1 1 F_Board_plugs := by
  obtain ⟨C, f, fd, gC, hC, hM, F⟩ := Fx.d_Board_plugs
  have S := sc_Board_plugs
  refine ⟨C, f, fd, ["self"], rfl, gC, hC, hM, F.bindsN (fun _ _ _ _ _ _ us hl => match us, hl with | [_], _ => rfl), fn_ok (k := 0) F S (fun A outer s H E hc hr tk hp => ?_), by decide +kernel⟩
  unfold b_Board_plugs
  exact dss_one (ds_ret (de_lc true (.one 1) [("cord", 1)] rfl S.nd (di_seq (de_fld 2 1 Fx.c_2 (de_var 0))) (blkOk_by (by rfl)) (fun _ _ _ _ _ => pg_name S.nd rfl (by first | exact Or.inl rfl | exact Or.inr rfl)) (fun _ _ _ _ _ => dts_nil) (fun _ _ _ _ _ => de_tup (da_cons (de_item (de_fld 1 0 Fx.c_1 (de_var 1)) (de_int)) (da_cons (de_item (de_fld 1 0 Fx.c_1 (de_var 1)) (de_int)) (da_nil))))))
abbrev N_Board_talks : List Str := ["self", "found", "number", "cord", "line"]
theorem sc_Board_talks : FnScope N_Board_talks ["self"] (defScope st_Board_talks) := ⟨rfl, rfl, rfl, by decide +kernel, rfl, by decide +kernel, by decide +kernel⟩
def b_Board_talks_0 : MS := ifS (andT (tst (op2 (inD true) (cE .non) (op1 (fldD 1 0) (varE 3)))) (tst (callB (one allD) (consA (lcE false (seqV (op1 (fldD 1 0) (varE 3))) (.one 4) (yesT) (op1 (fldD 0 0) (op2 ixD (op1 (fldD 2 0) (varE 0)) (varE 4))) [4]) (nilA))))) (exprS (bmE appD (varE 1) (consA (tupE (consA (varE 2) (consA (op2 ixD (op1 (fldD 1 0) (varE 3)) (cE (.int 0))) (consA (op2 ixD (op1 (fldD 1 0) (varE 3)) (cE (.int 1))) (nilA))))) (nilA)))) (passS)
def b_Board_talks : MS := seqS (asgS (lstE true (nilA)) (nameG 1)) (seqS (forS (enumV (consA (op1 (fldD 2 1) (varE 0)) (nilA))) (tupG 2 (consG (nameG 2) (consG (nameG 3) (nilG)))) (b_Board_talks_0)) (retS (varE 1)))
abbrev F_Board_talks : List D → IH → Out D := fnF 5 b_Board_talks
theorem met_Board_talks (Fx : Fs P w K mg base T) : MetF P w K mg base T 2 "talks" 1 1 F_Board_talks := by
  obtain ⟨C, f, fd, gC, hC, hM, F⟩ := Fx.d_Board_talks
  have S := sc_Board_talks
  refine ⟨C, f, fd, ["self"], rfl, gC, hC, hM, F.bindsN (fun _ _ _ _ _ _ us hl => match us, hl with | [_], _ => rfl), fn_ok (k := 0) F S (fun A outer s H E hc hr tk hp => ?_), by decide +kernel⟩
  unfold b_Board_talks
  exact dss_cons (ds_set 1 S.nd (de_lst true (da_nil))) (dss_cons (ds_for hp rfl (di_enum Fx.n_enumerate (da_cons (de_fld 2 1 Fx.c_2 (de_var 0)) (da_nil))) (dg_tup rfl (dgs_cons (dg_name 2 S.nd) (dgs_cons (dg_name 3 S.nd) (dgs_nil)))) (dss_one (ds_if (DW.dt (dw_and (dt_cmp cr_notin (de_non) (de_fld 1 0 Fx.c_1 (de_var 3))) (dw_and1 (dt_val (de_all rfl Fx.n_all (da_cons (de_lc false (.one 4) [("line", 4)] rfl S.nd (di_seq (de_fld 1 0 Fx.c_1 (de_var 3))) (blkOk_by (by rfl)) (fun _ _ _ _ _ => pg_name S.nd rfl (by first | exact Or.inl rfl | exact Or.inr rfl)) (fun _ _ _ _ _ => dts_nil) (fun _ _ _ _ _ => de_fld 0 0 Fx.c_0 (de_item (de_fld 2 0 Fx.c_2 (de_var 0)) (de_var 4)))) (da_nil))))))) (dss_one (ds_expr (de_append (de_var 1) (da_cons (de_tup (da_cons (de_var 2) (da_cons (de_item (de_fld 1 0 Fx.c_1 (de_var 3)) (de_int)) (da_cons (de_item (de_fld 1 0 Fx.c_1 (de_var 3)) (de_int)) (da_nil))))) (da_nil))))) (dss_nil)))) (dss_one (ds_ret (de_var 1))))
abbrev N_Board_hears : List Str := ["self", "found", "cord", "line"]
theorem sc_Board_hears : FnScope N_Board_hears ["self"] (defScope st_Board_hears) := ⟨rfl, rfl, rfl, by decide +kernel, rfl, by decide +kernel, by decide +kernel⟩
def b_Board_hears_0 : MS := ifS (tst (op1 (fldD 1 2) (varE 2))) (exprS (bmE extD (varE 1) (consA (lcE false (seqV (op1 (fldD 1 0) (varE 2))) (.one 3) (andT (tst (op1 isNN (varE 3))) (tst (op1 (fldD 0 0) (op2 ixD (op1 (fldD 2 0) (varE 0)) (varE 3))))) (varE 3) [3]) (nilA)))) (passS)
def b_Board_hears : MS := seqS (asgS (lstE true (nilA)) (nameG 1)) (seqS (forS (seqV (op1 (fldD 2 1) (varE 0))) (nameG 2) (b_Board_hears_0)) (retS (callB (one (sortIR true)) (consA (varE 1) (nilA)))))
abbrev F_Board_hears : List D → IH → Out D := fnF 4 b_Board_hears
theorem met_Board_hears (Fx : Fs P w K mg base T) : MetF P w K mg base T 2 "hears" 1 1 F_Board_hears := by
  obtain ⟨C, f, fd, gC, hC, hM, F⟩ := Fx.d_Board_hears
  have S := sc_Board_hears
  refine ⟨C, f, fd, ["self"], rfl, gC, hC, hM, F.bindsN (fun _ _ _ _ _ _ us hl => match us, hl with | [_], _ => rfl), fn_ok (k := 0) F S (fun A outer s H E hc hr tk hp => ?_), by decide +kernel⟩
  unfold b_Board_hears
  exact dss_cons (ds_set 1 S.nd (de_lst true (da_nil))) (dss_cons (ds_for hp rfl (di_seq (de_fld 2 1 Fx.c_2 (de_var 0))) (dg_name 2 S.nd) (dss_one (ds_if (dt_val (de_fld 1 2 Fx.c_1 (de_var 2))) (dss_one (ds_expr (de_extend (de_var 1) (da_cons (de_lc false (.one 3) [("line", 3)] rfl S.nd (di_seq (de_fld 1 0 Fx.c_1 (de_var 2))) (blkOk_by (by rfl)) (fun _ _ _ _ _ => pg_name S.nd rfl (by first | exact Or.inl rfl | exact Or.inr rfl)) (fun _ _ _ _ _ => dts_one (DW.dt (dw_and (dt_isNN (de_var 3)) (dw_and1 (dt_val (de_fld 0 0 Fx.c_0 (de_item (de_fld 2 0 Fx.c_2 (de_var 0)) (de_var 3)))))))) (fun _ _ _ _ _ => de_var 3)) (da_nil))))) (dss_nil)))) (dss_one (ds_ret (de_sortIR true rfl Fx.n_sorted (da_cons (de_var 1) (da_nil))))))
abbrev N_Board_calls : List Str := ["self", "found", "number", "cord"]
theorem sc_Board_calls : FnScope N_Board_calls ["self"] (defScope st_Board_calls) := ⟨rfl, rfl, rfl, by decide +kernel, rfl, by decide +kernel, by decide +kernel⟩
def b_Board_calls_0 : MS := ifS (tst (op1 isNN (op1 (fldD 1 5) (varE 3)))) (exprS (bmE appD (varE 1) (consA (tupE (consA (varE 2) (consA (op2 ixD (op1 (fldD 1 5) (varE 3)) (cE (.int 0))) (consA (op2 ixD (op1 (fldD 1 5) (varE 3)) (cE (.int 1))) (consA (op2 ixD (op1 (fldD 1 5) (varE 3)) (cE (.int 2))) (consA (op2 ixD (op1 (fldD 1 5) (varE 3)) (cE (.int 3))) (consA (cE .non) (nilA)))))))) (nilA)))) (passS)
def b_Board_calls : MS := seqS (asgS (callB (one (listD true)) (consA (op1 (fldD 2 4) (varE 0)) (nilA))) (nameG 1)) (seqS (forS (enumV (consA (op1 (fldD 2 1) (varE 0)) (nilA))) (tupG 2 (consG (nameG 2) (consG (nameG 3) (nilG)))) (b_Board_calls_0)) (retS (varE 1)))
abbrev F_Board_calls : List D → IH → Out D := fnF 4 b_Board_calls
theorem met_Board_calls (Fx : Fs P w K mg base T) : MetF P w K mg base T 2 "calls" 1 1 F_Board_calls := by
  obtain ⟨C, f, fd, gC, hC, hM, F⟩ := Fx.d_Board_calls
  have S := sc_Board_calls
  refine ⟨C, f, fd, ["self"], rfl, gC, hC, hM, F.bindsN (fun _ _ _ _ _ _ us hl => match us, hl with | [_], _ => rfl), fn_ok (k := 0) F S (fun A outer s H E hc hr tk hp => ?_), by decide +kernel⟩
  unfold b_Board_calls
  exact dss_cons (ds_set 1 S.nd (de_list true Fx.n_list (da_cons (de_fld 2 4 Fx.c_2 (de_var 0)) (da_nil)))) (dss_cons (ds_for hp rfl (di_enum Fx.n_enumerate (da_cons (de_fld 2 1 Fx.c_2 (de_var 0)) (da_nil))) (dg_tup rfl (dgs_cons (dg_name 2 S.nd) (dgs_cons (dg_name 3 S.nd) (dgs_nil)))) (dss_one (ds_if (dt_isNN (de_fld 1 5 Fx.c_1 (de_var 3))) (dss_one (ds_expr (de_append (de_var 1) (da_cons (de_tup (da_cons (de_var 2) (da_cons (de_item (de_fld 1 5 Fx.c_1 (de_var 3)) (de_int)) (da_cons (de_item (de_fld 1 5 Fx.c_1 (de_var 3)) (de_int)) (da_cons (de_item (de_fld 1 5 Fx.c_1 (de_var 3)) (de_int)) (da_cons (de_item (de_fld 1 5 Fx.c_1 (de_var 3)) (de_int)) (da_cons (de_non) (da_nil)))))))) (da_nil))))) (dss_nil)))) (dss_one (ds_ret (de_var 1))))
abbrev N_is_row : List Str := ["thing", "one"]
theorem sc_is_row : FnScope N_is_row ["thing"] (defScope st_is_row) := ⟨rfl, rfl, rfl, by decide +kernel, rfl, by decide +kernel, by decide +kernel⟩
def b_is_row : MS := seqS (ifS (orT (notT (tst (op1 (isiD .tuple) (varE 0)))) (orT (tst (op2 neD (callB lenD (consA (varE 0) (nilA))) (cE (.int 4)))) (notT (tst (callB (one allD) (consA (lcE false (seqV (slE false (varE 0) (noP) (someP (cE (.int 2))))) (.one 1) (yesT) (op1 (isiD .bool) (varE 1)) [1]) (nilA))))))) (retS (cE (.bl false))) (passS)) (retS (callB (one allD) (consA (lcE false (seqV (slE false (varE 0) (someP (cE (.int 2))) (noP))) (.one 1) (yesT) (andE (op1 (isiD .str) (varE 1)) (op2 (inD false) (varE 1) (cE (.tup [(.wd 21), (.wd 22), (.wd 23)])))) [1]) (nilA))))
abbrev F_is_row : List D → IH → Out D := fnC 2 b_is_row
theorem cal_is_row (Fx : Fs P w K mg base T) : CalF P w K mg base T "is_row" 1 1 F_is_row := by
  obtain ⟨f, fd, F, gF⟩ := Fx.d_is_row
  have S := sc_is_row
  refine ⟨f, fd, ["thing"], rfl, gF, F.kp, F.bindsN (fun _ _ _ _ _ _ us hl => match us, hl with | [_], _ => rfl), fn_okC (k := 0) F S (fun A outer s H E hc hr tk hp => ?_)⟩
  unfold b_is_row
  exact dss_cons (ds_if (DW.dt (dw_or (dt_not (dt_val (de_isi .tuple Fx.n_isinstance Fx.n_tuple (by decide +kernel) (de_var 0)))) (dw_or (dt_cmp (cr_ne hr) (de_len Fx.n_len (da_cons (de_var 0) (da_nil))) (de_int)) (dw_or1 (dt_not (dt_val (de_all rfl Fx.n_all (da_cons (de_lc false (.one 1) [("one", 1)] rfl S.nd (di_seq (de_slice false (de_var 0) (do_none) (do_some (de_int)))) (blkOk_by (by rfl)) (fun _ _ _ _ _ => pg_name S.nd rfl (by first | exact Or.inl rfl | exact Or.inr rfl)) (fun _ _ _ _ _ => dts_nil) (fun _ _ _ _ _ => de_isi .bool Fx.n_isinstance Fx.n_bool (by decide +kernel) (de_var 1))) (da_nil))))))))) (dss_one (ds_ret (de_bl))) (dss_nil)) (dss_one (ds_ret (de_all rfl Fx.n_all (da_cons (de_lc false (.one 1) [("one", 1)] rfl S.nd (di_seq (de_slice false (de_var 0) (do_some (de_int)) (do_none))) (blkOk_by (by rfl)) (fun _ _ _ _ _ => pg_name S.nd rfl (by first | exact Or.inl rfl | exact Or.inr rfl)) (fun _ _ _ _ _ => dts_nil) (fun _ _ _ _ _ => de_and (de_isi .str Fx.n_isinstance Fx.n_str (by decide +kernel) (de_var 1)) (de_one (de_cmp cr_in (de_var 1) (de_glob (by rfl) Fx.g_WORDS))))) (da_nil)))))
abbrev N_known : List Str := ["rows", "row", "found", "call", "number", "are_in"]
theorem sc_known : FnScope N_known ["rows"] (defScope st_known) := ⟨rfl, rfl, rfl, by decide +kernel, rfl, by decide +kernel, by decide +kernel⟩
def b_known_0 : MS := seqS (asgS (op2 eqD (slE false (varE 1) (noP) (someP (cE (.int 2)))) (tupE (consA (cE (.bl true)) (consA (cE (.bl true)) (nilA))))) (nameG 5)) (ifS (tst (op1 isN (varE 3))) (ifS (andT (tst (varE 5)) (tst (op2 (inD true) (cE (.wd 22)) (slE false (varE 1) (someP (cE (.int 2))) (noP))))) (asgS (lstE true (consA (varE 4) (consA (cE .non) (nilA)))) (nameG 3)) (passS)) (ifS (notT (tst (varE 5))) (seqS (exprS (bmE appD (varE 2) (consA (tupE (consA (op2 ixD (varE 3) (cE (.int 0))) (consA (iteE (tst (op1 isN (op2 ixD (varE 3) (cE (.int 1))))) (varE 4) (op2 ixD (varE 3) (cE (.int 1)))) (consA (varE 4) (nilA))))) (nilA)))) (asgS (cE .non) (nameG 3))) (ifS (andT (tst (op1 isN (op2 ixD (varE 3) (cE (.int 1))))) (tst (op2 eqD (slE false (varE 1) (someP (cE (.int 2))) (noP)) (tupE (consA (cE (.wd 22)) (consA (cE (.wd 22)) (nilA))))))) (setS (varE 4) (varE 3) (cE (.int 1))) (passS))))
def b_known : MS := seqS (ifS (orT (notT (tst (op1 (isiD .list) (varE 0)))) (notT (tst (callB (one allD) (consA (lcE false (seqV (varE 0)) (.one 1) (yesT) (callF 1 F_is_row (consA (varE 1) (nilA))) [1]) (nilA)))))) (raiseS 17) (passS)) (seqS (parS 2 3 (consA (lstE true (nilA)) (consA (cE .non) nilA))) (seqS (forS (enumV (consA (varE 0) (nilA))) (tupG 2 (consG (nameG 4) (consG (nameG 1) (nilG)))) (b_known_0)) (seqS (ifS (tst (op1 isNN (varE 3))) (exprS (bmE appD (varE 2) (consA (tupE (consA (op2 ixD (varE 3) (cE (.int 0))) (consA (op2 ixD (varE 3) (cE (.int 1))) (consA (cE .non) (nilA))))) (nilA)))) (passS)) (retS (varE 2)))))
abbrev F_known : List D → IH → Out D := fnF 6 b_known
theorem cal_known (Fx : Fs P w K mg base T) : CalF P w K mg base T "known" 2 1 F_known := by
  obtain ⟨f, fd, F, gF⟩ := Fx.d_known
  have S := sc_known
  refine ⟨f, fd, ["rows"], rfl, gF, F.kp, F.bindsN (fun _ _ _ _ _ _ us hl => match us, hl with | [_], _ => rfl), fn_ok (k := 1) F S (fun A outer s H E hc hr tk hp => ?_)⟩
  unfold b_known
  exact dss_cons (ds_if (DW.dt (dw_or (dt_not (dt_val (de_isi .list Fx.n_isinstance Fx.n_list (by decide +kernel) (de_var 0)))) (dw_or1 (dt_not (dt_val (de_all rfl Fx.n_all (da_cons (de_lc false (.one 1) [("row", 1)] rfl S.nd (di_seq (de_var 0)) (blkOk_by (by rfl)) (fun _ _ _ _ _ => pg_name S.nd rfl (by first | exact Or.inl rfl | exact Or.inr rfl)) (fun _ _ _ _ _ => dts_nil) (fun _ _ _ _ _ => de_call ⟨cal_is_row Fx⟩ (hr.mono (by decide)) takesN0 (da_cons (de_var 1) (da_nil)))) (da_nil)))))))) (dss_one (ds_raise 17 Fx.e_17 rfl tk)) (dss_nil)) (dss_cons (ds_par 2 3 rfl S.nd (da_cons (de_lst true (da_nil)) (da_cons (de_non) da_nil))) (dss_cons (ds_for hp rfl (di_enum Fx.n_enumerate (da_cons (de_var 0) (da_nil))) (dg_tup rfl (dgs_cons (dg_name 4 S.nd) (dgs_cons (dg_name 1 S.nd) (dgs_nil)))) (dss_cons (ds_set 5 S.nd (de_cmp (cr_eq hr) (de_slice false (de_var 1) (do_none) (do_some (de_int))) (de_tup (da_cons (de_bl) (da_cons (de_bl) (da_nil)))))) (dss_one (ds_if (dt_isN (de_var 3)) (dss_one (ds_if (DW.dt (dw_and (dt_val (de_var 5)) (dw_and1 (dt_cmp cr_notin (de_wd 22) (de_slice false (de_var 1) (do_some (de_int)) (do_none)))))) (dss_one (ds_set 3 S.nd (de_lst true (da_cons (de_var 4) (da_cons (de_non) (da_nil)))))) (dss_nil))) (dss_one (ds_if (dt_not (dt_val (de_var 5))) (dss_cons (ds_expr (de_append (de_var 2) (da_cons (de_tup (da_cons (de_item (de_var 3) (de_int)) (da_cons (de_ifExp (dt_isN (de_item (de_var 3) (de_int))) (de_var 4) (de_item (de_var 3) (de_int))) (da_cons (de_var 4) (da_nil))))) (da_nil)))) (dss_one (ds_set 3 S.nd (de_non)))) (dss_one (ds_if (DW.dt (dw_and (dt_isN (de_item (de_var 3) (de_int))) (dw_and1 (dt_cmp (cr_eq hr) (de_slice false (de_var 1) (do_some (de_int)) (do_none)) (de_tup (da_cons (de_wd 22) (da_cons (de_wd 22) (da_nil)))))))) (dss_one (ds_setItem (de_var 4) (de_var 3) (de_int))) (dss_nil))))))))) (dss_cons (ds_if (dt_isNN (de_var 3)) (dss_one (ds_expr (de_append (de_var 2) (da_cons (de_tup (da_cons (de_item (de_var 3) (de_int)) (da_cons (de_item (de_var 3) (de_int)) (da_cons (de_non) (da_nil))))) (da_nil))))) (dss_nil)) (dss_one (ds_ret (de_var 2))))))
abbrev N_is_call : List Str := ["thing"]
theorem sc_is_call : FnScope N_is_call ["thing"] (defScope st_is_call) := ⟨rfl, rfl, rfl, by decide +kernel, rfl, by decide +kernel, by decide +kernel⟩
def b_is_call : MS := seqS (ifS (orT (notT (tst (op1 (isiD .tuple) (varE 0)))) (tst (op2 neD (callB lenD (consA (varE 0) (nilA))) (cE (.int 4))))) (retS (cE (.bl false))) (passS)) (seqS (ifS (orT (notT (tst (callF 3 F_is_count (consA (op2 ixD (varE 0) (cE (.int 0))) (consA (cE (.int 0)) (consA (op2 subD (cE (.int 20)) (cE (.int 1))) (nilA))))))) (orT (notT (tst (callF 3 F_is_count (consA (op2 ixD (varE 0) (cE (.int 1))) (consA (cE (.int 0)) (consA (op2 subD (cE (.int 20)) (cE (.int 1))) (nilA))))))) (tst (op2 eqD (op2 ixD (varE 0) (cE (.int 0))) (op2 ixD (varE 0) (cE (.int 1))))))) (retS (cE (.bl false))) (passS)) (retS (andE (callF 3 F_is_count (consA (op2 ixD (varE 0) (cE (.int 2))) (consA (cE (.int 0)) (consA (cE (.int 10000)) (nilA))))) (callF 3 F_is_count (consA (op2 ixD (varE 0) (cE (.int 3))) (consA (cE (.int 1)) (consA (cE (.int 1000)) (nilA))))))))
abbrev F_is_call : List D → IH → Out D := fnC 1 b_is_call
theorem cal_is_call (Fx : Fs P w K mg base T) : CalF P w K mg base T "is_call" 2 1 F_is_call := by
  obtain ⟨f, fd, F, gF⟩ := Fx.d_is_call
  have S := sc_is_call
  refine ⟨f, fd, ["thing"], rfl, gF, F.kp, F.bindsN (fun _ _ _ _ _ _ us hl => match us, hl with | [_], _ => rfl), fn_okC (k := 1) F S (fun A outer s H E hc hr tk hp => ?_)⟩
  unfold b_is_call
  exact dss_cons (ds_if (DW.dt (dw_or (dt_not (dt_val (de_isi .tuple Fx.n_isinstance Fx.n_tuple (by decide +kernel) (de_var 0)))) (dw_or1 (dt_cmp (cr_ne hr) (de_len Fx.n_len (da_cons (de_var 0) (da_nil))) (de_int))))) (dss_one (ds_ret (de_bl))) (dss_nil)) (dss_cons (ds_if (DW.dt (dw_or (dt_not (dt_val (de_call ⟨cal_is_count Fx⟩ (hr.mono (by decide)) tk (da_cons (de_item (de_var 0) (de_int)) (da_cons (de_int) (da_cons (de_sub (de_glob (by rfl) Fx.g_MOST_LINES) (de_int)) (da_nil))))))) (dw_or (dt_not (dt_val (de_call ⟨cal_is_count Fx⟩ (hr.mono (by decide)) tk (da_cons (de_item (de_var 0) (de_int)) (da_cons (de_int) (da_cons (de_sub (de_glob (by rfl) Fx.g_MOST_LINES) (de_int)) (da_nil))))))) (dw_or1 (dt_cmp (cr_eq hr) (de_item (de_var 0) (de_int)) (de_item (de_var 0) (de_int))))))) (dss_one (ds_ret (de_bl))) (dss_nil)) (dss_one (ds_ret (de_and (de_call ⟨cal_is_count Fx⟩ (hr.mono (by decide)) tk (da_cons (de_item (de_var 0) (de_int)) (da_cons (de_int) (da_cons (de_glob (by rfl) Fx.g_LATEST) (da_nil))))) (de_one (de_call ⟨cal_is_count Fx⟩ (hr.mono (by decide)) tk (da_cons (de_item (de_var 0) (de_int)) (da_cons (de_int) (da_cons (de_glob (by rfl) Fx.g_LONGEST) (da_nil))))))))))
abbrev N_need_calls : List Str := ["calls", "call"]
theorem sc_need_calls : FnScope N_need_calls ["calls"] (defScope st_need_calls) := ⟨rfl, rfl, rfl, by decide +kernel, rfl, by decide +kernel, by decide +kernel⟩
def b_need_calls : MS := ifS (orT (notT (tst (op1 (isiD .list) (varE 0)))) (orT (tst (op2 gtD (callB lenD (consA (varE 0) (nilA))) (cE (.int 60)))) (notT (tst (callB (one allD) (consA (lcE false (seqV (varE 0)) (.one 1) (yesT) (callF 1 F_is_call (consA (varE 1) (nilA))) [1]) (nilA))))))) (raiseS 16) (passS)
abbrev F_need_calls : List D → IH → Out D := fnC 2 b_need_calls
theorem cal_need_calls (Fx : Fs P w K mg base T) : CalF P w K mg base T "need_calls" 3 1 F_need_calls := by
  obtain ⟨f, fd, F, gF⟩ := Fx.d_need_calls
  have S := sc_need_calls
  refine ⟨f, fd, ["calls"], rfl, gF, F.kp, F.bindsN (fun _ _ _ _ _ _ us hl => match us, hl with | [_], _ => rfl), fn_okC (k := 2) F S (fun A outer s H E hc hr tk hp => ?_)⟩
  unfold b_need_calls
  exact dss_one (ds_if (DW.dt (dw_or (dt_not (dt_val (de_isi .list Fx.n_isinstance Fx.n_list (by decide +kernel) (de_var 0)))) (dw_or (dt_cmp cr_gt (de_len Fx.n_len (da_cons (de_var 0) (da_nil))) (de_glob (by rfl) Fx.g_MOST_CALLS)) (dw_or1 (dt_not (dt_val (de_all rfl Fx.n_all (da_cons (de_lc false (.one 1) [("call", 1)] rfl S.nd (di_seq (de_var 0)) (blkOk_by (by rfl)) (fun _ _ _ _ _ => pg_name S.nd rfl (by first | exact Or.inl rfl | exact Or.inr rfl)) (fun _ _ _ _ _ => dts_nil) (fun _ _ _ _ _ => de_call ⟨cal_is_call Fx⟩ (hr.mono (by decide)) takesN0 (da_cons (de_var 1) (da_nil)))) (da_nil))))))))) (dss_one (ds_raise 16 Fx.e_16 rfl tk)) (dss_nil))
abbrev N_led : List Str := ["calls", "cords", "found", "order", "held", "number", "one", "other", "begun", "size", "lines", "free", "row", "cord"]
theorem sc_led : FnScope N_led ["calls", "cords"] (defScope st_led) := ⟨rfl, rfl, rfl, by decide +kernel, rfl, by decide +kernel, by decide +kernel⟩
def b_led_0 : MS := seqS (asgS (op2 ixD (varE 0) (varE 5)) (tupG 4 (consG (nameG 6) (consG (nameG 7) (consG (nameG 8) (consG (nameG 9) (nilG))))))) (seqS (asgS (lcE true (seqV (varE 4)) (.one 12) (tst (op2 gtD (op2 ixD (varE 12) (cE (.int 3))) (varE 8))) (varE 12) [12]) (nameG 4)) (seqS (asgS (op2 (addD false) (lcE false (seqV (varE 4)) (.one 12) (yesT) (op2 ixD (varE 12) (cE (.int 1))) [12]) (lcE false (seqV (varE 4)) (.one 12) (yesT) (op2 ixD (varE 12) (cE (.int 2))) [12])) (nameG 10)) (seqS (asgS (lcE false (rng1V (consA (varE 1) (nilA))) (.one 13) (tst (op2 (inD true) (varE 13) (lcE false (seqV (varE 4)) (.one 12) (yesT) (op2 ixD (varE 12) (cE (.int 0))) [12]))) (varE 13) [13]) (nameG 11)) (ifS (orT (tst (op2 (inD false) (varE 6) (varE 10))) (tst (op2 (inD false) (varE 7) (varE 10)))) (setS (cE (.wd 24)) (varE 2) (varE 5)) (ifS (tst (op2 eqD (varE 11) (lstE false (nilA)))) (setS (cE (.wd 25)) (varE 2) (varE 5)) (seqS (setS (op2 ixD (varE 11) (cE (.int 0))) (varE 2) (varE 5)) (exprS (bmE appD (varE 4) (consA (tupE (consA (op2 ixD (varE 11) (cE (.int 0))) (consA (varE 6) (consA (varE 7) (consA (op2 (addD false) (varE 8) (varE 9)) (nilA)))))) (nilA))))))))))
def b_led : MS := seqS (asgS (op2 (mulD true) (lstE false (consA (cE .non) (nilA))) (callB lenD (consA (varE 0) (nilA)))) (nameG 2)) (seqS (asgS (sortKE false 0 2 (lrg1E false (callB lenD (consA (varE 0) (nilA))))) (nameG 3)) (seqS (asgS (lstE true (nilA)) (nameG 4)) (seqS (forS (seqV (varE 3)) (nameG 5) (b_led_0)) (retS (varE 2)))))
abbrev F_led : List D → IH → Out D := fnF 14 b_led
theorem cal_led (Fx : Fs P w K mg base T) : CalF P w K mg base T "led" 3 2 F_led := by
  obtain ⟨f, fd, F, gF, c, P0, hcd, TB, hmT, hu⟩ := Fx.d_led
  have S := sc_led
  refine ⟨f, fd, ["calls", "cords"], rfl, gF, F.kp, F.bindsN (fun _ _ _ _ _ _ us hl => match us, hl with | [_, _], _ => rfl), fn_ok (k := 2) F S (fun A outer s H E hc hr tk hp => ?_)⟩
  unfold b_led
  exact dss_cons (ds_set 2 S.nd (de_mul true (de_lst false (da_cons (de_non) (da_nil))) (de_len Fx.n_len (da_cons (de_var 0) (da_nil))))) (dss_cons (ds_set 3 S.nd (de_sortK (nr := 0) false 0 2 (hr.mono (by decide)) TB hcd hmT hu (lamK_by (by rfl)) (de_lrg1 false rfl Fx.n_list Fx.n_range (de_len Fx.n_len (da_cons (de_var 0) (da_nil)))) Fx.n_sorted)) (dss_cons (ds_set 4 S.nd (de_lst true (da_nil))) (dss_cons (ds_for hp rfl (di_seq (de_var 3)) (dg_name 5 S.nd) (dss_cons (ds_asg (de_item (de_var 0) (de_var 5)) (dg_tup rfl (dgs_cons (dg_name 6 S.nd) (dgs_cons (dg_name 7 S.nd) (dgs_cons (dg_name 8 S.nd) (dgs_cons (dg_name 9 S.nd) (dgs_nil))))))) (dss_cons (ds_set 4 S.nd (de_lc true (.one 12) [("row", 12)] rfl S.nd (di_seq (de_var 4)) (blkOk_by (by rfl)) (fun _ _ _ _ _ => pg_name S.nd rfl (by first | exact Or.inl rfl | exact Or.inr rfl)) (fun _ _ _ _ _ => dts_one (dt_cmp cr_gt (de_item (de_var 12) (de_int)) (de_var 8))) (fun _ _ _ _ _ => de_var 12))) (dss_cons (ds_set 10 S.nd (de_add false (de_lc false (.one 12) [("row", 12)] rfl S.nd (di_seq (de_var 4)) (blkOk_by (by rfl)) (fun _ _ _ _ _ => pg_name S.nd rfl (by first | exact Or.inl rfl | exact Or.inr rfl)) (fun _ _ _ _ _ => dts_nil) (fun _ _ _ _ _ => de_item (de_var 12) (de_int))) (de_lc false (.one 12) [("row", 12)] rfl S.nd (di_seq (de_var 4)) (blkOk_by (by rfl)) (fun _ _ _ _ _ => pg_name S.nd rfl (by first | exact Or.inl rfl | exact Or.inr rfl)) (fun _ _ _ _ _ => dts_nil) (fun _ _ _ _ _ => de_item (de_var 12) (de_int))))) (dss_cons (ds_setLc 11 false (.one 13) [("cord", 13)] rfl S.nd (di_range1 Fx.n_range (da_cons (de_var 1) (da_nil))) (blkOk_by (by rfl)) (fun _ _ _ _ _ => pg_name S.nd rfl (by first | exact Or.inl rfl | exact Or.inr rfl)) (fun _ _ _ _ _ => dts_one (dt_cmp cr_notin (de_var 13) (de_lc false (.one 12) [("row", 12)] rfl S.nd (di_seq (de_var 4)) (blkOk_by (by rfl)) (fun _ _ _ _ _ => pg_name S.nd rfl (by first | exact Or.inl rfl | exact Or.inr rfl)) (fun _ _ _ _ _ => dts_nil) (fun _ _ _ _ _ => de_item (de_var 12) (de_int))))) (fun _ _ _ _ _ => de_var 13)) (dss_one (ds_if (DW.dt (dw_or (dt_cmp cr_in (de_var 6) (de_var 10)) (dw_or1 (dt_cmp cr_in (de_var 7) (de_var 10))))) (dss_one (ds_setItem (de_wd 24) (de_var 2) (de_var 5))) (dss_one (ds_if (dt_cmp (cr_eq hr) (de_var 11) (de_lst false (da_nil))) (dss_one (ds_setItem (de_wd 25) (de_var 2) (de_var 5))) (dss_cons (ds_setItem (de_item (de_var 11) (de_int)) (de_var 2) (de_var 5)) (dss_one (ds_expr (de_append (de_var 4) (da_cons (de_tup (da_cons (de_item (de_var 11) (de_int)) (da_cons (de_var 6) (da_cons (de_var 7) (da_cons (de_add false (de_var 8) (de_var 9)) (da_nil)))))) (da_nil))))))))))))))) (dss_one (ds_ret (de_var 2))))))
abbrev N_carried : List Str := ["calls", "cords"]
theorem sc_carried : FnScope N_carried ["calls", "cords"] (defScope st_carried) := ⟨rfl, rfl, rfl, by decide +kernel, rfl, by decide +kernel, by decide +kernel⟩
def b_carried : MS := seqS (exprS (callF 1 F_need_calls (consA (varE 0) (nilA)))) (seqS (ifS (notT (tst (callF 3 F_is_count (consA (varE 1) (consA (cE (.int 0)) (consA (cE (.int 8)) (nilA))))))) (raiseS 11) (passS)) (retS (callF 2 F_led (consA (varE 0) (consA (varE 1) (nilA))))))
abbrev F_carried : List D → IH → Out D := fnF 2 b_carried
theorem cal_carried (Fx : Fs P w K mg base T) : CalF P w K mg base T "carried" 4 2 F_carried := by
  obtain ⟨f, fd, F, gF⟩ := Fx.d_carried
  have S := sc_carried
  refine ⟨f, fd, ["calls", "cords"], rfl, gF, F.kp, F.bindsN (fun _ _ _ _ _ _ us hl => match us, hl with | [_, _], _ => rfl), fn_ok (k := 3) F S (fun A outer s H E hc hr tk hp => ?_)⟩
  unfold b_carried
  exact dss_cons (ds_expr (de_call ⟨cal_need_calls Fx⟩ (hr.mono (by decide)) tk (da_cons (de_var 0) (da_nil)))) (dss_cons (ds_if (dt_not (dt_val (de_call ⟨cal_is_count Fx⟩ (hr.mono (by decide)) tk (da_cons (de_var 1) (da_cons (de_int) (da_cons (de_glob (by rfl) Fx.g_MOST_CORDS) (da_nil))))))) (dss_one (ds_raise 11 Fx.e_11 rfl tk)) (dss_nil)) (dss_one (ds_ret (de_call ⟨cal_led Fx⟩ (hr.mono (by decide)) tk (da_cons (de_var 0) (da_cons (de_var 1) (da_nil)))))))
abbrev N_is_part : List Str := ["thing", "shape"]
theorem sc_is_part : FnScope N_is_part ["thing", "shape"] (defScope st_is_part) := ⟨rfl, rfl, rfl, by decide +kernel, rfl, by decide +kernel, by decide +kernel⟩
def b_is_part : MS := seqS (ifS (tst (op2 eqD (varE 1) (cE (.wd 35)))) (retS (op1 (isiD .bool) (varE 0))) (passS)) (seqS (ifS (tst (op2 eqD (varE 1) (cE (.wd 36)))) (retS (andE (op1 (isiD .str) (varE 0)) (op2 (inD false) (varE 0) (cE (.tup [(.wd 12), (.wd 13)]))))) (passS)) (retS (andE (op1 (isiD .int) (varE 0)) (andE (op1 notD (op1 (isiD .bool) (varE 0))) (chE leD leD (cE (.int 0)) (varE 0) (op2 powD (cE (.int 10)) (cE (.int 6))))))))
abbrev F_is_part : List D → IH → Out D := fnF 2 b_is_part
theorem cal_is_part (Fx : Fs P w K mg base T) : CalF P w K mg base T "is_part" 1 2 F_is_part := by
  obtain ⟨f, fd, F, gF⟩ := Fx.d_is_part
  have S := sc_is_part
  refine ⟨f, fd, ["thing", "shape"], rfl, gF, F.kp, F.bindsN (fun _ _ _ _ _ _ us hl => match us, hl with | [_, _], _ => rfl), fn_ok (k := 0) F S (fun A outer s H E hc hr tk hp => ?_)⟩
  unfold b_is_part
  exact dss_cons (ds_if (dt_cmp (cr_eq hr) (de_var 1) (de_wd 35)) (dss_one (ds_ret (de_isi .bool Fx.n_isinstance Fx.n_bool (by decide +kernel) (de_var 0)))) (dss_nil)) (dss_cons (ds_if (dt_cmp (cr_eq hr) (de_var 1) (de_wd 36)) (dss_one (ds_ret (de_and (de_isi .str Fx.n_isinstance Fx.n_str (by decide +kernel) (de_var 0)) (de_one (de_cmp cr_in (de_var 0) (de_glob (by rfl) Fx.g_ENDS)))))) (dss_nil)) (dss_one (ds_ret (de_and (de_isi .int Fx.n_isinstance Fx.n_int (by decide +kernel) (de_var 0)) (de_and (de_not (de_isi .bool Fx.n_isinstance Fx.n_bool (by decide +kernel) (de_var 0))) (de_one (de_chain cr_le cr_le (de_int) (de_var 0) (de_pow (de_int) (de_int)))))))))
abbrev N_is_deed : List Str := ["thing", "shapes", "part", "shape"]
theorem sc_is_deed : FnScope N_is_deed ["thing"] (defScope st_is_deed) := ⟨rfl, rfl, rfl, by decide +kernel, rfl, by decide +kernel, by decide +kernel⟩
def b_is_deed : MS := seqS (ifS (orT (notT (tst (op1 (isiD .tuple) (varE 0)))) (orT (tst (op2 eqD (varE 0) (tupE (nilA)))) (orT (notT (tst (op1 (isiD .str) (op2 ixD (varE 0) (cE (.int 0)))))) (tst (op1 (tabIn true [(14, [34, 35]), (15, [34, 36, 34]), (16, [34, 36]), (17, [34, 35]), (18, [34, 35]), (19, [34]), (20, [])]) (op2 ixD (varE 0) (cE (.int 0)))))))) (retS (cE (.bl false))) (passS)) (seqS (asgS (op1 (tabIx [(14, [34, 35]), (15, [34, 36, 34]), (16, [34, 36]), (17, [34, 35]), (18, [34, 35]), (19, [34]), (20, [])]) (op2 ixD (varE 0) (cE (.int 0)))) (nameG 1)) (retS (andE (op2 eqD (callB lenD (consA (varE 0) (nilA))) (op2 (addD false) (callB lenD (consA (varE 1) (nilA))) (cE (.int 1)))) (callB (one allD) (consA (lcE false (zipT (consA (slE false (varE 0) (someP (cE (.int 1))) (noP)) (consA (varE 1) (nilA)))) (.many [2, 3]) (yesT) (callF 2 F_is_part (consA (varE 2) (consA (varE 3) (nilA)))) [2, 3]) (nilA))))))
abbrev F_is_deed : List D → IH → Out D := fnF 4 b_is_deed
theorem cal_is_deed (Fx : Fs P w K mg base T) : CalF P w K mg base T "is_deed" 2 1 F_is_deed := by
  obtain ⟨f, fd, F, gF⟩ := Fx.d_is_deed
  have S := sc_is_deed
  refine ⟨f, fd, ["thing"], rfl, gF, F.kp, F.bindsN (fun _ _ _ _ _ _ us hl => match us, hl with | [_], _ => rfl), fn_ok (k := 1) F S (fun A outer s H E hc hr tk hp => ?_)⟩
  unfold b_is_deed
  exact dss_cons (ds_if (DW.dt (dw_or (dt_not (dt_val (de_isi .tuple Fx.n_isinstance Fx.n_tuple (by decide +kernel) (de_var 0)))) (dw_or (dt_cmp (cr_eq hr) (de_var 0) (de_tup (da_nil))) (dw_or (dt_not (dt_val (de_isi .str Fx.n_isinstance Fx.n_str (by decide +kernel) (de_item (de_var 0) (de_int))))) (dw_or1 (dt_tabNotIn Fx.s_SHAPES (de_item (de_var 0) (de_int)))))))) (dss_one (ds_ret (de_bl))) (dss_nil)) (dss_cons (ds_set 1 S.nd (de_tabIx Fx.s_SHAPES (de_item (de_var 0) (de_int)))) (dss_one (ds_ret (de_and (de_cmp (cr_eq hr) (de_len Fx.n_len (da_cons (de_var 0) (da_nil))) (de_add false (de_len Fx.n_len (da_cons (de_var 1) (da_nil))) (de_int))) (de_one (de_all rfl Fx.n_all (da_cons (de_lc false (.many [2, 3]) [("part", 2), ("shape", 3)] rfl S.nd (di_zipT Fx.n_zip (da_cons (de_slice false (de_var 0) (do_some (de_int)) (do_none)) (da_cons (de_var 1) (da_nil)))) (blkOk_by (by rfl)) (fun _ _ _ _ _ => pg_tup rfl (pgs_cons (pg_name S.nd rfl (by first | exact Or.inl rfl | exact Or.inr rfl)) (pgs_cons (pg_name S.nd rfl (by first | exact Or.inl rfl | exact Or.inr rfl)) (pgs_nil)))) (fun _ _ _ _ _ => dts_nil) (fun _ _ _ _ _ => de_call ⟨cal_is_part Fx⟩ (hr.mono (by decide)) takesN0 (da_cons (de_var 2) (da_cons (de_var 3) (da_nil))))) (da_nil))))))))
abbrev N_part_text : List Str := ["part"]
theorem sc_part_text : FnScope N_part_text ["part"] (defScope st_part_text) := ⟨rfl, rfl, rfl, by decide +kernel, rfl, by decide +kernel, by decide +kernel⟩
def b_part_text : MS := retS (iteE (tst (op1 (isiD .bool) (varE 0))) (op1 (truIx 37 38) (varE 0)) (callB (one strB) (consA (varE 0) (nilA))))
abbrev F_part_text : List D → IH → Out D := fnF 1 b_part_text
theorem cal_part_text (Fx : Fs P w K mg base T) : CalF P w K mg base T "part_text" 1 1 F_part_text := by
  obtain ⟨f, fd, F, gF⟩ := Fx.d_part_text
  have S := sc_part_text
  refine ⟨f, fd, ["part"], rfl, gF, F.kp, F.bindsN (fun _ _ _ _ _ _ us hl => match us, hl with | [_], _ => rfl), fn_ok (k := 0) F S (fun A outer s H E hc hr tk hp => ?_)⟩
  unfold b_part_text
  exact dss_one (ds_ret (de_ifExp (dt_val (de_isi .bool Fx.n_isinstance Fx.n_bool (by decide +kernel) (de_var 0))) (de_truIx Fx.s_TRUTHS (de_var 0)) (de_str1 Fx.n_str (da_cons (de_var 0) (da_nil)))))
abbrev N_deed_text : List Str := ["deed", "part"]
theorem sc_deed_text : FnScope N_deed_text ["deed"] (defScope st_deed_text) := ⟨rfl, rfl, rfl, by decide +kernel, rfl, by decide +kernel, by decide +kernel⟩
def b_deed_text : MS := retS (joinE (cE (.wd 50)) (op2 (addD false) (lstE false (consA (op2 ixD (varE 0) (cE (.int 0))) (nilA))) (lcE false (seqV (slE false (varE 0) (someP (cE (.int 1))) (noP))) (.one 1) (yesT) (callF 1 F_part_text (consA (varE 1) (nilA))) [1])))
abbrev F_deed_text : List D → IH → Out D := fnF 2 b_deed_text
theorem cal_deed_text (Fx : Fs P w K mg base T) : CalF P w K mg base T "deed_text" 2 1 F_deed_text := by
  obtain ⟨f, fd, F, gF⟩ := Fx.d_deed_text
  have S := sc_deed_text
  refine ⟨f, fd, ["deed"], rfl, gF, F.kp, F.bindsN (fun _ _ _ _ _ _ us hl => match us, hl with | [_], _ => rfl), fn_ok (k := 1) F S (fun A outer s H E hc hr tk hp => ?_)⟩
  unfold b_deed_text
  exact dss_one (ds_ret (de_join (de_wd 50) (de_add false (de_lst false (da_cons (de_item (de_var 0) (de_int)) (da_nil))) (de_lc false (.one 1) [("part", 1)] rfl S.nd (di_seq (de_slice false (de_var 0) (do_some (de_int)) (do_none))) (blkOk_by (by rfl)) (fun _ _ _ _ _ => pg_name S.nd rfl (by first | exact Or.inl rfl | exact Or.inr rfl)) (fun _ _ _ _ _ => dts_nil) (fun _ _ _ _ _ => de_call ⟨cal_part_text Fx⟩ (hr.mono (by decide)) takesN0 (da_cons (de_var 1) (da_nil)))))))
abbrev N_written : List Str := ["deed"]
theorem sc_written : FnScope N_written ["deed"] (defScope st_written) := ⟨rfl, rfl, rfl, by decide +kernel, rfl, by decide +kernel, by decide +kernel⟩
def b_written : MS := seqS (ifS (notT (tst (callF 1 F_is_deed (consA (varE 0) (nilA))))) (raiseS 12) (passS)) (retS (callF 1 F_deed_text (consA (varE 0) (nilA))))
abbrev F_written : List D → IH → Out D := fnF 1 b_written
theorem cal_written (Fx : Fs P w K mg base T) : CalF P w K mg base T "written" 3 1 F_written := by
  obtain ⟨f, fd, F, gF⟩ := Fx.d_written
  have S := sc_written
  refine ⟨f, fd, ["deed"], rfl, gF, F.kp, F.bindsN (fun _ _ _ _ _ _ us hl => match us, hl with | [_], _ => rfl), fn_ok (k := 2) F S (fun A outer s H E hc hr tk hp => ?_)⟩
  unfold b_written
  exact dss_cons (ds_if (dt_not (dt_val (de_call ⟨cal_is_deed Fx⟩ (hr.mono (by decide)) tk (da_cons (de_var 0) (da_nil))))) (dss_one (ds_raise 12 Fx.e_12 rfl tk)) (dss_nil)) (dss_one (ds_ret (de_call ⟨cal_deed_text Fx⟩ (hr.mono (by decide)) tk (da_cons (de_var 0) (da_nil)))))
abbrev N_part_in : List Str := ["text", "sign"]
theorem sc_part_in : FnScope N_part_in ["text"] (defScope st_part_in) := ⟨rfl, rfl, rfl, by decide +kernel, rfl, by decide +kernel, by decide +kernel⟩
def b_part_in : MS := seqS (ifS (tst (op2 (inD false) (varE 0) (tupE (consA (cE (.wd 37)) (consA (cE (.wd 38)) (nilA)))))) (retS (op2 eqD (varE 0) (cE (.wd 37)))) (passS)) (seqS (ifS (andT (tst (chE leD leD (cE (.int 1)) (callB lenD (consA (varE 0) (nilA))) (cE (.int 7)))) (tst (callB (one allD) (consA (lcE false (strV (varE 0)) (.one 1) (yesT) (op2 inS (varE 1) (cE (.wd 52))) [1]) (nilA))))) (retS (callB (one intS) (consA (varE 0) (nilA)))) (passS)) (retS (varE 0)))
abbrev F_part_in : List D → IH → Out D := fnF 2 b_part_in
theorem cal_part_in (Fx : Fs P w K mg base T) : CalF P w K mg base T "part_in" 1 1 F_part_in := by
  obtain ⟨f, fd, F, gF⟩ := Fx.d_part_in
  have S := sc_part_in
  refine ⟨f, fd, ["text"], rfl, gF, F.kp, F.bindsN (fun _ _ _ _ _ _ us hl => match us, hl with | [_], _ => rfl), fn_ok (k := 0) F S (fun A outer s H E hc hr tk hp => ?_)⟩
  unfold b_part_in
  exact dss_cons (ds_if (dt_cmp cr_in (de_var 0) (de_tup (da_cons (de_wd 37) (da_cons (de_wd 38) (da_nil))))) (dss_one (ds_ret (de_cmp (cr_eq hr) (de_var 0) (de_wd 37)))) (dss_nil)) (dss_cons (ds_if (DW.dt (dw_and (dt_chain cr_le cr_le (de_int) (de_len Fx.n_len (da_cons (de_var 0) (da_nil))) (de_int)) (dw_and1 (dt_val (de_all rfl Fx.n_all (da_cons (de_lc false (.one 1) [("sign", 1)] rfl S.nd (di_str (de_var 0)) (blkOk_by (by rfl)) (fun _ _ _ _ _ => pg_name S.nd rfl (by first | exact Or.inl rfl | exact Or.inr rfl)) (fun _ _ _ _ _ => dts_nil) (fun _ _ _ _ _ => de_cmp cr_inS (de_var 1) (de_wd 52))) (da_nil))))))) (dss_one (ds_ret (de_intS Fx.n_int (da_cons (de_var 0) (da_nil))))) (dss_nil)) (dss_one (ds_ret (de_var 0))))
abbrev N_read : List Str := ["text", "parts", "found", "part"]
theorem sc_read : FnScope N_read ["text"] (defScope st_read) := ⟨rfl, rfl, rfl, by decide +kernel, rfl, by decide +kernel, by decide +kernel⟩
def b_read : MS := seqS (ifS (notT (tst (op1 (isiD .str) (varE 0)))) (raiseS 18) (passS)) (seqS (asgS (splitE false (varE 0) (cE (.wd 50))) (nameG 1)) (seqS (asgS (callB (one tupleD) (consA (op2 (addD false) (slE false (varE 1) (noP) (someP (cE (.int 1)))) (lcE false (seqV (slE false (varE 1) (someP (cE (.int 1))) (noP))) (.one 3) (yesT) (callF 1 F_part_in (consA (varE 3) (nilA))) [3])) (nilA))) (nameG 2)) (seqS (ifS (orT (notT (tst (callF 1 F_is_deed (consA (varE 2) (nilA))))) (tst (op2 neD (callF 1 F_deed_text (consA (varE 2) (nilA))) (varE 0)))) (raiseS 18) (passS)) (retS (varE 2)))))
abbrev F_read : List D → IH → Out D := fnF 4 b_read
theorem cal_read (Fx : Fs P w K mg base T) : CalF P w K mg base T "read" 3 1 F_read := by
  obtain ⟨f, fd, F, gF⟩ := Fx.d_read
  have S := sc_read
  refine ⟨f, fd, ["text"], rfl, gF, F.kp, F.bindsN (fun _ _ _ _ _ _ us hl => match us, hl with | [_], _ => rfl), fn_ok (k := 2) F S (fun A outer s H E hc hr tk hp => ?_)⟩
  unfold b_read
  exact dss_cons (ds_if (dt_not (dt_val (de_isi .str Fx.n_isinstance Fx.n_str (by decide +kernel) (de_var 0)))) (dss_one (ds_raise 18 Fx.e_18 rfl tk)) (dss_nil)) (dss_cons (ds_set 1 S.nd (de_split false (de_var 0) (de_wd 50))) (dss_cons (ds_set 2 S.nd (de_tuple Fx.n_tuple (da_cons (de_add false (de_slice false (de_var 1) (do_none) (do_some (de_int))) (de_lc false (.one 3) [("part", 3)] rfl S.nd (di_seq (de_slice false (de_var 1) (do_some (de_int)) (do_none))) (blkOk_by (by rfl)) (fun _ _ _ _ _ => pg_name S.nd rfl (by first | exact Or.inl rfl | exact Or.inr rfl)) (fun _ _ _ _ _ => dts_nil) (fun _ _ _ _ _ => de_call ⟨cal_part_in Fx⟩ (hr.mono (by decide)) takesN0 (da_cons (de_var 3) (da_nil))))) (da_nil)))) (dss_cons (ds_if (DW.dt (dw_or (dt_not (dt_val (de_call ⟨cal_is_deed Fx⟩ (hr.mono (by decide)) tk (da_cons (de_var 2) (da_nil))))) (dw_or1 (dt_cmp (cr_ne hr) (de_call ⟨cal_deed_text Fx⟩ (hr.mono (by decide)) tk (da_cons (de_var 2) (da_nil))) (de_var 0))))) (dss_one (ds_raise 18 Fx.e_18 rfl tk)) (dss_nil)) (dss_one (ds_ret (de_var 2))))))
abbrev N_greatest : List Str := ["calls", "told", "rows", "counts", "most", "call", "cord", "tick", "later", "begun", "over"]
theorem sc_greatest : FnScope N_greatest ["calls"] (defScope st_greatest) := ⟨rfl, rfl, rfl, by decide +kernel, rfl, by decide +kernel, by decide +kernel⟩
def b_greatest : MS := seqS (exprS (callF 1 F_need_calls (consA (varE 0) (nilA)))) (seqS (asgS (callF 2 F_led (consA (varE 0) (consA (cE (.int 20)) (nilA)))) (nameG 1)) (seqS (asgS (lcE false (zipE (consA (varE 0) (consA (varE 1) (nilA)))) (.many [5, 6]) (tst (op2 neD (varE 6) (cE (.wd 24)))) (tupE (consA (op2 ixD (varE 5) (cE (.int 2))) (consA (op2 (addD false) (op2 ixD (varE 5) (cE (.int 2))) (op2 ixD (varE 5) (cE (.int 3)))) (nilA)))) [5, 6]) (nameG 2)) (seqS (ifS (tst (op2 eqD (varE 2) (lstE false (nilA)))) (retS (cE .non)) (passS)) (seqS (asgS (lcE false (seqV (varE 2)) (.many [7, 8]) (yesT) (tupE (consA (callB lenD (consA (lcE false (seqV (varE 2)) (.many [9, 10]) (tst (chE leD ltD (varE 9) (varE 7) (varE 10))) (cE (.int 1)) [9, 10]) (nilA))) (consA (op2 subD (cE (.int 0)) (varE 7)) (nilA)))) [7, 8]) (nameG 3)) (seqS (asgS (callB (one maxTD) (consA (varE 3) (nilA))) (nameG 4)) (retS (tupE (consA (op2 ixD (varE 4) (cE (.int 0))) (consA (op2 subD (cE (.int 0)) (op2 ixD (varE 4) (cE (.int 1)))) (nilA))))))))))
abbrev F_greatest : List D → IH → Out D := fnC 11 b_greatest
theorem cal_greatest (Fx : Fs P w K mg base T) : CalF P w K mg base T "greatest" 4 1 F_greatest := by
  obtain ⟨f, fd, F, gF⟩ := Fx.d_greatest
  have S := sc_greatest
  refine ⟨f, fd, ["calls"], rfl, gF, F.kp, F.bindsN (fun _ _ _ _ _ _ us hl => match us, hl with | [_], _ => rfl), fn_okC (k := 3) F S (fun A outer s H E hc hr tk hp => ?_)⟩
  unfold b_greatest
  exact dss_cons (ds_expr (de_call ⟨cal_need_calls Fx⟩ (hr.mono (by decide)) tk (da_cons (de_var 0) (da_nil)))) (dss_cons (ds_set 1 S.nd (de_call ⟨cal_led Fx⟩ (hr.mono (by decide)) tk (da_cons (de_var 0) (da_cons (de_glob (by rfl) Fx.g_MOST_LINES) (da_nil))))) (dss_cons (ds_set 2 S.nd (de_lc false (.many [5, 6]) [("call", 5), ("cord", 6)] rfl S.nd (di_zip Fx.n_zip (da_cons (de_var 0) (da_cons (de_var 1) (da_nil)))) (blkOk_by (by rfl)) (fun _ _ _ _ _ => pg_tup rfl (pgs_cons (pg_name S.nd rfl (by first | exact Or.inl rfl | exact Or.inr rfl)) (pgs_cons (pg_name S.nd rfl (by first | exact Or.inl rfl | exact Or.inr rfl)) (pgs_nil)))) (fun _ _ _ _ _ => dts_one (dt_cmp (cr_ne hr) (de_var 6) (de_wd 24))) (fun _ _ _ _ _ => de_tup (da_cons (de_item (de_var 5) (de_int)) (da_cons (de_add false (de_item (de_var 5) (de_int)) (de_item (de_var 5) (de_int))) (da_nil)))))) (dss_cons (ds_if (dt_cmp (cr_eq hr) (de_var 2) (de_lst false (da_nil))) (dss_one (ds_ret (de_non))) (dss_nil)) (dss_cons (ds_setLc 3 false (.many [7, 8]) [("tick", 7), ("later", 8)] rfl S.nd (di_seq (de_var 2)) (blkOk_by (by rfl)) (fun _ _ _ _ _ => pg_tup rfl (pgs_cons (pg_name S.nd rfl (by first | exact Or.inl rfl | exact Or.inr rfl)) (pgs_cons (pg_name S.nd rfl (by first | exact Or.inl rfl | exact Or.inr rfl)) (pgs_nil)))) (fun _ _ _ _ _ => dts_nil) (fun _ _ _ _ _ => de_tup (da_cons (de_len Fx.n_len (da_cons (de_lc false (.many [9, 10]) [("begun", 9), ("over", 10)] rfl S.nd (di_seq (de_var 2)) (blkOk_by (by rfl)) (fun _ _ _ _ _ => pg_tup rfl (pgs_cons (pg_name S.nd rfl (by first | exact Or.inl rfl | exact Or.inr rfl)) (pgs_cons (pg_name S.nd rfl (by first | exact Or.inl rfl | exact Or.inr rfl)) (pgs_nil)))) (fun _ _ _ _ _ => dts_one (dt_chain cr_le cr_lt (de_var 9) (de_var 7) (de_var 10))) (fun _ _ _ _ _ => de_int)) (da_nil))) (da_cons (de_sub (de_int) (de_var 7)) (da_nil))))) (dss_cons (ds_set 4 S.nd (de_maxT hr Fx.n_max (da_cons (de_var 3) (da_nil)))) (dss_one (ds_ret (de_tup (da_cons (de_item (de_var 4) (de_int)) (da_cons (de_sub (de_int) (de_item (de_var 4) (de_int))) (da_nil)))))))))))
abbrev N_fewest : List Str := ["calls", "some", "cord"]
theorem sc_fewest : FnScope N_fewest ["calls"] (defScope st_fewest) := ⟨rfl, rfl, rfl, by decide +kernel, rfl, by decide +kernel, by decide +kernel⟩
def b_fewest : MS := seqS (exprS (callF 1 F_need_calls (consA (varE 0) (nilA)))) (seqS (asgS (lcE false (seqV (callF 2 F_led (consA (varE 0) (consA (cE (.int 20)) (nilA))))) (.one 2) (tst (op2 neD (varE 2) (cE (.wd 24)))) (varE 2) [2]) (nameG 1)) (retS (callB (one maxD) (consA (op2 (addD false) (lstE false (consA (cE (.int 0)) (nilA))) (lcE false (seqV (varE 1)) (.one 2) (yesT) (op2 (addD false) (varE 2) (cE (.int 1))) [2])) (nilA)))))
abbrev F_fewest : List D → IH → Out D := fnC 3 b_fewest
theorem cal_fewest (Fx : Fs P w K mg base T) : CalF P w K mg base T "fewest" 4 1 F_fewest := by
  obtain ⟨f, fd, F, gF⟩ := Fx.d_fewest
  have S := sc_fewest
  refine ⟨f, fd, ["calls"], rfl, gF, F.kp, F.bindsN (fun _ _ _ _ _ _ us hl => match us, hl with | [_], _ => rfl), fn_okC (k := 3) F S (fun A outer s H E hc hr tk hp => ?_)⟩
  unfold b_fewest
  exact dss_cons (ds_expr (de_call ⟨cal_need_calls Fx⟩ (hr.mono (by decide)) tk (da_cons (de_var 0) (da_nil)))) (dss_cons (ds_setLc 1 false (.one 2) [("cord", 2)] rfl S.nd (di_seq (de_call ⟨cal_led Fx⟩ (hr.mono (by decide)) tk (da_cons (de_var 0) (da_cons (de_glob (by rfl) Fx.g_MOST_LINES) (da_nil))))) (blkOk_by (by rfl)) (fun _ _ _ _ _ => pg_name S.nd rfl (by first | exact Or.inl rfl | exact Or.inr rfl)) (fun _ _ _ _ _ => dts_one (dt_cmp (cr_ne hr) (de_var 2) (de_wd 24))) (fun _ _ _ _ _ => de_var 2)) (dss_one (ds_ret (de_max1 rfl Fx.n_max (da_cons (de_add false (de_lst false (da_cons (de_int) (da_nil))) (de_lc false (.one 2) [("cord", 2)] rfl S.nd (di_seq (de_var 1)) (blkOk_by (by rfl)) (fun _ _ _ _ _ => pg_name S.nd rfl (by first | exact Or.inl rfl | exact Or.inr rfl)) (fun _ _ _ _ _ => dts_nil) (fun _ _ _ _ _ => de_add false (de_var 2) (de_int)))) (da_nil))))))
abbrev N_Board_pull : List Str := ["self", "cord", "end", "at", "line", "own", "over"]
theorem sc_Board_pull : FnScope N_Board_pull ["self", "cord", "end"] (defScope st_Board_pull) := ⟨rfl, rfl, rfl, by decide +kernel, rfl, by decide +kernel, by decide +kernel⟩
def b_Board_pull : MS := seqS (exprS (metE 2 2 F_Board_need_cord (varE 0) (consA (varE 1) (nilA)))) (seqS (asgS (metE 2 2 F_Board_need_end (varE 0) (consA (varE 2) (nilA))) (nameG 3)) (seqS (asgS (op2 ixD (op1 (fldD 1 0) (op2 ixD (op1 (fldD 2 1) (varE 0)) (varE 1))) (varE 3)) (nameG 4)) (seqS (ifS (tst (op1 isN (varE 4))) (raiseS 14) (passS)) (seqS (exprS (metE 2 1 F_Board_keep (varE 0) nilA)) (seqS (asgS (op2 ixD (op1 (fldD 2 1) (varE 0)) (varE 1)) (nameG 5)) (seqS (ifS (tst (op1 isNN (op1 (fldD 1 5) (varE 5)))) (seqS (asgS (iteE (tst (op1 isN (op2 ixD (op1 (fldD 1 5) (varE 5)) (cE (.int 3))))) (op1 (fldD 2 2) (varE 0)) (op2 ixD (op1 (fldD 1 5) (varE 5)) (cE (.int 3)))) (nameG 6)) (seqS (exprS (bmE appD (op1 (fldD 2 4) (varE 0)) (consA (tupE (consA (varE 1) (consA (op2 ixD (op1 (fldD 1 5) (varE 5)) (cE (.int 0))) (consA (op2 ixD (op1 (fldD 1 5) (varE 5)) (cE (.int 1))) (consA (op2 ixD (op1 (fldD 1 5) (varE 5)) (cE (.int 2))) (consA (varE 6) (consA (op1 (fldD 2 2) (varE 0)) (nilA)))))))) (nilA)))) (asgS (cE .non) (fldG 1 5 (varE 5))))) (passS)) (seqS (setS (cE .non) (op1 (fldD 1 0) (varE 5)) (varE 3)) (retS (varE 4)))))))))
abbrev F_Board_pull : List D → IH → Out D := fnF 7 b_Board_pull
theorem met_Board_pull (Fx : Fs P w K mg base T) : MetF P w K mg base T 2 "pull" 5 3 F_Board_pull := by
  obtain ⟨C, f, fd, gC, hC, hM, F⟩ := Fx.d_Board_pull
  have S := sc_Board_pull
  refine ⟨C, f, fd, ["self", "cord", "end"], rfl, gC, hC, hM, F.bindsN (fun _ _ _ _ _ _ us hl => match us, hl with | [_, _, _], _ => rfl), fn_ok (k := 4) F S (fun A outer s H E hc hr tk hp => ?_), by decide +kernel⟩
  unfold b_Board_pull
  exact dss_cons (ds_expr (de_meth (met_Board_need_cord Fx) (hr.mono (by decide)) tk (de_var 0) (da_cons (de_var 1) (da_nil)))) (dss_cons (ds_set 3 S.nd (de_meth (met_Board_need_end Fx) (hr.mono (by decide)) tk (de_var 0) (da_cons (de_var 2) (da_nil)))) (dss_cons (ds_set 4 S.nd (de_item (de_fld 1 0 Fx.c_1 (de_item (de_fld 2 1 Fx.c_2 (de_var 0)) (de_var 1))) (de_var 3))) (dss_cons (ds_if (dt_isN (de_var 4)) (dss_one (ds_raise 14 Fx.e_14 rfl tk)) (dss_nil)) (dss_cons (ds_expr (de_meth0 (met_Board_keep Fx) (hr.mono (by decide)) tk (de_var 0))) (dss_cons (ds_set 5 S.nd (de_item (de_fld 2 1 Fx.c_2 (de_var 0)) (de_var 1))) (dss_cons (ds_if (dt_isNN (de_fld 1 5 Fx.c_1 (de_var 5))) (dss_cons (ds_set 6 S.nd (de_ifExp (dt_isN (de_item (de_fld 1 5 Fx.c_1 (de_var 5)) (de_int))) (de_fld 2 2 Fx.c_2 (de_var 0)) (de_item (de_fld 1 5 Fx.c_1 (de_var 5)) (de_int)))) (dss_cons (ds_expr (de_append (de_fld 2 4 Fx.c_2 (de_var 0)) (da_cons (de_tup (da_cons (de_var 1) (da_cons (de_item (de_fld 1 5 Fx.c_1 (de_var 5)) (de_int)) (da_cons (de_item (de_fld 1 5 Fx.c_1 (de_var 5)) (de_int)) (da_cons (de_item (de_fld 1 5 Fx.c_1 (de_var 5)) (de_int)) (da_cons (de_var 6) (da_cons (de_fld 2 2 Fx.c_2 (de_var 0)) (da_nil)))))))) (da_nil)))) (dss_one (ds_asg (de_non) (dg_fld 1 5 Fx.c_1 (fun E => de_var 5) (varE_ne)))))) (dss_nil)) (dss_cons (ds_setItem (de_non) (de_fld 1 0 Fx.c_1 (de_var 5)) (de_var 3)) (dss_one (ds_ret (de_var 4))))))))))
abbrev N_Board_ring : List Str := ["self", "cord", "is_on"]
theorem sc_Board_ring : FnScope N_Board_ring ["self", "cord", "is_on"] (defScope st_Board_ring) := ⟨rfl, rfl, rfl, by decide +kernel, rfl, by decide +kernel, by decide +kernel⟩
def b_Board_ring : MS := seqS (exprS (metE 2 2 F_Board_need_cord (varE 0) (consA (varE 1) (nilA)))) (seqS (exprS (callF 1 F_need_truth (consA (varE 2) (nilA)))) (seqS (exprS (metE 2 1 F_Board_keep (varE 0) nilA)) (asgS (varE 2) (fldG 1 3 (op2 ixD (op1 (fldD 2 1) (varE 0)) (varE 1))))))
abbrev F_Board_ring : List D → IH → Out D := fnF 3 b_Board_ring
theorem met_Board_ring (Fx : Fs P w K mg base T) : MetF P w K mg base T 2 "ring" 5 3 F_Board_ring := by
  obtain ⟨C, f, fd, gC, hC, hM, F⟩ := Fx.d_Board_ring
  have S := sc_Board_ring
  refine ⟨C, f, fd, ["self", "cord", "is_on"], rfl, gC, hC, hM, F.bindsN (fun _ _ _ _ _ _ us hl => match us, hl with | [_, _, _], _ => rfl), fn_ok (k := 4) F S (fun A outer s H E hc hr tk hp => ?_), by decide +kernel⟩
  unfold b_Board_ring
  exact dss_cons (ds_expr (de_meth (met_Board_need_cord Fx) (hr.mono (by decide)) tk (de_var 0) (da_cons (de_var 1) (da_nil)))) (dss_cons (ds_expr (de_call ⟨cal_need_truth Fx⟩ (hr.mono (by decide)) tk (da_cons (de_var 2) (da_nil)))) (dss_cons (ds_expr (de_meth0 (met_Board_keep Fx) (hr.mono (by decide)) tk (de_var 0))) (dss_one (ds_asg (de_var 2) (dg_fld 1 3 Fx.c_1 (fun E => de_item (de_fld 2 1 Fx.c_2 (de_var 0)) (de_var 1)) (ix_ne (fld_ne (varE_ne)) (varE_ne)))))))
abbrev N_Board_undo : List Str := ["self"]
theorem sc_Board_undo : FnScope N_Board_undo ["self"] (defScope st_Board_undo) := ⟨rfl, rfl, rfl, by decide +kernel, rfl, by decide +kernel, by decide +kernel⟩
def b_Board_undo : MS := seqS (ifS (tst (op2 eqNilD (op1 (fldD 2 5) (varE 0)) (lstE false (nilA)))) (raiseS 19) (passS)) (asgS (bmE popD (op1 (fldD 2 5) (varE 0)) nilA) (tupG 4 (consG (fldG 2 0 (varE 0)) (consG (fldG 2 1 (varE 0)) (consG (fldG 2 2 (varE 0)) (consG (fldG 2 4 (varE 0)) (nilG)))))))
abbrev F_Board_undo : List D → IH → Out D := fnF 1 b_Board_undo
theorem met_Board_undo (Fx : Fs P w K mg base T) : MetF P w K mg base T 2 "undo" 1 1 F_Board_undo := by
  obtain ⟨C, f, fd, gC, hC, hM, F⟩ := Fx.d_Board_undo
  have S := sc_Board_undo
  refine ⟨C, f, fd, ["self"], rfl, gC, hC, hM, F.bindsN (fun _ _ _ _ _ _ us hl => match us, hl with | [_], _ => rfl), fn_ok (k := 0) F S (fun A outer s H E hc hr tk hp => ?_), by decide +kernel⟩
  unfold b_Board_undo
  exact dss_cons (ds_if (dt_cmp (cr_eqNil hr) (de_fld 2 5 Fx.c_2 (de_var 0)) (de_lst false (da_nil))) (dss_one (ds_raise 19 Fx.e_19 rfl tk)) (dss_nil)) (dss_one (ds_asg (de_pop (de_fld 2 5 Fx.c_2 (de_var 0))) (dg_tup rfl (dgs_cons (dg_fld 2 0 Fx.c_2 (fun E => de_var 0) (varE_ne)) (dgs_cons (dg_fld 2 1 Fx.c_2 (fun E => de_var 0) (varE_ne)) (dgs_cons (dg_fld 2 2 Fx.c_2 (fun E => de_var 0) (varE_ne)) (dgs_cons (dg_fld 2 4 Fx.c_2 (fun E => de_var 0) (varE_ne)) (dgs_nil))))))))
abbrev N_do_deed : List Str := ["board", "deed"]
theorem sc_do_deed : FnScope N_do_deed ["board", "deed"] (defScope st_do_deed) := ⟨rfl, rfl, rfl, by decide +kernel, rfl, by decide +kernel, by decide +kernel⟩
def b_do_deed : MS := seqS (ifS (tst (op2 eqD (op2 ixD (varE 1) (cE (.int 0))) (cE (.wd 14)))) (retS (metE 2 3 F_Board_hook (varE 0) (consA (op2 ixD (varE 1) (cE (.int 1))) (consA (op2 ixD (varE 1) (cE (.int 2))) (nilA))))) (passS)) (seqS (ifS (tst (op2 eqD (op2 ixD (varE 1) (cE (.int 0))) (cE (.wd 15)))) (retS (metE 2 4 F_Board_plug (varE 0) (consA (op2 ixD (varE 1) (cE (.int 1))) (consA (op2 ixD (varE 1) (cE (.int 2))) (consA (op2 ixD (varE 1) (cE (.int 3))) (nilA)))))) (passS)) (seqS (ifS (tst (op2 eqD (op2 ixD (varE 1) (cE (.int 0))) (cE (.wd 16)))) (retS (metE 2 3 F_Board_pull (varE 0) (consA (op2 ixD (varE 1) (cE (.int 1))) (consA (op2 ixD (varE 1) (cE (.int 2))) (nilA))))) (passS)) (seqS (ifS (tst (op2 eqD (op2 ixD (varE 1) (cE (.int 0))) (cE (.wd 17)))) (retS (metE 2 3 F_Board_listen (varE 0) (consA (op2 ixD (varE 1) (cE (.int 1))) (consA (op2 ixD (varE 1) (cE (.int 2))) (nilA))))) (passS)) (seqS (ifS (tst (op2 eqD (op2 ixD (varE 1) (cE (.int 0))) (cE (.wd 18)))) (retS (metE 2 3 F_Board_ring (varE 0) (consA (op2 ixD (varE 1) (cE (.int 1))) (consA (op2 ixD (varE 1) (cE (.int 2))) (nilA))))) (passS)) (retS (iteE (tst (op2 eqD (op2 ixD (varE 1) (cE (.int 0))) (cE (.wd 19)))) (metE 2 2 F_Board_tick (varE 0) (consA (op2 ixD (varE 1) (cE (.int 1))) (nilA))) (metE 2 1 F_Board_undo (varE 0) nilA)))))))
abbrev F_do_deed : List D → IH → Out D := fnF 2 b_do_deed
theorem cal_do_deed (Fx : Fs P w K mg base T) : CalF P w K mg base T "do_deed" 6 2 F_do_deed := by
  obtain ⟨f, fd, F, gF⟩ := Fx.d_do_deed
  have S := sc_do_deed
  refine ⟨f, fd, ["board", "deed"], rfl, gF, F.kp, F.bindsN (fun _ _ _ _ _ _ us hl => match us, hl with | [_, _], _ => rfl), fn_ok (k := 5) F S (fun A outer s H E hc hr tk hp => ?_)⟩
  unfold b_do_deed
  exact dss_cons (ds_if (dt_cmp (cr_eq hr) (de_item (de_var 1) (de_int)) (de_wd 14)) (dss_one (ds_ret (de_meth (met_Board_hook Fx) (hr.mono (by decide)) tk (de_var 0) (da_cons (de_item (de_var 1) (de_int)) (da_cons (de_item (de_var 1) (de_int)) (da_nil)))))) (dss_nil)) (dss_cons (ds_if (dt_cmp (cr_eq hr) (de_item (de_var 1) (de_int)) (de_wd 15)) (dss_one (ds_ret (de_meth (met_Board_plug Fx) (hr.mono (by decide)) tk (de_var 0) (da_cons (de_item (de_var 1) (de_int)) (da_cons (de_item (de_var 1) (de_int)) (da_cons (de_item (de_var 1) (de_int)) (da_nil))))))) (dss_nil)) (dss_cons (ds_if (dt_cmp (cr_eq hr) (de_item (de_var 1) (de_int)) (de_wd 16)) (dss_one (ds_ret (de_meth (met_Board_pull Fx) (hr.mono (by decide)) tk (de_var 0) (da_cons (de_item (de_var 1) (de_int)) (da_cons (de_item (de_var 1) (de_int)) (da_nil)))))) (dss_nil)) (dss_cons (ds_if (dt_cmp (cr_eq hr) (de_item (de_var 1) (de_int)) (de_wd 17)) (dss_one (ds_ret (de_meth (met_Board_listen Fx) (hr.mono (by decide)) tk (de_var 0) (da_cons (de_item (de_var 1) (de_int)) (da_cons (de_item (de_var 1) (de_int)) (da_nil)))))) (dss_nil)) (dss_cons (ds_if (dt_cmp (cr_eq hr) (de_item (de_var 1) (de_int)) (de_wd 18)) (dss_one (ds_ret (de_meth (met_Board_ring Fx) (hr.mono (by decide)) tk (de_var 0) (da_cons (de_item (de_var 1) (de_int)) (da_cons (de_item (de_var 1) (de_int)) (da_nil)))))) (dss_nil)) (dss_one (ds_ret (de_ifExp (dt_cmp (cr_eq hr) (de_item (de_var 1) (de_int)) (de_wd 19)) (de_meth (met_Board_tick Fx) (hr.mono (by decide)) tk (de_var 0) (da_cons (de_item (de_var 1) (de_int)) (da_nil))) (de_meth0 (met_Board_undo Fx) (hr.mono (by decide)) tk (de_var 0)))))))))
abbrev N_played : List Str := ["lines", "cords", "deeds", "board", "deed"]
theorem sc_played : FnScope N_played ["lines", "cords", "deeds"] (defScope st_played) := ⟨rfl, rfl, rfl, by decide +kernel, rfl, by decide +kernel, by decide +kernel⟩
def b_played_0 : MS := exprS (callF 2 F_do_deed (consA (varE 3) (consA (varE 4) (nilA))))
def b_played : MS := seqS (asgS (makE 2 3 F_Board___init__ (consA (varE 0) (consA (varE 1) (nilA)))) (nameG 3)) (seqS (ifS (orT (notT (tst (op1 (isiD .list) (varE 2)))) (orT (tst (op2 gtD (callB lenD (consA (varE 2) (nilA))) (cE (.int 200)))) (notT (tst (callB (one allD) (consA (lcE false (seqV (varE 2)) (.one 4) (yesT) (callF 1 F_is_deed (consA (varE 4) (nilA))) [4]) (nilA))))))) (raiseS 12) (passS)) (seqS (forS (seqV (varE 2)) (nameG 4) (b_played_0)) (retS (metE 2 1 F_Board_calls (varE 3) nilA))))
abbrev F_played : List D → IH → Out D := fnR 5 b_played
theorem cal_played (Fx : Fs P w K mg base T) : CalF P w K mg base T "played" 7 3 F_played := by
  obtain ⟨f, fd, F, gF⟩ := Fx.d_played
  have S := sc_played
  refine ⟨f, fd, ["lines", "cords", "deeds"], rfl, gF, F.kp, F.bindsN (fun _ _ _ _ _ _ us hl => match us, hl with | [_, _, _], _ => rfl), fn_okR (k := 6) F S (fun A outer s H E hc hr tk hp => ?_)⟩
  unfold b_played
  exact dss_cons (ds_set 3 S.nd (de_make 2 (mak_Board (Fx.re (by rfl))) (hr.mono (by decide)) tk (da_cons (de_var 0) (da_cons (de_var 1) (da_nil))))) (dss_cons (ds_if (DW.dt (dw_or (dt_not (dt_val (de_isi .list Fx.n_isinstance Fx.n_list (by decide +kernel) (de_var 2)))) (dw_or (dt_cmp cr_gt (de_len Fx.n_len (da_cons (de_var 2) (da_nil))) (de_glob (by rfl) Fx.g_MOST_DEEDS)) (dw_or1 (dt_not (dt_val (de_all rfl Fx.n_all (da_cons (de_lc false (.one 4) [("deed", 4)] rfl S.nd (di_seq (de_var 2)) (blkOk_by (by rfl)) (fun _ _ _ _ _ => pg_name S.nd rfl (by first | exact Or.inl rfl | exact Or.inr rfl)) (fun _ _ _ _ _ => dts_nil) (fun _ _ _ _ _ => de_call ⟨cal_is_deed (Fx.re (by rfl))⟩ (hr.mono (by decide)) takesN0 (da_cons (de_var 4) (da_nil)))) (da_nil))))))))) (dss_one (ds_raise 12 Fx.e_12 rfl tk)) (dss_nil)) (dss_cons (ds_for hp rfl (di_seq (de_var 2)) (dg_name 4 S.nd) (dss_one (ds_expr (de_call ⟨cal_do_deed (Fx.re (by rfl))⟩ (hr.mono (by decide)) tk (da_cons (de_var 3) (da_cons (de_var 4) (da_nil))))))) (dss_one (ds_ret (de_meth0 (met_Board_calls (Fx.re (by rfl))) (hr.mono (by decide)) tk (de_var 3))))))
abbrev N__law_copy : List Str := ["thing", "one", "name"]
theorem sc__law_copy : FnScope N__law_copy ["thing"] (defScope st__law_copy) := ⟨rfl, rfl, rfl, by decide +kernel, rfl, by decide +kernel, by decide +kernel⟩
def b__law_copy_0 : MS := badS
abbrev F__law_copy_0 : List D → IH → Out D := fnC 3 b__law_copy_0
theorem cal__law_copy_0 (Fx : Fs P w K mg base T) : CalF P w K mg base T "_law_copy" 1 1 F__law_copy_0 := by
  obtain ⟨f, fd, F, gF⟩ := Fx.d__law_copy
  have S := sc__law_copy
  refine ⟨f, fd, ["thing"], rfl, gF, F.kp, F.bindsN (fun _ _ _ _ _ _ us hl => match us, hl with | [_], _ => rfl), fn_okC (k := 0) F S (fun A outer s H E hc hr tk hp => ?_)⟩
  unfold b__law_copy_0
  exact dss_bad
def b__law_copy_1 : MS := seqS (ifS (tst (op1 (isiD .list) (varE 0))) (retS (lcE false (seqV (varE 0)) (.one 1) (yesT) (callF 1 F__law_copy_0 (consA (varE 1) (nilA))) [1])) (passS)) (seqS (ifS (tst (op1 (isiD .tuple) (varE 0))) (retS (callB (one tupleD) (consA (lcE false (seqV (varE 0)) (.one 1) (yesT) (callF 1 F__law_copy_0 (consA (varE 1) (nilA))) [1]) (nilA)))) (passS)) (seqS (ifS (tst (op1 (isiD .dict) (varE 0))) (badS) (passS)) (retS (varE 0))))
abbrev F__law_copy_1 : List D → IH → Out D := fnC 3 b__law_copy_1
theorem cal__law_copy_1 (Fx : Fs P w K mg base T) : CalF P w K mg base T "_law_copy" 2 1 F__law_copy_1 := by
  obtain ⟨f, fd, F, gF⟩ := Fx.d__law_copy
  have S := sc__law_copy
  refine ⟨f, fd, ["thing"], rfl, gF, F.kp, F.bindsN (fun _ _ _ _ _ _ us hl => match us, hl with | [_], _ => rfl), fn_okC (k := 1) F S (fun A outer s H E hc hr tk hp => ?_)⟩
  unfold b__law_copy_1
  exact dss_cons (ds_if (dt_val (de_isi .list Fx.n_isinstance Fx.n_list (by decide +kernel) (de_var 0))) (dss_one (ds_ret (de_lc false (.one 1) [("one", 1)] rfl S.nd (di_seq (de_var 0)) (blkOk_by (by rfl)) (fun _ _ _ _ _ => pg_name S.nd rfl (by first | exact Or.inl rfl | exact Or.inr rfl)) (fun _ _ _ _ _ => dts_nil) (fun _ _ _ _ _ => de_call ⟨cal__law_copy_0 Fx⟩ (hr.mono (by decide)) takesN0 (da_cons (de_var 1) (da_nil)))))) (dss_nil)) (dss_cons (ds_if (dt_val (de_isi .tuple Fx.n_isinstance Fx.n_tuple (by decide +kernel) (de_var 0))) (dss_one (ds_ret (de_tuple Fx.n_tuple (da_cons (de_lc false (.one 1) [("one", 1)] rfl S.nd (di_seq (de_var 0)) (blkOk_by (by rfl)) (fun _ _ _ _ _ => pg_name S.nd rfl (by first | exact Or.inl rfl | exact Or.inr rfl)) (fun _ _ _ _ _ => dts_nil) (fun _ _ _ _ _ => de_call ⟨cal__law_copy_0 Fx⟩ (hr.mono (by decide)) takesN0 (da_cons (de_var 1) (da_nil)))) (da_nil))))) (dss_nil)) (dss_cons (ds_if (dt_val (de_isi .dict Fx.n_isinstance Fx.n_dict (by decide +kernel) (de_var 0))) (dss_bad) (dss_nil)) (dss_one (ds_ret (de_var 0)))))
def b__law_copy_2 : MS := seqS (ifS (tst (op1 (isiD .list) (varE 0))) (retS (lcE false (seqV (varE 0)) (.one 1) (yesT) (callF 1 F__law_copy_1 (consA (varE 1) (nilA))) [1])) (passS)) (seqS (ifS (tst (op1 (isiD .tuple) (varE 0))) (retS (callB (one tupleD) (consA (lcE false (seqV (varE 0)) (.one 1) (yesT) (callF 1 F__law_copy_1 (consA (varE 1) (nilA))) [1]) (nilA)))) (passS)) (seqS (ifS (tst (op1 (isiD .dict) (varE 0))) (badS) (passS)) (retS (varE 0))))
abbrev F__law_copy_2 : List D → IH → Out D := fnC 3 b__law_copy_2
theorem cal__law_copy_2 (Fx : Fs P w K mg base T) : CalF P w K mg base T "_law_copy" 3 1 F__law_copy_2 := by
  obtain ⟨f, fd, F, gF⟩ := Fx.d__law_copy
  have S := sc__law_copy
  refine ⟨f, fd, ["thing"], rfl, gF, F.kp, F.bindsN (fun _ _ _ _ _ _ us hl => match us, hl with | [_], _ => rfl), fn_okC (k := 2) F S (fun A outer s H E hc hr tk hp => ?_)⟩
  unfold b__law_copy_2
  exact dss_cons (ds_if (dt_val (de_isi .list Fx.n_isinstance Fx.n_list (by decide +kernel) (de_var 0))) (dss_one (ds_ret (de_lc false (.one 1) [("one", 1)] rfl S.nd (di_seq (de_var 0)) (blkOk_by (by rfl)) (fun _ _ _ _ _ => pg_name S.nd rfl (by first | exact Or.inl rfl | exact Or.inr rfl)) (fun _ _ _ _ _ => dts_nil) (fun _ _ _ _ _ => de_call ⟨cal__law_copy_1 Fx⟩ (hr.mono (by decide)) takesN0 (da_cons (de_var 1) (da_nil)))))) (dss_nil)) (dss_cons (ds_if (dt_val (de_isi .tuple Fx.n_isinstance Fx.n_tuple (by decide +kernel) (de_var 0))) (dss_one (ds_ret (de_tuple Fx.n_tuple (da_cons (de_lc false (.one 1) [("one", 1)] rfl S.nd (di_seq (de_var 0)) (blkOk_by (by rfl)) (fun _ _ _ _ _ => pg_name S.nd rfl (by first | exact Or.inl rfl | exact Or.inr rfl)) (fun _ _ _ _ _ => dts_nil) (fun _ _ _ _ _ => de_call ⟨cal__law_copy_1 Fx⟩ (hr.mono (by decide)) takesN0 (da_cons (de_var 1) (da_nil)))) (da_nil))))) (dss_nil)) (dss_cons (ds_if (dt_val (de_isi .dict Fx.n_isinstance Fx.n_dict (by decide +kernel) (de_var 0))) (dss_bad) (dss_nil)) (dss_one (ds_ret (de_var 0)))))
def b__law_copy_3 : MS := seqS (ifS (tst (op1 (isiD .list) (varE 0))) (retS (lcE false (seqV (varE 0)) (.one 1) (yesT) (callF 1 F__law_copy_2 (consA (varE 1) (nilA))) [1])) (passS)) (seqS (ifS (tst (op1 (isiD .tuple) (varE 0))) (retS (callB (one tupleD) (consA (lcE false (seqV (varE 0)) (.one 1) (yesT) (callF 1 F__law_copy_2 (consA (varE 1) (nilA))) [1]) (nilA)))) (passS)) (seqS (ifS (tst (op1 (isiD .dict) (varE 0))) (badS) (passS)) (retS (varE 0))))
abbrev F__law_copy_3 : List D → IH → Out D := fnC 3 b__law_copy_3
theorem cal__law_copy_3 (Fx : Fs P w K mg base T) : CalF P w K mg base T "_law_copy" 4 1 F__law_copy_3 := by
  obtain ⟨f, fd, F, gF⟩ := Fx.d__law_copy
  have S := sc__law_copy
  refine ⟨f, fd, ["thing"], rfl, gF, F.kp, F.bindsN (fun _ _ _ _ _ _ us hl => match us, hl with | [_], _ => rfl), fn_okC (k := 3) F S (fun A outer s H E hc hr tk hp => ?_)⟩
  unfold b__law_copy_3
  exact dss_cons (ds_if (dt_val (de_isi .list Fx.n_isinstance Fx.n_list (by decide +kernel) (de_var 0))) (dss_one (ds_ret (de_lc false (.one 1) [("one", 1)] rfl S.nd (di_seq (de_var 0)) (blkOk_by (by rfl)) (fun _ _ _ _ _ => pg_name S.nd rfl (by first | exact Or.inl rfl | exact Or.inr rfl)) (fun _ _ _ _ _ => dts_nil) (fun _ _ _ _ _ => de_call ⟨cal__law_copy_2 Fx⟩ (hr.mono (by decide)) takesN0 (da_cons (de_var 1) (da_nil)))))) (dss_nil)) (dss_cons (ds_if (dt_val (de_isi .tuple Fx.n_isinstance Fx.n_tuple (by decide +kernel) (de_var 0))) (dss_one (ds_ret (de_tuple Fx.n_tuple (da_cons (de_lc false (.one 1) [("one", 1)] rfl S.nd (di_seq (de_var 0)) (blkOk_by (by rfl)) (fun _ _ _ _ _ => pg_name S.nd rfl (by first | exact Or.inl rfl | exact Or.inr rfl)) (fun _ _ _ _ _ => dts_nil) (fun _ _ _ _ _ => de_call ⟨cal__law_copy_2 Fx⟩ (hr.mono (by decide)) takesN0 (da_cons (de_var 1) (da_nil)))) (da_nil))))) (dss_nil)) (dss_cons (ds_if (dt_val (de_isi .dict Fx.n_isinstance Fx.n_dict (by decide +kernel) (de_var 0))) (dss_bad) (dss_nil)) (dss_one (ds_ret (de_var 0)))))
def b__law_copy_4 : MS := seqS (ifS (tst (op1 (isiD .list) (varE 0))) (retS (lcE false (seqV (varE 0)) (.one 1) (yesT) (callF 1 F__law_copy_3 (consA (varE 1) (nilA))) [1])) (passS)) (seqS (ifS (tst (op1 (isiD .tuple) (varE 0))) (retS (callB (one tupleD) (consA (lcE false (seqV (varE 0)) (.one 1) (yesT) (callF 1 F__law_copy_3 (consA (varE 1) (nilA))) [1]) (nilA)))) (passS)) (seqS (ifS (tst (op1 (isiD .dict) (varE 0))) (badS) (passS)) (retS (varE 0))))
abbrev F__law_copy_4 : List D → IH → Out D := fnC 3 b__law_copy_4
theorem cal__law_copy_4 (Fx : Fs P w K mg base T) : CalF P w K mg base T "_law_copy" 5 1 F__law_copy_4 := by
  obtain ⟨f, fd, F, gF⟩ := Fx.d__law_copy
  have S := sc__law_copy
  refine ⟨f, fd, ["thing"], rfl, gF, F.kp, F.bindsN (fun _ _ _ _ _ _ us hl => match us, hl with | [_], _ => rfl), fn_okC (k := 4) F S (fun A outer s H E hc hr tk hp => ?_)⟩
  unfold b__law_copy_4
  exact dss_cons (ds_if (dt_val (de_isi .list Fx.n_isinstance Fx.n_list (by decide +kernel) (de_var 0))) (dss_one (ds_ret (de_lc false (.one 1) [("one", 1)] rfl S.nd (di_seq (de_var 0)) (blkOk_by (by rfl)) (fun _ _ _ _ _ => pg_name S.nd rfl (by first | exact Or.inl rfl | exact Or.inr rfl)) (fun _ _ _ _ _ => dts_nil) (fun _ _ _ _ _ => de_call ⟨cal__law_copy_3 Fx⟩ (hr.mono (by decide)) takesN0 (da_cons (de_var 1) (da_nil)))))) (dss_nil)) (dss_cons (ds_if (dt_val (de_isi .tuple Fx.n_isinstance Fx.n_tuple (by decide +kernel) (de_var 0))) (dss_one (ds_ret (de_tuple Fx.n_tuple (da_cons (de_lc false (.one 1) [("one", 1)] rfl S.nd (di_seq (de_var 0)) (blkOk_by (by rfl)) (fun _ _ _ _ _ => pg_name S.nd rfl (by first | exact Or.inl rfl | exact Or.inr rfl)) (fun _ _ _ _ _ => dts_nil) (fun _ _ _ _ _ => de_call ⟨cal__law_copy_3 Fx⟩ (hr.mono (by decide)) takesN0 (da_cons (de_var 1) (da_nil)))) (da_nil))))) (dss_nil)) (dss_cons (ds_if (dt_val (de_isi .dict Fx.n_isinstance Fx.n_dict (by decide +kernel) (de_var 0))) (dss_bad) (dss_nil)) (dss_one (ds_ret (de_var 0)))))
abbrev N__law_spoil : List Str := ["thing", "one"]
theorem sc__law_spoil : FnScope N__law_spoil ["thing"] (defScope st__law_spoil) := ⟨rfl, rfl, rfl, by decide +kernel, rfl, by decide +kernel, by decide +kernel⟩
def b__law_spoil_0 : MS := badS
abbrev F__law_spoil_0 : List D → IH → Out D := fnF 2 b__law_spoil_0
theorem cal__law_spoil_0 (Fx : Fs P w K mg base T) : CalF P w K mg base T "_law_spoil" 1 1 F__law_spoil_0 := by
  obtain ⟨f, fd, F, gF⟩ := Fx.d__law_spoil
  have S := sc__law_spoil
  refine ⟨f, fd, ["thing"], rfl, gF, F.kp, F.bindsN (fun _ _ _ _ _ _ us hl => match us, hl with | [_], _ => rfl), fn_ok (k := 0) F S (fun A outer s H E hc hr tk hp => ?_)⟩
  unfold b__law_spoil_0
  exact dss_bad
def b__law_spoil_1_0 : MS := exprS (callF 1 F__law_spoil_0 (consA (varE 1) (nilA)))
def b__law_spoil_1 : MS := seqS (ifS (tst (op1 (isi2D .list .tuple) (varE 0))) (forS (seqV (varE 0)) (nameG 1) (b__law_spoil_1_0)) (passS)) (seqS (ifS (tst (op1 (isiD .list) (varE 0))) (exprS (bmE appD (varE 0) (consA (cE (.wd 49)) (nilA)))) (passS)) (ifS (tst (op1 (isiD .dict) (varE 0))) (badS) (passS)))
abbrev F__law_spoil_1 : List D → IH → Out D := fnF 2 b__law_spoil_1
theorem cal__law_spoil_1 (Fx : Fs P w K mg base T) : CalF P w K mg base T "_law_spoil" 2 1 F__law_spoil_1 := by
  obtain ⟨f, fd, F, gF⟩ := Fx.d__law_spoil
  have S := sc__law_spoil
  refine ⟨f, fd, ["thing"], rfl, gF, F.kp, F.bindsN (fun _ _ _ _ _ _ us hl => match us, hl with | [_], _ => rfl), fn_ok (k := 1) F S (fun A outer s H E hc hr tk hp => ?_)⟩
  unfold b__law_spoil_1
  exact dss_cons (ds_if (dt_val (de_isi2 .list .tuple Fx.n_isinstance Fx.n_list Fx.n_tuple (by decide +kernel) (by decide +kernel) (de_var 0))) (dss_one (ds_for hp rfl (di_seq (de_var 0)) (dg_name 1 S.nd) (dss_one (ds_expr (de_call ⟨cal__law_spoil_0 Fx⟩ (hr.mono (by decide)) tk (da_cons (de_var 1) (da_nil))))))) (dss_nil)) (dss_cons (ds_if (dt_val (de_isi .list Fx.n_isinstance Fx.n_list (by decide +kernel) (de_var 0))) (dss_one (ds_expr (de_append (de_var 0) (da_cons (de_wd 49) (da_nil))))) (dss_nil)) (dss_one (ds_if (dt_val (de_isi .dict Fx.n_isinstance Fx.n_dict (by decide +kernel) (de_var 0))) (dss_bad) (dss_nil))))
def b__law_spoil_2_0 : MS := exprS (callF 1 F__law_spoil_1 (consA (varE 1) (nilA)))
def b__law_spoil_2 : MS := seqS (ifS (tst (op1 (isi2D .list .tuple) (varE 0))) (forS (seqV (varE 0)) (nameG 1) (b__law_spoil_2_0)) (passS)) (seqS (ifS (tst (op1 (isiD .list) (varE 0))) (exprS (bmE appD (varE 0) (consA (cE (.wd 49)) (nilA)))) (passS)) (ifS (tst (op1 (isiD .dict) (varE 0))) (badS) (passS)))
abbrev F__law_spoil_2 : List D → IH → Out D := fnF 2 b__law_spoil_2
theorem cal__law_spoil_2 (Fx : Fs P w K mg base T) : CalF P w K mg base T "_law_spoil" 3 1 F__law_spoil_2 := by
  obtain ⟨f, fd, F, gF⟩ := Fx.d__law_spoil
  have S := sc__law_spoil
  refine ⟨f, fd, ["thing"], rfl, gF, F.kp, F.bindsN (fun _ _ _ _ _ _ us hl => match us, hl with | [_], _ => rfl), fn_ok (k := 2) F S (fun A outer s H E hc hr tk hp => ?_)⟩
  unfold b__law_spoil_2
  exact dss_cons (ds_if (dt_val (de_isi2 .list .tuple Fx.n_isinstance Fx.n_list Fx.n_tuple (by decide +kernel) (by decide +kernel) (de_var 0))) (dss_one (ds_for hp rfl (di_seq (de_var 0)) (dg_name 1 S.nd) (dss_one (ds_expr (de_call ⟨cal__law_spoil_1 Fx⟩ (hr.mono (by decide)) tk (da_cons (de_var 1) (da_nil))))))) (dss_nil)) (dss_cons (ds_if (dt_val (de_isi .list Fx.n_isinstance Fx.n_list (by decide +kernel) (de_var 0))) (dss_one (ds_expr (de_append (de_var 0) (da_cons (de_wd 49) (da_nil))))) (dss_nil)) (dss_one (ds_if (dt_val (de_isi .dict Fx.n_isinstance Fx.n_dict (by decide +kernel) (de_var 0))) (dss_bad) (dss_nil))))
def b__law_spoil_3_0 : MS := exprS (callF 1 F__law_spoil_2 (consA (varE 1) (nilA)))
def b__law_spoil_3 : MS := seqS (ifS (tst (op1 (isi2D .list .tuple) (varE 0))) (forS (seqV (varE 0)) (nameG 1) (b__law_spoil_3_0)) (passS)) (seqS (ifS (tst (op1 (isiD .list) (varE 0))) (exprS (bmE appD (varE 0) (consA (cE (.wd 49)) (nilA)))) (passS)) (ifS (tst (op1 (isiD .dict) (varE 0))) (badS) (passS)))
abbrev F__law_spoil_3 : List D → IH → Out D := fnF 2 b__law_spoil_3
theorem cal__law_spoil_3 (Fx : Fs P w K mg base T) : CalF P w K mg base T "_law_spoil" 4 1 F__law_spoil_3 := by
  obtain ⟨f, fd, F, gF⟩ := Fx.d__law_spoil
  have S := sc__law_spoil
  refine ⟨f, fd, ["thing"], rfl, gF, F.kp, F.bindsN (fun _ _ _ _ _ _ us hl => match us, hl with | [_], _ => rfl), fn_ok (k := 3) F S (fun A outer s H E hc hr tk hp => ?_)⟩
  unfold b__law_spoil_3
  exact dss_cons (ds_if (dt_val (de_isi2 .list .tuple Fx.n_isinstance Fx.n_list Fx.n_tuple (by decide +kernel) (by decide +kernel) (de_var 0))) (dss_one (ds_for hp rfl (di_seq (de_var 0)) (dg_name 1 S.nd) (dss_one (ds_expr (de_call ⟨cal__law_spoil_2 Fx⟩ (hr.mono (by decide)) tk (da_cons (de_var 1) (da_nil))))))) (dss_nil)) (dss_cons (ds_if (dt_val (de_isi .list Fx.n_isinstance Fx.n_list (by decide +kernel) (de_var 0))) (dss_one (ds_expr (de_append (de_var 0) (da_cons (de_wd 49) (da_nil))))) (dss_nil)) (dss_one (ds_if (dt_val (de_isi .dict Fx.n_isinstance Fx.n_dict (by decide +kernel) (de_var 0))) (dss_bad) (dss_nil))))
def b__law_spoil_4_0 : MS := exprS (callF 1 F__law_spoil_3 (consA (varE 1) (nilA)))
def b__law_spoil_4 : MS := seqS (ifS (tst (op1 (isi2D .list .tuple) (varE 0))) (forS (seqV (varE 0)) (nameG 1) (b__law_spoil_4_0)) (passS)) (seqS (ifS (tst (op1 (isiD .list) (varE 0))) (exprS (bmE appD (varE 0) (consA (cE (.wd 49)) (nilA)))) (passS)) (ifS (tst (op1 (isiD .dict) (varE 0))) (badS) (passS)))
abbrev F__law_spoil_4 : List D → IH → Out D := fnF 2 b__law_spoil_4
theorem cal__law_spoil_4 (Fx : Fs P w K mg base T) : CalF P w K mg base T "_law_spoil" 5 1 F__law_spoil_4 := by
  obtain ⟨f, fd, F, gF⟩ := Fx.d__law_spoil
  have S := sc__law_spoil
  refine ⟨f, fd, ["thing"], rfl, gF, F.kp, F.bindsN (fun _ _ _ _ _ _ us hl => match us, hl with | [_], _ => rfl), fn_ok (k := 4) F S (fun A outer s H E hc hr tk hp => ?_)⟩
  unfold b__law_spoil_4
  exact dss_cons (ds_if (dt_val (de_isi2 .list .tuple Fx.n_isinstance Fx.n_list Fx.n_tuple (by decide +kernel) (by decide +kernel) (de_var 0))) (dss_one (ds_for hp rfl (di_seq (de_var 0)) (dg_name 1 S.nd) (dss_one (ds_expr (de_call ⟨cal__law_spoil_3 Fx⟩ (hr.mono (by decide)) tk (da_cons (de_var 1) (da_nil))))))) (dss_nil)) (dss_cons (ds_if (dt_val (de_isi .list Fx.n_isinstance Fx.n_list (by decide +kernel) (de_var 0))) (dss_one (ds_expr (de_append (de_var 0) (da_cons (de_wd 49) (da_nil))))) (dss_nil)) (dss_one (ds_if (dt_val (de_isi .dict Fx.n_isinstance Fx.n_dict (by decide +kernel) (de_var 0))) (dss_bad) (dss_nil))))
abbrev N__law_again : List Str := ["deed", "handed", "kept", "heard", "due"]
theorem sc__law_again : FnScope N__law_again ["deed", "handed"] (defScope st__law_again) := ⟨rfl, rfl, rfl, by decide +kernel, rfl, by decide +kernel, by decide +kernel⟩
def b__law_again (dF : ME) : MS := seqS (asgS (callF 1 F__law_copy_4 (consA (varE 1) (nilA))) (nameG 2)) (seqS (asgS (dF) (nameG 3)) (seqS (asgS (callF 1 F__law_copy_4 (consA (varE 3) (nilA))) (nameG 4)) (seqS (exprS (callF 1 F__law_spoil_4 (consA (varE 3) (nilA)))) (seqS (ifS (tst (op2 neD (varE 1) (varE 2))) (retS (cE (.bl false))) (passS)) (retS (andE (op2 eqD (dF) (varE 4)) (andE (op2 eqD (dF) (varE 4)) (op2 eqD (varE 1) (varE 2)))))))))
theorem bod__law_again (Fx : Fs P w K mg base T) {f : Addr} {cdv : Value} {A : Around} {outer : List Env} {s : Shared} {H : Hp} {dF : ME} (hr : Room 8 (A.deeper (envOfC "_law_again" (defScope st__law_again) s.heap.objs.size f cdv)))
    (hd : ∀ p1 p2, DE (cxOf (L2N.CX P w) P w K mg base N__law_again "_law_again" (defScope st__law_again) f cdv A outer s H NoE) T NoE (.Call (.Name "deed" p1) [] [] p2) dF) : DSs (cxOf (L2N.CX P w) P w K mg base N__law_again "_law_again" (defScope st__law_again) f cdv A outer s H NoE) T NoE (defBody st__law_again) (b__law_again dF) := by
  have S := sc__law_again
  have tk : Tk (cxOf (L2N.CX P w) P w K mg base N__law_again "_law_again" (defScope st__law_again) f cdv A outer s H NoE) NoE := L2N.takes_of rfl rfl rfl rfl
  unfold b__law_again
  exact dss_cons (ds_set 2 S.nd (de_call ⟨cal__law_copy_4 Fx⟩ (hr.mono (by decide)) tk (da_cons (de_var 1) (da_nil)))) (dss_cons (ds_set 3 S.nd (hd _ _)) (dss_cons (ds_set 4 S.nd (de_call ⟨cal__law_copy_4 Fx⟩ (hr.mono (by decide)) tk (da_cons (de_var 3) (da_nil)))) (dss_cons (ds_expr (de_call ⟨cal__law_spoil_4 Fx⟩ (hr.mono (by decide)) tk (da_cons (de_var 3) (da_nil)))) (dss_cons (ds_if (dt_cmp (cr_ne hr) (de_var 1) (de_var 2)) (dss_one (ds_ret (de_bl))) (dss_nil)) (dss_one (ds_ret (de_and (de_cmp (cr_eq hr) (hd _ _) (de_var 4)) (de_and (de_cmp (cr_eq hr) (hd _ _) (de_var 4)) (de_one (de_cmp (cr_eq hr) (de_var 1) (de_var 2)))))))))))
def lms : List Lm := (forBody ((defBody st_law).getD 0 (.Pass ⟨0, 0, 0, 0⟩))).filterMap lamOf
def lm (i : Nat) : Lm := lms.getD i (default, default, default)
theorem again_ok (Fx : Fs P w K mg base T) {N : List Str} {qual : Str} {sc : Scope} {f : Addr} {cdv : Value} {A : Around} {outer : List Env} {s : Shared} {H : Hp} {E : XK} : AgainOk (cxOf (L2N.CX P w) P w K mg base N qual sc f cdv A outer s H E) lms T "_law_again" 8 5 b__law_again := by
  obtain ⟨g, fd, F, gF⟩ := Fx.d__law_again
  have S := sc__law_again
  have bn := F.bindsN (ps := ["deed", "handed"]) (fun _ _ _ _ _ _ us hl => match us, hl with | [_, _], _ => rfl)
  have kp := F.kp
  obtain ⟨⟨oc, od, dV, kV, doc, pm, an, cdv2, ct, osl, rfl, lk, hcd, _⟩, _⟩ := F
  exact ⟨g, _, "_law_again", _, _, _, _, _, _, _, _, _, _, _, _, _, N__law_again, "deed", "handed", lk, hcd, S, gF, kp, bn, rfl, rfl, .inl rfl, by decide, by decide, fun ev dF s2 H2 hr hd => bod__law_again (Fx.re (by rfl)) hr hd⟩
abbrev N_law : List Str := ["script", "k", "more", "other", "line", "deed", "handed", "some", "calls", "deeds", "one", "rows"]
theorem sc_law : FnScope N_law ["script"] (defScope st_law) := ⟨rfl, rfl, rfl, by decide +kernel, rfl, by decide +kernel, by decide +kernel⟩
theorem lms_eq : lms = [lm 0, lm 1, lm 2, lm 3, lm 4, lm 5, lm 6, lm 7, lm 8, lm 9] := by rfl
theorem hlm0 : ∀ l ∈ lms, LamX.LamS (defScope st_law) l.2.2 ∧ ∀ (q : Str) (cl : List (Str × Addr)) (pm cv ctv : Value), bindArgs (PySem.W.kla_fn "<lambda>" q l.1 l.2.1 l.2.2 cl pm cv ctv) ⟨[], []⟩ = pure [] := by
  intro l hl
  rw [lms_eq] at hl
  simp only [List.mem_cons, List.not_mem_nil, or_false] at hl
  rcases hl with rfl | rfl | rfl | rfl | rfl | rfl | rfl | rfl | rfl | rfl
  · exact ⟨LamX.lamS_by (by rfl), by intros; rfl⟩
  · exact ⟨LamX.lamS_by (by rfl), by intros; rfl⟩
  · exact ⟨LamX.lamS_by (by rfl), by intros; rfl⟩
  · exact ⟨LamX.lamS_by (by rfl), by intros; rfl⟩
  · exact ⟨LamX.lamS_by (by rfl), by intros; rfl⟩
  · exact ⟨LamX.lamS_by (by rfl), by intros; rfl⟩
  · exact ⟨LamX.lamS_by (by rfl), by intros; rfl⟩
  · exact ⟨LamX.lamS_by (by rfl), by intros; rfl⟩
  · exact ⟨LamX.lamS_by (by rfl), by intros; rfl⟩
  · exact ⟨LamX.lamS_by (by rfl), by intros; rfl⟩
def lmb0 : ME := metE 2 1 F_Board_line_lamps (varE 10) nilA
def lmb1 : ME := metE 2 1 F_Board_cord_lamps (varE 10) nilA
def lmb2 : ME := metE 2 1 F_Board_plugs (varE 10) nilA
def lmb3 : ME := metE 2 1 F_Board_talks (varE 10) nilA
def lmb4 : ME := metE 2 1 F_Board_hears (varE 10) nilA
def lmb5 : ME := metE 2 1 F_Board_calls (varE 10) nilA
def lmb6 : ME := callF 1 F_known (consA (varE 11) (nilA))
def lmb7 : ME := callF 2 F_carried (consA (varE 8) (consA (cE (.int 1)) (nilA)))
def lmb8 : ME := lstE true (consA (callF 1 F_fewest (consA (varE 8) (nilA))) (consA (callF 1 F_greatest (consA (varE 8) (nilA))) (consA (callF 1 F_read (consA (callF 1 F_written (consA (op2 ixD (varE 9) (cE (.int 1))) (nilA))) (nilA))) (nilA))))
def lmb9 : ME := callF 3 F_played (consA (cE (.int 4)) (consA (cE (.int 2)) (consA (varE 9) (nilA))))
def lmb : List ME := [lmb0, lmb1, lmb2, lmb3, lmb4, lmb5, lmb6, lmb7, lmb8, lmb9]
theorem lmb0_ok (Fx : Fs P w K mg base T) {f : Addr} {cdv : Value} {A A2 : Around} {outer o2 : List Env} {s s2 : Shared} {H H2 : Hp} {E : XK} {f2 c2 : Addr} (hr2 : Room 7 (A2.deeper (LamX.lamEnv (cxOf (L2N.CX P w) P w K mg base N_law "law" (defScope st_law) f cdv A outer s H E) (lm 0).2.2 s2.heap.objs.size f2 c2))) : DE (lamN (cxOf (L2N.CX P w) P w K mg base N_law "law" (defScope st_law) f cdv A outer s H E) A2 o2 s2 H2 NoE (lm 0).2.2 f2 c2) T NoE (lm 0).2.1 lmb0 := by
  unfold lmb0
  exact de_meth0 (met_Board_line_lamps Fx) (hr2.mono (by decide)) lamN_tk (de_var 10)
theorem lmb1_ok (Fx : Fs P w K mg base T) {f : Addr} {cdv : Value} {A A2 : Around} {outer o2 : List Env} {s s2 : Shared} {H H2 : Hp} {E : XK} {f2 c2 : Addr} (hr2 : Room 7 (A2.deeper (LamX.lamEnv (cxOf (L2N.CX P w) P w K mg base N_law "law" (defScope st_law) f cdv A outer s H E) (lm 1).2.2 s2.heap.objs.size f2 c2))) : DE (lamN (cxOf (L2N.CX P w) P w K mg base N_law "law" (defScope st_law) f cdv A outer s H E) A2 o2 s2 H2 NoE (lm 1).2.2 f2 c2) T NoE (lm 1).2.1 lmb1 := by
  unfold lmb1
  exact de_meth0 (met_Board_cord_lamps Fx) (hr2.mono (by decide)) lamN_tk (de_var 10)
theorem lmb2_ok (Fx : Fs P w K mg base T) {f : Addr} {cdv : Value} {A A2 : Around} {outer o2 : List Env} {s s2 : Shared} {H H2 : Hp} {E : XK} {f2 c2 : Addr} (hr2 : Room 7 (A2.deeper (LamX.lamEnv (cxOf (L2N.CX P w) P w K mg base N_law "law" (defScope st_law) f cdv A outer s H E) (lm 2).2.2 s2.heap.objs.size f2 c2))) : DE (lamN (cxOf (L2N.CX P w) P w K mg base N_law "law" (defScope st_law) f cdv A outer s H E) A2 o2 s2 H2 NoE (lm 2).2.2 f2 c2) T NoE (lm 2).2.1 lmb2 := by
  unfold lmb2
  exact de_meth0 (met_Board_plugs Fx) (hr2.mono (by decide)) lamN_tk (de_var 10)
theorem lmb3_ok (Fx : Fs P w K mg base T) {f : Addr} {cdv : Value} {A A2 : Around} {outer o2 : List Env} {s s2 : Shared} {H H2 : Hp} {E : XK} {f2 c2 : Addr} (hr2 : Room 7 (A2.deeper (LamX.lamEnv (cxOf (L2N.CX P w) P w K mg base N_law "law" (defScope st_law) f cdv A outer s H E) (lm 3).2.2 s2.heap.objs.size f2 c2))) : DE (lamN (cxOf (L2N.CX P w) P w K mg base N_law "law" (defScope st_law) f cdv A outer s H E) A2 o2 s2 H2 NoE (lm 3).2.2 f2 c2) T NoE (lm 3).2.1 lmb3 := by
  unfold lmb3
  exact de_meth0 (met_Board_talks Fx) (hr2.mono (by decide)) lamN_tk (de_var 10)
theorem lmb4_ok (Fx : Fs P w K mg base T) {f : Addr} {cdv : Value} {A A2 : Around} {outer o2 : List Env} {s s2 : Shared} {H H2 : Hp} {E : XK} {f2 c2 : Addr} (hr2 : Room 7 (A2.deeper (LamX.lamEnv (cxOf (L2N.CX P w) P w K mg base N_law "law" (defScope st_law) f cdv A outer s H E) (lm 4).2.2 s2.heap.objs.size f2 c2))) : DE (lamN (cxOf (L2N.CX P w) P w K mg base N_law "law" (defScope st_law) f cdv A outer s H E) A2 o2 s2 H2 NoE (lm 4).2.2 f2 c2) T NoE (lm 4).2.1 lmb4 := by
  unfold lmb4
  exact de_meth0 (met_Board_hears Fx) (hr2.mono (by decide)) lamN_tk (de_var 10)
theorem lmb5_ok (Fx : Fs P w K mg base T) {f : Addr} {cdv : Value} {A A2 : Around} {outer o2 : List Env} {s s2 : Shared} {H H2 : Hp} {E : XK} {f2 c2 : Addr} (hr2 : Room 7 (A2.deeper (LamX.lamEnv (cxOf (L2N.CX P w) P w K mg base N_law "law" (defScope st_law) f cdv A outer s H E) (lm 5).2.2 s2.heap.objs.size f2 c2))) : DE (lamN (cxOf (L2N.CX P w) P w K mg base N_law "law" (defScope st_law) f cdv A outer s H E) A2 o2 s2 H2 NoE (lm 5).2.2 f2 c2) T NoE (lm 5).2.1 lmb5 := by
  unfold lmb5
  exact de_meth0 (met_Board_calls Fx) (hr2.mono (by decide)) lamN_tk (de_var 10)
theorem lmb6_ok (Fx : Fs P w K mg base T) {f : Addr} {cdv : Value} {A A2 : Around} {outer o2 : List Env} {s s2 : Shared} {H H2 : Hp} {E : XK} {f2 c2 : Addr} (hr2 : Room 7 (A2.deeper (LamX.lamEnv (cxOf (L2N.CX P w) P w K mg base N_law "law" (defScope st_law) f cdv A outer s H E) (lm 6).2.2 s2.heap.objs.size f2 c2))) : DE (lamN (cxOf (L2N.CX P w) P w K mg base N_law "law" (defScope st_law) f cdv A outer s H E) A2 o2 s2 H2 NoE (lm 6).2.2 f2 c2) T NoE (lm 6).2.1 lmb6 := by
  unfold lmb6
  exact de_call ⟨cal_known Fx⟩ (hr2.mono (by decide)) lamN_tk (da_cons (de_var 11) (da_nil))
theorem lmb7_ok (Fx : Fs P w K mg base T) {f : Addr} {cdv : Value} {A A2 : Around} {outer o2 : List Env} {s s2 : Shared} {H H2 : Hp} {E : XK} {f2 c2 : Addr} (hr2 : Room 7 (A2.deeper (LamX.lamEnv (cxOf (L2N.CX P w) P w K mg base N_law "law" (defScope st_law) f cdv A outer s H E) (lm 7).2.2 s2.heap.objs.size f2 c2))) : DE (lamN (cxOf (L2N.CX P w) P w K mg base N_law "law" (defScope st_law) f cdv A outer s H E) A2 o2 s2 H2 NoE (lm 7).2.2 f2 c2) T NoE (lm 7).2.1 lmb7 := by
  unfold lmb7
  exact de_call ⟨cal_carried Fx⟩ (hr2.mono (by decide)) lamN_tk (da_cons (de_var 8) (da_cons (de_int) (da_nil)))
theorem lmb8_ok (Fx : Fs P w K mg base T) {f : Addr} {cdv : Value} {A A2 : Around} {outer o2 : List Env} {s s2 : Shared} {H H2 : Hp} {E : XK} {f2 c2 : Addr} (hr2 : Room 7 (A2.deeper (LamX.lamEnv (cxOf (L2N.CX P w) P w K mg base N_law "law" (defScope st_law) f cdv A outer s H E) (lm 8).2.2 s2.heap.objs.size f2 c2))) : DE (lamN (cxOf (L2N.CX P w) P w K mg base N_law "law" (defScope st_law) f cdv A outer s H E) A2 o2 s2 H2 NoE (lm 8).2.2 f2 c2) T NoE (lm 8).2.1 lmb8 := by
  unfold lmb8
  exact de_lst true (da_cons (de_call ⟨cal_fewest Fx⟩ (hr2.mono (by decide)) lamN_tk (da_cons (de_var 8) (da_nil))) (da_cons (de_call ⟨cal_greatest Fx⟩ (hr2.mono (by decide)) lamN_tk (da_cons (de_var 8) (da_nil))) (da_cons (de_call ⟨cal_read Fx⟩ (hr2.mono (by decide)) lamN_tk (da_cons (de_call ⟨cal_written Fx⟩ (hr2.mono (by decide)) lamN_tk (da_cons (de_item (de_var 9) (de_int)) (da_nil))) (da_nil))) (da_nil))))
theorem lmb9_ok (Fx : Fs P w K mg base T) {f : Addr} {cdv : Value} {A A2 : Around} {outer o2 : List Env} {s s2 : Shared} {H H2 : Hp} {E : XK} {f2 c2 : Addr} (hr2 : Room 7 (A2.deeper (LamX.lamEnv (cxOf (L2N.CX P w) P w K mg base N_law "law" (defScope st_law) f cdv A outer s H E) (lm 9).2.2 s2.heap.objs.size f2 c2))) : DE (lamN (cxOf (L2N.CX P w) P w K mg base N_law "law" (defScope st_law) f cdv A outer s H E) A2 o2 s2 H2 NoE (lm 9).2.2 f2 c2) T NoE (lm 9).2.1 lmb9 := by
  unfold lmb9
  exact de_call ⟨cal_played Fx⟩ (hr2.mono (by decide)) lamN_tk (da_cons (de_int) (da_cons (de_int) (da_cons (de_var 9) (da_nil))))
theorem lam_bodies (Fx : Fs P w K mg base T) {f : Addr} {cdv : Value} {A : Around} {outer : List Env} {s : Shared} {H : Hp} {E : XK} (ev : List (V × D)) (n : Nat) (l : Lm) (fb : ME) (e1 : lms[n]? = some l) (e2 : lmb[n]? = some fb) (A2 : Around) (o2 : List Env) (s2 : Shared) (H2 : Hp) (f2 c2 : Addr) (hr2 : Room 7 (A2.deeper (LamX.lamEnv (cxOf (L2N.CX P w) P w K mg base N_law "law" (defScope st_law) f cdv A outer s H E) l.2.2 s2.heap.objs.size f2 c2))) : DE (lamN (cxOf (L2N.CX P w) P w K mg base N_law "law" (defScope st_law) f cdv A outer s H E) A2 o2 s2 H2 NoE l.2.2 f2 c2) (envT (lamT (cxOf (L2N.CX P w) P w K mg base N_law "law" (defScope st_law) f cdv A outer s H E) lms T) ev) NoE l.2.1 fb := by
  rw [lms_eq] at e1
  match n, e1, e2 with
  | 0, e1, e2 => cases e1; cases e2; exact lmb0_ok (Fx.re (by rfl)) hr2
  | 1, e1, e2 => cases e1; cases e2; exact lmb1_ok (Fx.re (by rfl)) hr2
  | 2, e1, e2 => cases e1; cases e2; exact lmb2_ok (Fx.re (by rfl)) hr2
  | 3, e1, e2 => cases e1; cases e2; exact lmb3_ok (Fx.re (by rfl)) hr2
  | 4, e1, e2 => cases e1; cases e2; exact lmb4_ok (Fx.re (by rfl)) hr2
  | 5, e1, e2 => cases e1; cases e2; exact lmb5_ok (Fx.re (by rfl)) hr2
  | 6, e1, e2 => cases e1; cases e2; exact lmb6_ok (Fx.re (by rfl)) hr2
  | 7, e1, e2 => cases e1; cases e2; exact lmb7_ok (Fx.re (by rfl)) hr2
  | 8, e1, e2 => cases e1; cases e2; exact lmb8_ok (Fx.re (by rfl)) hr2
  | 9, e1, e2 => cases e1; cases e2; exact lmb9_ok (Fx.re (by rfl)) hr2
  | n + 10, e1, _ => cases e1
def v_law_0 : ME := lstE false (consA (tupE (consA (cE (.wd 14)) (consA (cE (.int 0)) (consA (cE (.bl true)) (nilA))))) (consA (tupE (consA (cE (.wd 15)) (consA (cE (.int 1)) (consA (cE (.wd 12)) (consA (cE (.int 0)) (nilA)))))) (consA (tupE (consA (cE (.wd 15)) (consA (cE (.int 1)) (consA (cE (.wd 13)) (consA (varE 4) (nilA)))))) (consA (tupE (consA (cE (.wd 14)) (consA (varE 4) (consA (cE (.bl true)) (nilA))))) (nilA)))))
def b_law_1 : MS := ifS (tst (op2 eqD (op2 ixD (varE 5) (cE (.int 0))) (cE (.wd 14)))) (exprS (metE 2 3 F_Board_hook (varE 10) (consA (op2 ixD (varE 5) (cE (.int 1))) (consA (op2 ixD (varE 5) (cE (.int 2))) (nilA))))) (ifS (tst (op2 eqD (op2 ixD (varE 5) (cE (.int 0))) (cE (.wd 15)))) (exprS (metE 2 4 F_Board_plug (varE 10) (consA (op2 ixD (varE 5) (cE (.int 1))) (consA (op2 ixD (varE 5) (cE (.int 2))) (consA (op2 ixD (varE 5) (cE (.int 3))) (nilA)))))) (exprS (metE 2 2 F_Board_tick (varE 10) (consA (op2 ixD (varE 5) (cE (.int 1))) (nilA)))))
def v_law_1 : ME := lstE false (consA (tupE (consA (cE (.bl true)) (consA (cE (.bl true)) (consA (cE (.wd 21)) (consA (cE (.wd 21)) (nilA)))))) (consA (tupE (consA (cE (.bl true)) (consA (cE (.bl true)) (consA (cE (.wd 22)) (consA (cE (.wd 22)) (nilA)))))) (consA (tupE (consA (cE (.bl false)) (consA (cE (.bl true)) (consA (cE (.wd 21)) (consA (cE (.wd 22)) (nilA)))))) (nilA))))
def v_law_2 : ME := lstE false (consA (tupE (consA (cE (.int 0)) (consA (cE (.int 1)) (consA (op2 modD (varE 2) (cE (.int 5))) (consA (cE (.int 3)) (nilA)))))) (consA (tupE (consA (cE (.int 2)) (consA (cE (.int 3)) (consA (cE (.int 2)) (consA (cE (.int 9)) (nilA)))))) (consA (tupE (consA (cE (.int 1)) (consA (cE (.int 4)) (consA (cE (.int 3)) (consA (cE (.int 1)) (nilA)))))) (nilA))))
def v_law_3 : MT := orT (tst (op2 neD (metE 2 1 F_Board_plugs (varE 3) nilA) (op2 (mulD false) (lstE false (consA (tupE (consA (cE .non) (consA (cE .non) (nilA)))) (nilA))) (cE (.int 2))))) (orT (tst (op2 neD (metE 2 1 F_Board_line_lamps (varE 3) nilA) (op2 (mulD false) (lstE false (consA (cE (.bl false)) (nilA))) (cE (.int 4))))) (tst (op2 neD (metE 2 1 F_Board_calls (varE 3) nilA) (lstE false (nilA)))))
def b_law_0 : MS := seqS (asgS (callF 2 F__law_drawn (consA (callF 2 F__law_cell (consA (varE 0) (consA (varE 1) (nilA)))) (consA (varE 1) (nilA)))) (nameG 2)) (seqS (asgS (tupE (consA (makE 2 3 F_Board___init__ (consA (cE (.int 4)) (consA (cE (.int 2)) (nilA)))) (consA (makE 2 3 F_Board___init__ (consA (cE (.int 4)) (consA (cE (.int 2)) (nilA)))) nilA))) (tupG 2 (consG (nameG 10) (consG (nameG 3) (nilG))))) (seqS (asgS (op2 (addD false) (cE (.int 1)) (op2 modD (varE 2) (cE (.int 3)))) (nameG 4)) (seqS (asgS (v_law_0) (nameG 9)) (seqS (forS (seqV (op2 (addD false) (varE 9) (lstE false (consA (tupE (consA (cE (.wd 19)) (consA (cE (.int 3)) (nilA)))) (nilA))))) (nameG 5) (b_law_1)) (seqS (exprS (metE 2 3 F_Board_listen (varE 10) (consA (cE (.int 1)) (consA (cE (.bl true)) (nilA))))) (seqS (asgS (v_law_1) (nameG 11)) (seqS (asgS (v_law_2) (nameG 8)) (seqS (asgS (lstE false (consA (varE 9) (consA (varE 11) (consA (varE 8) (nilA))))) (nameG 6)) (seqS (asgS (lstE true (consA (lamV 0) (nilA))) (nameG 7)) (seqS (exprS (bmE appD (varE 7) (consA (lamV 1) (nilA)))) (seqS (exprS (bmE appD (varE 7) (consA (lamV 2) (nilA)))) (seqS (exprS (bmE appD (varE 7) (consA (lamV 3) (nilA)))) (seqS (exprS (bmE appD (varE 7) (consA (lamV 4) (nilA)))) (seqS (exprS (bmE appD (varE 7) (consA (lamV 5) (nilA)))) (seqS (exprS (bmE appD (varE 7) (consA (lamV 6) (nilA)))) (seqS (exprS (bmE appD (varE 7) (consA (lamV 7) (nilA)))) (seqS (exprS (bmE appD (varE 7) (consA (lamV 8) (nilA)))) (seqS (exprS (bmE appD (varE 7) (consA (lamV 9) (nilA)))) (seqS (ifS (tst (op2 neD (lcE false (seqV (varE 7)) (.one 5) (notT (tst (againE [5] 5 b__law_again lmb (consA (varE 5) (consA (varE 6) (nilA)))))) (cE (.int 1)) [5]) (lstE false (nilA)))) (retS (cE (.bl false))) (passS)) (ifS (v_law_3) (retS (cE (.bl false))) (passS)))))))))))))))))))))
def b_law : MS := noX (seqS (forS (rng1V (consA (callB max2 (consA (cE (.int 1)) (consA (callB min2 (consA (cE (.int 2)) (consA (callB lenD (consA (varE 0) (nilA))) (nilA)))) (nilA)))) (nilA))) (nameG 1) (cutS b_law_0)) (retS (cE (.bl true))))
abbrev F_law : List D → IH → Out D := fnC 12 b_law
theorem ok_law (hT : ∃ tb, T = .of tb) (Fx : Fs P w K mg base T) {f : Addr} {fd : FuncData} (F : FunD K "law" "law" (defArgs st_law) (defBody st_law) (defScope st_law) [] [] f fd) (hL : LamF base mg T fd.code "law.<locals>.<lambda>") : FnOk P w K mg base (L2N.CX P w) 10 f fd ["script"] (SpOf ⟨K, mg, T⟩ 1 F_law) := by
  obtain ⟨c, P0, hcd, TB, hmT, hu⟩ := hL
  have S := sc_law
  refine fn_okC (k := 9) F S (fun A outer s H E hc hr tk hp => dss_lam (L := lms) hT ?_)
  have hlm : ∀ l ∈ lms, LmOk (cxOf (L2N.CX P w) P w K mg base N_law "law" (defScope st_law) f fd.code A outer s H E) l := hlm0
  exact dss_cons (ds_for hp rfl (di_range1 Fx.n_range (da_cons (de_max2 rfl Fx.n_max (da_cons (de_int) (da_cons (de_min2 rfl Fx.n_min (da_cons (de_int) (da_cons (de_len Fx.n_len (da_cons (de_var 0) (da_nil))) (da_nil)))) (da_nil)))) (da_nil))) (dg_name 1 S.nd) (dss_cut (dss_cons (ds_set 2 S.nd (de_call ⟨cal__law_drawn (Fx.re (by rfl))⟩ (hr.mono (by decide)) tk (da_cons (de_call ⟨cal__law_cell (Fx.re (by rfl))⟩ (hr.mono (by decide)) tk (da_cons (de_var 0) (da_cons (de_var 1) (da_nil)))) (da_cons (de_var 1) (da_nil))))) (dss_cons (ds_asg (de_tup (da_cons (de_make 2 (mak_Board (Fx.re (by rfl))) (hr.mono (by decide)) tk (da_cons (de_int) (da_cons (de_int) (da_nil)))) (da_cons (de_make 2 (mak_Board (Fx.re (by rfl))) (hr.mono (by decide)) tk (da_cons (de_int) (da_cons (de_int) (da_nil)))) da_nil))) (dg_tup rfl (dgs_cons (dg_name 10 S.nd) (dgs_cons (dg_name 3 S.nd) (dgs_nil))))) (dss_cons (ds_set 4 S.nd (de_add false (de_int) (de_mod (de_var 2) (de_int)))) (dss_cons (ds_set 9 S.nd (de_lst false (da_cons (de_tup (da_cons (de_wd 14) (da_cons (de_int) (da_cons (de_bl) (da_nil))))) (da_cons (de_tup (da_cons (de_wd 15) (da_cons (de_int) (da_cons (de_wd 12) (da_cons (de_int) (da_nil)))))) (da_cons (de_tup (da_cons (de_wd 15) (da_cons (de_int) (da_cons (de_wd 13) (da_cons (de_var 4) (da_nil)))))) (da_cons (de_tup (da_cons (de_wd 14) (da_cons (de_var 4) (da_cons (de_bl) (da_nil))))) (da_nil))))))) (dss_cons (ds_for hp rfl (di_seq (de_add false (de_var 9) (de_lst false (da_cons (de_tup (da_cons (de_wd 19) (da_cons (de_int) (da_nil)))) (da_nil))))) (dg_name 5 S.nd) (dss_one (ds_if (dt_cmp (cr_eq hr) (de_item (de_var 5) (de_int)) (de_wd 14)) (dss_one (ds_expr (de_meth (met_Board_hook (Fx.re (by rfl))) (hr.mono (by decide)) tk (de_var 10) (da_cons (de_item (de_var 5) (de_int)) (da_cons (de_item (de_var 5) (de_int)) (da_nil)))))) (dss_one (ds_if (dt_cmp (cr_eq hr) (de_item (de_var 5) (de_int)) (de_wd 15)) (dss_one (ds_expr (de_meth (met_Board_plug (Fx.re (by rfl))) (hr.mono (by decide)) tk (de_var 10) (da_cons (de_item (de_var 5) (de_int)) (da_cons (de_item (de_var 5) (de_int)) (da_cons (de_item (de_var 5) (de_int)) (da_nil))))))) (dss_one (ds_expr (de_meth (met_Board_tick (Fx.re (by rfl))) (hr.mono (by decide)) tk (de_var 10) (da_cons (de_item (de_var 5) (de_int)) (da_nil)))))))))) (dss_cons (ds_expr (de_meth (met_Board_listen (Fx.re (by rfl))) (hr.mono (by decide)) tk (de_var 10) (da_cons (de_int) (da_cons (de_bl) (da_nil))))) (dss_cons (ds_set 11 S.nd (de_lst false (da_cons (de_tup (da_cons (de_bl) (da_cons (de_bl) (da_cons (de_wd 21) (da_cons (de_wd 21) (da_nil)))))) (da_cons (de_tup (da_cons (de_bl) (da_cons (de_bl) (da_cons (de_wd 22) (da_cons (de_wd 22) (da_nil)))))) (da_cons (de_tup (da_cons (de_bl) (da_cons (de_bl) (da_cons (de_wd 21) (da_cons (de_wd 22) (da_nil)))))) (da_nil)))))) (dss_cons (ds_set 8 S.nd (de_lst false (da_cons (de_tup (da_cons (de_int) (da_cons (de_int) (da_cons (de_mod (de_var 2) (de_int)) (da_cons (de_int) (da_nil)))))) (da_cons (de_tup (da_cons (de_int) (da_cons (de_int) (da_cons (de_int) (da_cons (de_int) (da_nil)))))) (da_cons (de_tup (da_cons (de_int) (da_cons (de_int) (da_cons (de_int) (da_cons (de_int) (da_nil)))))) (da_nil)))))) (dss_cons (ds_set 6 S.nd (de_lst false (da_cons (de_var 9) (da_cons (de_var 11) (da_cons (de_var 8) (da_nil)))))) (dss_cons (ds_set 7 S.nd (de_lst true (da_cons (de_lamV (L := lms) 0 TB hcd hmT hu (LamX.lamS_by (by rfl))) (da_nil)))) (dss_cons (ds_expr (de_append (de_var 7) (da_cons (de_lamV (L := lms) 1 TB hcd hmT hu (LamX.lamS_by (by rfl))) (da_nil)))) (dss_cons (ds_expr (de_append (de_var 7) (da_cons (de_lamV (L := lms) 2 TB hcd hmT hu (LamX.lamS_by (by rfl))) (da_nil)))) (dss_cons (ds_expr (de_append (de_var 7) (da_cons (de_lamV (L := lms) 3 TB hcd hmT hu (LamX.lamS_by (by rfl))) (da_nil)))) (dss_cons (ds_expr (de_append (de_var 7) (da_cons (de_lamV (L := lms) 4 TB hcd hmT hu (LamX.lamS_by (by rfl))) (da_nil)))) (dss_cons (ds_expr (de_append (de_var 7) (da_cons (de_lamV (L := lms) 5 TB hcd hmT hu (LamX.lamS_by (by rfl))) (da_nil)))) (dss_cons (ds_expr (de_append (de_var 7) (da_cons (de_lamV (L := lms) 6 TB hcd hmT hu (LamX.lamS_by (by rfl))) (da_nil)))) (dss_cons (ds_expr (de_append (de_var 7) (da_cons (de_lamV (L := lms) 7 TB hcd hmT hu (LamX.lamS_by (by rfl))) (da_nil)))) (dss_cons (ds_expr (de_append (de_var 7) (da_cons (de_lamV (L := lms) 8 TB hcd hmT hu (LamX.lamS_by (by rfl))) (da_nil)))) (dss_cons (ds_expr (de_append (de_var 7) (da_cons (de_lamV (L := lms) 9 TB hcd hmT hu (LamX.lamS_by (by rfl))) (da_nil)))) (dss_cons (ds_if (dt_cmp (cr_ne hr) (de_lcI false (.one 5) [("deed", 5)] rfl S.nd (di_seq (de_var 7)) (blkOk_by (by rfl)) (fun _ _ _ _ _ => pg_name S.nd rfl (by first | exact Or.inl rfl | exact Or.inr rfl)) (fun _ _ _ _ _ _ _ B => pt_again (k := 7) (fbs := lmb) B hlm (again_ok Fx) (hr.mono (by decide)) (fun ev n l fb e1 e2 A2 o2 s2 H2 f2 c2 hr2 => lam_bodies Fx ev n l fb e1 e2 A2 o2 s2 H2 f2 c2 hr2) (da_cons (de_var 5) (da_cons (de_var 6) (da_nil))) rfl) (fun _ _ _ _ _ => de_int)) (de_lst false (da_nil))) (dss_one (ds_ret (de_bl))) (dss_nil)) (dss_one (ds_if (DW.dt (dw_or (dt_cmp (cr_ne hr) (de_meth0 (met_Board_plugs (Fx.re (by rfl))) (hr.mono (by decide)) tk (de_var 3)) (de_mul false (de_lst false (da_cons (de_tup (da_cons (de_non) (da_cons (de_non) (da_nil)))) (da_nil))) (de_int))) (dw_or (dt_cmp (cr_ne hr) (de_meth0 (met_Board_line_lamps (Fx.re (by rfl))) (hr.mono (by decide)) tk (de_var 3)) (de_mul false (de_lst false (da_cons (de_bl) (da_nil))) (de_int))) (dw_or1 (dt_cmp (cr_ne hr) (de_meth0 (met_Board_calls (Fx.re (by rfl))) (hr.mono (by decide)) tk (de_var 3)) (de_lst false (da_nil))))))) (dss_one (ds_ret (de_bl))) (dss_nil))))))))))))))))))))))))) (dss_one (ds_ret (de_bl)))
end
end GK

set_option Elab.async false
set_option linter.all false
set_option maxRecDepth 100000
set_option maxHeartbeats 1000000
namespace GK
open DL L2 PySem PySem.Spec PyProof.Rows
/-! ### drawn numbers, the script's cells -/
def drawn (c k : Int) : Int :=
  (((((c * 6364136223846793005 + (k + 1) * 1442695040888963407) % 340282366920938463463374607431768211507) * ((c * 6364136223846793005 + (k + 1) * 1442695040888963407) % 340282366920938463463374607431768211507) % 340282366920938463463374607431768211297) % 18446744073709551557 + 1) *
    ((((c * 6364136223846793005 + (k + 1) * 1442695040888963407) % 340282366920938463463374607431768211507) * ((c * 6364136223846793005 + (k + 1) * 1442695040888963407) % 340282366920938463463374607431768211507) % 340282366920938463463374607431768211297) / 18446744073709551557 + 1) *
    (((c * 6364136223846793005 + (k + 1) * 1442695040888963407) % 340282366920938463463374607431768211507) * ((c * 6364136223846793005 + (k + 1) * 1442695040888963407) % 340282366920938463463374607431768211507) % 340282366920938463463374607431768211297)) % 340282366920938463463374607431768211507
theorem drawn_nn (c k : Int) : 0 ≤ drawn c k := Int.emod_nonneg _ (by decide)
theorem natAbs_lt {z : Int} {b : Nat} (h0 : 0 ≤ z) (h1 : z < (b : Int)) : z.natAbs < b := by omega
theorem drawn_ok (c k : Int) (h : IH) : F__law_drawn [.int c, .int k] h = .ok (.int (drawn c k)) h := by
  refine fnC_r0 (d := .int (drawn c k)) ?_ rfl
  have a1 := mulI_e (h := h) (b := false) (mulOk_r (p := c) (q := 6364136223846793005) (by decide))
  have a2 := mulI_e (h := h) (b := false) (mulOk_r (p := k + 1) (q := 1442695040888963407) (by decide))
  unfold drawn
  generalize hm : (c * 6364136223846793005 + (k + 1) * 1442695040888963407) % 340282366920938463463374607431768211507 = m
  have m0 : 0 ≤ m := by rw [← hm]; exact Int.emod_nonneg _ (by decide)
  have m1 : m < 340282366920938463463374607431768211507 := by rw [← hm]; exact Int.emod_lt_of_pos _ (by decide)
  have a3 := mulI_e (h := h) (b := false) (mulOk_m (p := m) (q := m) (natAbs_lt m0 (Int.lt_trans m1 (by decide +kernel))) (natAbs_lt m0 (Int.lt_trans m1 (by decide +kernel))))
  generalize hn : m * m % 340282366920938463463374607431768211297 = n
  have n0 : 0 ≤ n := by rw [← hn]; exact Int.emod_nonneg _ (by decide)
  have n1 : n < 340282366920938463463374607431768211297 := by rw [← hn]; exact Int.emod_lt_of_pos _ (by decide)
  have q0 : 0 ≤ n % 18446744073709551557 + 1 := by omega
  have q1 : n % 18446744073709551557 + 1 < 18446744073709551616 := by omega
  have q2 : 0 ≤ n / 18446744073709551557 + 1 := by omega
  have q3 : n / 18446744073709551557 + 1 < 36893488147419103232 := by omega
  have a4 := mulI_e (h := h) (b := false) (mulOk_l (p := n % 18446744073709551557 + 1) (q := n / 18446744073709551557 + 1) (natAbs_lt q0 (by simpa using q1)))
  have q4 : 0 ≤ (n % 18446744073709551557 + 1) * (n / 18446744073709551557 + 1) := Int.mul_nonneg q0 q2
  have q5 : (n % 18446744073709551557 + 1) * (n / 18446744073709551557 + 1) ≤ 18446744073709551616 * 36893488147419103232 := Int.mul_le_mul (by omega) (by omega) q2 (by decide)
  have a5 := mulI_e (h := h) (b := false) (mulOk_m (p := (n % 18446744073709551557 + 1) * (n / 18446744073709551557 + 1)) (q := n) (natAbs_lt q4 (Int.lt_of_le_of_lt q5 (by decide +kernel))) (natAbs_lt n0 (Int.lt_trans n1 (by decide +kernel))))
  have b1 := fun z => modI_e (h := h) (p := z) (q := 340282366920938463463374607431768211507) (by decide)
  have b2 := fun z => modI_e (h := h) (p := z) (q := 340282366920938463463374607431768211297) (by decide)
  have b3 := fun z => modI_e (h := h) (p := z) (q := 18446744073709551557) (by decide)
  have b4 := fun z => fdivI_e (h := h) (p := z) (q := 18446744073709551557) (by decide) (by decide +kernel)
  show b__law_drawn [some (.int c), some (.int k), none] h = _
  unfold b__law_drawn
  simp [varE, a1, a2, b1, hm, a3, b2, hn, b3, b4, a4, a5]
def cell (ns : List Int) (k : Nat) : Int := match ns with
  | [] => (k : Int) * 7919
  | _ => ns.getD (k % ns.length) 0 + ((k / ns.length : Nat) : Int) * 104729
theorem cell_ok (ns : List Int) (k : Nat) (h : IH) (hk : k < 100) (hn : ns.length ≤ 63) : F__law_cell [.fl (ns.map .int), .int k] h = .ok (.int (cell ns k)) h := by
  refine fnC_r0 (d := .int (cell ns k)) ?_ rfl
  show b__law_cell [some (.fl (ns.map .int)), some (.int k)] h = _
  cases ns with
  | nil =>
    have a1 := mulI_e (h := h) (b := false) (mulOk_r (p := (k : Int)) (q := 7919) (by decide))
    have z : sizeLine = 16777216 := sizeLine_eq
    unfold b__law_cell
    simp [varE, lstE, eqD, res, dp, optAll, eqW, eqWs, a1, cell]
  | cons n ns =>
    have hp : 0 < ((n :: ns).length : Int) := by simp only [List.length_cons]; omega
    have hl : ((n :: ns).length : Int).natAbs < 2 ^ 64 := by simp only [Int.natAbs_natCast]; omega
    have hg : ((n :: ns).length : Int).natAbs.log2 < 9000 := by
      simp only [Int.natAbs_natCast]
      exact (Nat.log2_lt (by simp)).mpr (Nat.lt_of_le_of_lt hn (by decide +kernel))
    have e1 : (k : Int) % ((n :: ns).length : Int) = ((k % (n :: ns).length : Nat) : Int) := by omega
    have e2 : (k : Int) / ((n :: ns).length : Int) = ((k / (n :: ns).length : Nat) : Int) := by omega
    have a1 := mulI_e (h := h) (b := false) (mulOk_r (p := ((k / (n :: ns).length : Nat) : Int)) (q := 104729) (by decide))
    have a2 := modI_e (h := h) (p := (k : Int)) hp
    have a3 := fdivI_e (h := h) (p := (k : Int)) hp hg
    rw [e1] at a2
    rw [e2] at a3
    have hlt : k % (n :: ns).length < (n :: ns).length := Nat.mod_lt _ (by simp)
    have ez := lenD_e (h := h) (d := .fl ((n :: ns).map .int)) rfl
    rw [List.length_map] at ez
    have ei := ixD_e (h := h) (d := .fl ((n :: ns).map .int)) (i := k % (n :: ns).length) (y := .int ((n :: ns).getD (k % (n :: ns).length) 0)) rfl (by
      rw [List.getElem?_map, List.getElem?_eq_getElem hlt, List.getD_eq_getElem?_getD, List.getElem?_eq_getElem hlt]
      rfl)
    have eq := eqD_L (h := h) (x := .fl ((n :: ns).map .int)) (y := .vl []) rfl rfl (pls_ints _) rfl (by rw [deps_ints]; omega) (by decide)
    have eq2 : eqWs ((n :: ns).map D.int) [] = false := rfl
    rw [eq2] at eq
    have ec : cell (n :: ns) k = (n :: ns).getD (k % (n :: ns).length) 0 + ((k / (n :: ns).length : Nat) : Int) * 104729 := rfl
    rw [ec]
    unfold b__law_cell
    generalize D.fl ((n :: ns).map .int) = L at *
    generalize (n :: ns).length = len at *
    generalize k % len = u at *
    generalize k / len = v at *
    simp [varE, lstE, eq, ez, ei, a1, a2, a3]
abbrev ID (k : Nat) : D := .int ((k : Nat) : Int)
theorem ID_at {n i : Nat} {d : D} (hd : (rangeL 0 n)[i]? = some d) : i < n ∧ d = ID i := by
  have hin : i < n := by
    have := (List.getElem?_eq_some_iff.mp hd).1
    simpa [rangeL] using this
  refine ⟨hin, ?_⟩
  unfold rangeL at hd
  rw [List.getElem?_map, List.getElem?_range hin] at hd
  have hd := Option.some.inj hd
  rw [← hd]
  show D.int (0 + (i : Int)) = _
  rw [Int.zero_add]
theorem rng1_nat {t : MA} {en : En} {h : IH} {n : Nat} (e : t en h = .ok [ID n] h) (hn : n ≤ 5000) : rng1V t en h = .ok (fun _ => some (rangeL 0 n)) h := by
  have hb : inB ((n : Nat) : Int) = true := by simp [inB]; omega
  unfold rng1V
  rw [e, Out.bind_ok]
  show grd (inB ((n : Nat) : Int)) (.ok (fun _ => some (rangeL 0 ((n : Nat) : Int).toNat)) h) = _
  rw [hb, Int.toNat_natCast]
  rfl
def v2m (mm : ME) : ME := lstE false (consA (tupE (consA (cE (.int 0)) (consA (cE (.int 1)) (consA (mm) (consA (cE (.int 3)) (nilA)))))) (consA (tupE (consA (cE (.int 2)) (consA (cE (.int 3)) (consA (cE (.int 2)) (consA (cE (.int 9)) (nilA)))))) (consA (tupE (consA (cE (.int 1)) (consA (cE (.int 4)) (consA (cE (.int 3)) (consA (cE (.int 1)) (nilA)))))) (nilA))))
def T90 : MS := asgS (tupE (consA (makE 2 3 F_Board___init__ (consA (cE (.int 4)) (consA (cE (.int 2)) (nilA)))) (consA (makE 2 3 F_Board___init__ (consA (cE (.int 4)) (consA (cE (.int 2)) (nilA)))) nilA))) (tupG 2 (consG (nameG 10) (consG (nameG 3) (nilG))))
def R90 : MS := seqS (asgS (op2 (addD false) (cE (.int 1)) (op2 modD (varE 2) (cE (.int 3)))) (nameG 4)) (seqS (asgS (v_law_0) (nameG 9)) (seqS (forS (seqV (op2 (addD false) (varE 9) (lstE false (consA (tupE (consA (cE (.wd 19)) (consA (cE (.int 3)) (nilA)))) (nilA))))) (nameG 5) (b_law_1)) (seqS (exprS (metE 2 3 F_Board_listen (varE 10) (consA (cE (.int 1)) (consA (cE (.bl true)) (nilA))))) (seqS (asgS (v_law_1) (nameG 11)) (seqS (asgS (v_law_2) (nameG 8)) (seqS (asgS (lstE false (consA (varE 9) (consA (varE 11) (consA (varE 8) (nilA))))) (nameG 6)) (seqS (asgS (lstE true (consA (lamV 0) (nilA))) (nameG 7)) (seqS (exprS (bmE appD (varE 7) (consA (lamV 1) (nilA)))) (seqS (exprS (bmE appD (varE 7) (consA (lamV 2) (nilA)))) (seqS (exprS (bmE appD (varE 7) (consA (lamV 3) (nilA)))) (seqS (exprS (bmE appD (varE 7) (consA (lamV 4) (nilA)))) (seqS (exprS (bmE appD (varE 7) (consA (lamV 5) (nilA)))) (seqS (exprS (bmE appD (varE 7) (consA (lamV 6) (nilA)))) (seqS (exprS (bmE appD (varE 7) (consA (lamV 7) (nilA)))) (seqS (exprS (bmE appD (varE 7) (consA (lamV 8) (nilA)))) (seqS (exprS (bmE appD (varE 7) (consA (lamV 9) (nilA)))) (seqS (ifS (tst (op2 neD (lcE false (seqV (varE 7)) (.one 5) (notT (tst (againE [5] 5 b__law_again lmb (consA (varE 5) (consA (varE 6) (nilA)))))) (cE (.int 1)) [5]) (lstE false (nilA)))) (retS (cE (.bl false))) (passS)) (ifS (v_law_3) (retS (cE (.bl false))) (passS)))))))))))))))))))
def R90m (ma mb : ME) : MS := seqS (asgS (op2 (addD false) (cE (.int 1)) (ma)) (nameG 4)) (seqS (asgS (v_law_0) (nameG 9)) (seqS (forS (seqV (op2 (addD false) (varE 9) (lstE false (consA (tupE (consA (cE (.wd 19)) (consA (cE (.int 3)) (nilA)))) (nilA))))) (nameG 5) (b_law_1)) (seqS (exprS (metE 2 3 F_Board_listen (varE 10) (consA (cE (.int 1)) (consA (cE (.bl true)) (nilA))))) (seqS (asgS (v_law_1) (nameG 11)) (seqS (asgS (v2m mb) (nameG 8)) (seqS (asgS (lstE false (consA (varE 9) (consA (varE 11) (consA (varE 8) (nilA))))) (nameG 6)) (seqS (asgS (lstE true (consA (lamV 0) (nilA))) (nameG 7)) (seqS (exprS (bmE appD (varE 7) (consA (lamV 1) (nilA)))) (seqS (exprS (bmE appD (varE 7) (consA (lamV 2) (nilA)))) (seqS (exprS (bmE appD (varE 7) (consA (lamV 3) (nilA)))) (seqS (exprS (bmE appD (varE 7) (consA (lamV 4) (nilA)))) (seqS (exprS (bmE appD (varE 7) (consA (lamV 5) (nilA)))) (seqS (exprS (bmE appD (varE 7) (consA (lamV 6) (nilA)))) (seqS (exprS (bmE appD (varE 7) (consA (lamV 7) (nilA)))) (seqS (exprS (bmE appD (varE 7) (consA (lamV 8) (nilA)))) (seqS (exprS (bmE appD (varE 7) (consA (lamV 9) (nilA)))) (seqS (ifS (tst (op2 neD (lcE false (seqV (varE 7)) (.one 5) (notT (tst (againE [5] 5 b__law_again lmb (consA (varE 5) (consA (varE 6) (nilA)))))) (cE (.int 1)) [5]) (lstE false (nilA)))) (retS (cE (.bl false))) (passS)) (ifS (v_law_3) (retS (cE (.bl false))) (passS)))))))))))))))))))
def post90 : MS := seqS (ifS (tst (op2 neD (lcE false (seqV (varE 7)) (.one 5) (notT (tst (againE [5] 5 b__law_again lmb (consA (varE 5) (consA (varE 6) (nilA)))))) (cE (.int 1)) [5]) (lstE false (nilA)))) (retS (cE (.bl false))) (passS)) (ifS (v_law_3) (retS (cE (.bl false))) (passS))
def s17 : MS := ifS (tst (op2 neD (lcE false (seqV (varE 7)) (.one 5) (notT (tst (againE [5] 5 b__law_again lmb (consA (varE 5) (consA (varE 6) (nilA)))))) (cE (.int 1)) [5]) (lstE false (nilA)))) (retS (cE (.bl false))) (passS)
def s18 : MS := ifS (v_law_3) (retS (cE (.bl false))) (passS)
def pre90 (ma mb : ME) : MS := seqS T90 (seqS (asgS (op2 (addD false) (cE (.int 1)) (ma)) (nameG 4)) (seqS (asgS (v_law_0) (nameG 9)) (seqS (forS (seqV (op2 (addD false) (varE 9) (lstE false (consA (tupE (consA (cE (.wd 19)) (consA (cE (.int 3)) (nilA)))) (nilA))))) (nameG 5) (b_law_1)) (seqS (exprS (metE 2 3 F_Board_listen (varE 10) (consA (cE (.int 1)) (consA (cE (.bl true)) (nilA))))) (seqS (asgS (v_law_1) (nameG 11)) (seqS (asgS (v2m mb) (nameG 8)) (seqS (asgS (lstE false (consA (varE 9) (consA (varE 11) (consA (varE 8) (nilA))))) (nameG 6)) (seqS (asgS (lstE true (consA (lamV 0) (nilA))) (nameG 7)) (seqS (exprS (bmE appD (varE 7) (consA (lamV 1) (nilA)))) (seqS (exprS (bmE appD (varE 7) (consA (lamV 2) (nilA)))) (seqS (exprS (bmE appD (varE 7) (consA (lamV 3) (nilA)))) (seqS (exprS (bmE appD (varE 7) (consA (lamV 4) (nilA)))) (seqS (exprS (bmE appD (varE 7) (consA (lamV 5) (nilA)))) (seqS (exprS (bmE appD (varE 7) (consA (lamV 6) (nilA)))) (seqS (exprS (bmE appD (varE 7) (consA (lamV 7) (nilA)))) (seqS (exprS (bmE appD (varE 7) (consA (lamV 8) (nilA)))) (exprS (bmE appD (varE 7) (consA (lamV 9) (nilA))))))))))))))))))))
theorem R90_eq : R90 = R90m (op2 modD (varE 2) (cE (.int 3))) (op2 modD (varE 2) (cE (.int 5))) := rfl
theorem A90_eq : b_law_0 = seqS (asgS (callF 2 F__law_drawn (consA (callF 2 F__law_cell (consA (varE 0) (consA (varE 1) (nilA)))) (consA (varE 1) (nilA)))) (nameG 2)) (seqS T90 R90) := rfl
theorem seq_inv {a k : MS} {en e' : En} {h h' : IH} (q : seqS a k en h = .nx e' h') : ∃ en1 h1, a en h = .nx en1 h1 ∧ k en1 h1 = .nx e' h' := by
  rw [seqS_e] at q
  cases z : a en h with
  | nx en1 h1 => rw [z] at q; exact ⟨en1, h1, rfl, q⟩
  | _ => rw [z] at q; cases q
theorem seq_mk {a k : MS} {en en1 : En} {h h1 : IH} {o : SO} (e : a en h = .nx en1 h1) (q : k en1 h1 = o) : seqS a k en h = o := by
  rw [seqS_e, e]
  exact q
def nxL : SO → Option (Nat × Option (Option D))
  | .nx en _ => some (en.length, en[0]?)
  | _ => none
theorem nxL_of {o : SO} {n : Nat} {x : Option (Option D)} (e : nxL o = some (n, x)) : ∃ en h, o = .nx en h ∧ en.length = n ∧ en[0]? = x := by
  cases o with
  | nx en h =>
    have e : some (en.length, en[0]?) = some (n, x) := e
    cases e
    exact ⟨en, h, rfl, rfl, rfl⟩
  | _ => cases e
def Apx (p q f : MS) : Prop := ∀ en h en1 h1, p en h = .nx en1 h1 → f en h = q en1 h1
theorem Apx.base {p q : MS} : Apx p q (seqS p q) := fun en h en1 h1 e => by rw [seqS_e, e]; rfl
theorem Apx.seq {a p q f : MS} (x : Apx p q f) : Apx (seqS a p) q (seqS a f) := fun en h en1 h1 e => by
  obtain ⟨en2, h2, e1, e2⟩ := seq_inv e
  rw [seqS_e, e1]
  exact x _ _ _ _ e2
theorem pre_post (ma mb : ME) : Apx (pre90 ma mb) post90 (seqS T90 (R90m ma mb)) := by
  unfold pre90 R90m
  exact .seq (.seq (.seq (.seq (.seq (.seq (.seq (.seq (.seq (.seq (.seq (.seq (.seq (.seq (.seq (.seq (.seq (.base)))))))))))))))))
def sl2 : SO → Option (Option (Option D))
  | .nx en _ => some en[2]?
  | _ => none
theorem slot_c (s x1 : D) (more : Int) (x3 x4 x5 x6 x7 x8 x9 xa xb : Option D) : sl2 (T90 [some s, some x1, some (.int more), x3, x4, x5, x6, x7, x8, x9, xa, xb] []) = some (some (some (.int more))) := by kernel_rfl
def h90_0 : IH := [.ins 2 [(.vl [(.ref 1), (.ref 2), (.ref 3), (.ref 4)]), (.vl [(.ref 5), (.ref 8)]), (.int 3), (.int 6), (.ref 11), (.ref 12)], .ins 0 [(.bl true), (.int 0), (.int 0), (.int 1), (.bl false)], .ins 0 [(.bl true), (.int 0), (.int 0), (.int 4), (.bl false)], .ins 0 [(.bl false), (.int (-4)), (.int 0), (.int 0), (.bl false)], .ins 0 [(.bl false), (.int (-4)), (.int 0), (.int 0), (.bl false)], .ins 1 [(.ref 6), (.ref 7), (.bl false), (.bl false), (.int 0), .non], .lst [.non, .non], .lst [(.int 0), (.int 0)], .ins 1 [(.ref 9), (.ref 10), (.bl true), (.bl false), (.int 6), (.ref 86)], .lst [(.int 0), (.int 1)], .lst [(.int 2), (.int 3)], .lst [], .lst [(.tup [(.vl [(.ref 26), (.ref 27), (.ref 28), (.ref 29)]), (.vl [(.ref 30), (.ref 35)]), (.int 0), (.ref 40)]), (.tup [(.vl [(.ref 41), (.ref 42), (.ref 43), (.ref 44)]), (.vl [(.ref 45), (.ref 50)]), (.int 0), (.ref 55)]), (.tup [(.vl [(.ref 56), (.ref 57), (.ref 58), (.ref 59)]), (.vl [(.ref 60), (.ref 65)]), (.int 0), (.ref 70)]), (.tup [(.vl [(.ref 71), (.ref 72), (.ref 73), (.ref 74)]), (.vl [(.ref 75), (.ref 80)]), (.int 0), (.ref 85)]), (.tup [(.vl [(.ref 87), (.ref 88), (.ref 89), (.ref 90)]), (.vl [(.ref 91), (.ref 96)]), (.int 0), (.ref 102)]), (.tup [(.vl [(.ref 103), (.ref 104), (.ref 105), (.ref 106)]), (.vl [(.ref 107), (.ref 112)]), (.int 3), (.ref 118)])], .ins 2 [(.vl [(.ref 14), (.ref 15), (.ref 16), (.ref 17)]), (.vl [(.ref 18), (.ref 21)]), (.int 0), (.int 0), (.ref 24), (.ref 25)], .ins 0 [(.bl false), (.int (-4)), (.int 0), (.int 0), (.bl false)], .ins 0 [(.bl false), (.int (-4)), (.int 0), (.int 0), (.bl false)], .ins 0 [(.bl false), (.int (-4)), (.int 0), (.int 0), (.bl false)], .ins 0 [(.bl false), (.int (-4)), (.int 0), (.int 0), (.bl false)], .ins 1 [(.ref 19), (.ref 20), (.bl false), (.bl false), (.int 0), .non], .lst [.non, .non], .lst [(.int 0), (.int 0)], .ins 1 [(.ref 22), (.ref 23), (.bl false), (.bl false), (.int 0), .non], .lst [.non, .non], .lst [(.int 0), (.int 0)], .lst [], .lst [], .ins 0 [(.bl false), (.int (-4)), (.int 0), (.int 0), (.bl false)], .ins 0 [(.bl false), (.int (-4)), (.int 0), (.int 0), (.bl false)], .ins 0 [(.bl false), (.int (-4)), (.int 0), (.int 0), (.bl false)], .ins 0 [(.bl false), (.int (-4)), (.int 0), (.int 0), (.bl false)], .ins 1 [(.ref 33), (.ref 34), (.bl false), (.bl false), (.int 0), .non], .lst [.non, .non], .lst [(.int 0), (.int 0)], .lst [.non, .non], .lst [(.int 0), (.int 0)], .ins 1 [(.ref 38), (.ref 39), (.bl false), (.bl false), (.int 0), .non], .lst [.non, .non], .lst [(.int 0), (.int 0)], .lst [.non, .non], .lst [(.int 0), (.int 0)], .lst [], .ins 0 [(.bl true), (.int 0), (.int 0), (.int 1), (.bl false)], .ins 0 [(.bl false), (.int (-4)), (.int 0), (.int 0), (.bl false)], .ins 0 [(.bl false), (.int (-4)), (.int 0), (.int 0), (.bl false)], .ins 0 [(.bl false), (.int (-4)), (.int 0), (.int 0), (.bl false)], .ins 1 [(.ref 48), (.ref 49), (.bl false), (.bl false), (.int 0), .non], .lst [.non, .non], .lst [(.int 0), (.int 0)], .lst [.non, .non], .lst [(.int 0), (.int 0)], .ins 1 [(.ref 53), (.ref 54), (.bl false), (.bl false), (.int 0), .non], .lst [.non, .non], .lst [(.int 0), (.int 0)], .lst [.non, .non], .lst [(.int 0), (.int 0)], .lst [], .ins 0 [(.bl true), (.int 0), (.int 0), (.int 1), (.bl false)], .ins 0 [(.bl false), (.int (-4)), (.int 0), (.int 0), (.bl false)], .ins 0 [(.bl false), (.int (-4)), (.int 0), (.int 0), (.bl false)], .ins 0 [(.bl false), (.int (-4)), (.int 0), (.int 0), (.bl false)], .ins 1 [(.ref 63), (.ref 64), (.bl false), (.bl false), (.int 0), .non], .lst [.non, .non], .lst [(.int 0), (.int 0)], .lst [.non, .non], .lst [(.int 0), (.int 0)], .ins 1 [(.ref 68), (.ref 69), (.bl false), (.bl false), (.int 0), .non], .lst [.non, .non], .lst [(.int 0), (.int 0)], .lst [(.int 0), .non], .lst [(.int 2), (.int 0)], .lst [], .ins 0 [(.bl true), (.int 0), (.int 0), (.int 1), (.bl false)], .ins 0 [(.bl false), (.int (-4)), (.int 0), (.int 0), (.bl false)], .ins 0 [(.bl false), (.int (-4)), (.int 0), (.int 0), (.bl false)], .ins 0 [(.bl false), (.int (-4)), (.int 0), (.int 0), (.bl false)], .ins 1 [(.ref 78), (.ref 79), (.bl false), (.bl false), (.int 0), .non], .lst [.non, .non], .lst [(.int 0), (.int 0)], .lst [.non, .non], .lst [(.int 0), (.int 0)], .ins 1 [(.ref 83), (.ref 84), (.bl false), (.bl false), (.int 0), .non], .lst [.non, .non], .lst [(.int 0), (.int 0)], .lst [(.int 0), (.int 1)], .lst [(.int 2), (.int 3)], .lst [], .lst [(.int 0), (.int 1), (.int 0), .non], .ins 0 [(.bl true), (.int 0), (.int 0), (.int 1), (.bl false)], .ins 0 [(.bl true), (.int 0), (.int 0), (.int 4), (.bl false)], .ins 0 [(.bl false), (.int (-4)), (.int 0), (.int 0), (.bl false)], .ins 0 [(.bl false), (.int (-4)), (.int 0), (.int 0), (.bl false)], .ins 1 [(.ref 94), (.ref 95), (.bl false), (.bl false), (.int 0), .non], .lst [.non, .non], .lst [(.int 0), (.int 0)], .lst [.non, .non], .lst [(.int 0), (.int 0)], .ins 1 [(.ref 99), (.ref 100), (.bl false), (.bl false), (.int 0), (.ref 101)], .lst [.non, .non], .lst [(.int 0), (.int 0)], .lst [(.int 0), (.int 1)], .lst [(.int 2), (.int 3)], .lst [(.int 0), (.int 1), (.int 0), .non], .lst [], .ins 0 [(.bl true), (.int 0), (.int 0), (.int 1), (.bl false)], .ins 0 [(.bl true), (.int 0), (.int 0), (.int 4), (.bl false)], .ins 0 [(.bl false), (.int (-4)), (.int 0), (.int 0), (.bl false)], .ins 0 [(.bl false), (.int (-4)), (.int 0), (.int 0), (.bl false)], .ins 1 [(.ref 110), (.ref 111), (.bl false), (.bl false), (.int 0), .non], .lst [.non, .non], .lst [(.int 0), (.int 0)], .lst [.non, .non], .lst [(.int 0), (.int 0)], .ins 1 [(.ref 115), (.ref 116), (.bl false), (.bl false), (.int 0), (.ref 117)], .lst [.non, .non], .lst [(.int 0), (.int 0)], .lst [(.int 0), (.int 1)], .lst [(.int 2), (.int 3)], .lst [(.int 0), (.int 1), (.int 0), .non], .lst [], .ext 1 [], .lst [(.ref 119), (.ref 121), (.ref 122), (.ref 123), (.ref 124), (.ref 125), (.ref 126), (.ref 127), (.ref 128), (.ref 129)], .ext 2 [], .ext 3 [], .ext 4 [], .ext 5 [], .ext 6 [], .ext 7 [], .ext 8 [], .ext 9 [], .ext 10 []]
def en90_0 (s x1 m : D) (b : Int) (x5 : Option D) : En := [some s, some x1, some m, some (.ref 13), some (.int 1), x5, some (.vl [(.vl [(.tup [(.wd 14), (.int 0), (.bl true)]), (.tup [(.wd 15), (.int 1), (.wd 12), (.int 0)]), (.tup [(.wd 15), (.int 1), (.wd 13), (.int 1)]), (.tup [(.wd 14), (.int 1), (.bl true)])]), (.vl [(.tup [(.bl true), (.bl true), (.wd 21), (.wd 21)]), (.tup [(.bl true), (.bl true), (.wd 22), (.wd 22)]), (.tup [(.bl false), (.bl true), (.wd 21), (.wd 22)])]), (.vl [(.tup [(.int 0), (.int 1), (.int b), (.int 3)]), (.tup [(.int 2), (.int 3), (.int 2), (.int 9)]), (.tup [(.int 1), (.int 4), (.int 3), (.int 1)])])]), some (.ref 120), some (.vl [(.tup [(.int 0), (.int 1), (.int b), (.int 3)]), (.tup [(.int 2), (.int 3), (.int 2), (.int 9)]), (.tup [(.int 1), (.int 4), (.int 3), (.int 1)])]), some (.vl [(.tup [(.wd 14), (.int 0), (.bl true)]), (.tup [(.wd 15), (.int 1), (.wd 12), (.int 0)]), (.tup [(.wd 15), (.int 1), (.wd 13), (.int 1)]), (.tup [(.wd 14), (.int 1), (.bl true)])]), some (.ref 0), some (.vl [(.tup [(.bl true), (.bl true), (.wd 21), (.wd 21)]), (.tup [(.bl true), (.bl true), (.wd 22), (.wd 22)]), (.tup [(.bl false), (.bl true), (.wd 21), (.wd 22)])])]
def ys90_0 : List D := [(.tup [(.int 1), (.int 0), (.int 1), (.int 0), .non, .non])]
def dd90_0 : D := (.vl [(.tup [(.wd 14), (.int 0), (.bl true)]), (.tup [(.wd 15), (.int 1), (.wd 12), (.int 0)]), (.tup [(.wd 15), (.int 1), (.wd 13), (.int 1)]), (.tup [(.wd 14), (.int 1), (.bl true)])])
theorem pre_0 (s x1 m : D) (b : Int) (x3 x4 x5 x6 x7 x8 x9 xa xb : Option D) : pre90 (cE (.int 0)) (cE (.int b)) [some s, some x1, some m, x3, x4, x5, x6, x7, x8, x9, xa, xb] [] = .nx (en90_0 s x1 m b (some (.tup [(.wd 19), (.int 3)]))) h90_0 := by kernel_rfl
theorem played_0 (h : IH) : F_played [.int 4, .int 2, dd90_0] h = .ok (.ref h.length) (h ++ [.lst ys90_0]) := by kernel_rfl
def h90_1 : IH := [.ins 2 [(.vl [(.ref 1), (.ref 2), (.ref 3), (.ref 4)]), (.vl [(.ref 5), (.ref 8)]), (.int 3), (.int 6), (.ref 11), (.ref 12)], .ins 0 [(.bl true), (.int 0), (.int 0), (.int 1), (.bl false)], .ins 0 [(.bl false), (.int (-4)), (.int 0), (.int 0), (.bl false)], .ins 0 [(.bl true), (.int 0), (.int 0), (.int 4), (.bl false)], .ins 0 [(.bl false), (.int (-4)), (.int 0), (.int 0), (.bl false)], .ins 1 [(.ref 6), (.ref 7), (.bl false), (.bl false), (.int 0), .non], .lst [.non, .non], .lst [(.int 0), (.int 0)], .ins 1 [(.ref 9), (.ref 10), (.bl true), (.bl false), (.int 6), (.ref 86)], .lst [(.int 0), (.int 2)], .lst [(.int 2), (.int 3)], .lst [], .lst [(.tup [(.vl [(.ref 26), (.ref 27), (.ref 28), (.ref 29)]), (.vl [(.ref 30), (.ref 35)]), (.int 0), (.ref 40)]), (.tup [(.vl [(.ref 41), (.ref 42), (.ref 43), (.ref 44)]), (.vl [(.ref 45), (.ref 50)]), (.int 0), (.ref 55)]), (.tup [(.vl [(.ref 56), (.ref 57), (.ref 58), (.ref 59)]), (.vl [(.ref 60), (.ref 65)]), (.int 0), (.ref 70)]), (.tup [(.vl [(.ref 71), (.ref 72), (.ref 73), (.ref 74)]), (.vl [(.ref 75), (.ref 80)]), (.int 0), (.ref 85)]), (.tup [(.vl [(.ref 87), (.ref 88), (.ref 89), (.ref 90)]), (.vl [(.ref 91), (.ref 96)]), (.int 0), (.ref 102)]), (.tup [(.vl [(.ref 103), (.ref 104), (.ref 105), (.ref 106)]), (.vl [(.ref 107), (.ref 112)]), (.int 3), (.ref 118)])], .ins 2 [(.vl [(.ref 14), (.ref 15), (.ref 16), (.ref 17)]), (.vl [(.ref 18), (.ref 21)]), (.int 0), (.int 0), (.ref 24), (.ref 25)], .ins 0 [(.bl false), (.int (-4)), (.int 0), (.int 0), (.bl false)], .ins 0 [(.bl false), (.int (-4)), (.int 0), (.int 0), (.bl false)], .ins 0 [(.bl false), (.int (-4)), (.int 0), (.int 0), (.bl false)], .ins 0 [(.bl false), (.int (-4)), (.int 0), (.int 0), (.bl false)], .ins 1 [(.ref 19), (.ref 20), (.bl false), (.bl false), (.int 0), .non], .lst [.non, .non], .lst [(.int 0), (.int 0)], .ins 1 [(.ref 22), (.ref 23), (.bl false), (.bl false), (.int 0), .non], .lst [.non, .non], .lst [(.int 0), (.int 0)], .lst [], .lst [], .ins 0 [(.bl false), (.int (-4)), (.int 0), (.int 0), (.bl false)], .ins 0 [(.bl false), (.int (-4)), (.int 0), (.int 0), (.bl false)], .ins 0 [(.bl false), (.int (-4)), (.int 0), (.int 0), (.bl false)], .ins 0 [(.bl false), (.int (-4)), (.int 0), (.int 0), (.bl false)], .ins 1 [(.ref 33), (.ref 34), (.bl false), (.bl false), (.int 0), .non], .lst [.non, .non], .lst [(.int 0), (.int 0)], .lst [.non, .non], .lst [(.int 0), (.int 0)], .ins 1 [(.ref 38), (.ref 39), (.bl false), (.bl false), (.int 0), .non], .lst [.non, .non], .lst [(.int 0), (.int 0)], .lst [.non, .non], .lst [(.int 0), (.int 0)], .lst [], .ins 0 [(.bl true), (.int 0), (.int 0), (.int 1), (.bl false)], .ins 0 [(.bl false), (.int (-4)), (.int 0), (.int 0), (.bl false)], .ins 0 [(.bl false), (.int (-4)), (.int 0), (.int 0), (.bl false)], .ins 0 [(.bl false), (.int (-4)), (.int 0), (.int 0), (.bl false)], .ins 1 [(.ref 48), (.ref 49), (.bl false), (.bl false), (.int 0), .non], .lst [.non, .non], .lst [(.int 0), (.int 0)], .lst [.non, .non], .lst [(.int 0), (.int 0)], .ins 1 [(.ref 53), (.ref 54), (.bl false), (.bl false), (.int 0), .non], .lst [.non, .non], .lst [(.int 0), (.int 0)], .lst [.non, .non], .lst [(.int 0), (.int 0)], .lst [], .ins 0 [(.bl true), (.int 0), (.int 0), (.int 1), (.bl false)], .ins 0 [(.bl false), (.int (-4)), (.int 0), (.int 0), (.bl false)], .ins 0 [(.bl false), (.int (-4)), (.int 0), (.int 0), (.bl false)], .ins 0 [(.bl false), (.int (-4)), (.int 0), (.int 0), (.bl false)], .ins 1 [(.ref 63), (.ref 64), (.bl false), (.bl false), (.int 0), .non], .lst [.non, .non], .lst [(.int 0), (.int 0)], .lst [.non, .non], .lst [(.int 0), (.int 0)], .ins 1 [(.ref 68), (.ref 69), (.bl false), (.bl false), (.int 0), .non], .lst [.non, .non], .lst [(.int 0), (.int 0)], .lst [(.int 0), .non], .lst [(.int 2), (.int 0)], .lst [], .ins 0 [(.bl true), (.int 0), (.int 0), (.int 1), (.bl false)], .ins 0 [(.bl false), (.int (-4)), (.int 0), (.int 0), (.bl false)], .ins 0 [(.bl false), (.int (-4)), (.int 0), (.int 0), (.bl false)], .ins 0 [(.bl false), (.int (-4)), (.int 0), (.int 0), (.bl false)], .ins 1 [(.ref 78), (.ref 79), (.bl false), (.bl false), (.int 0), .non], .lst [.non, .non], .lst [(.int 0), (.int 0)], .lst [.non, .non], .lst [(.int 0), (.int 0)], .ins 1 [(.ref 83), (.ref 84), (.bl false), (.bl false), (.int 0), .non], .lst [.non, .non], .lst [(.int 0), (.int 0)], .lst [(.int 0), (.int 2)], .lst [(.int 2), (.int 3)], .lst [], .lst [(.int 0), (.int 2), (.int 0), .non], .ins 0 [(.bl true), (.int 0), (.int 0), (.int 1), (.bl false)], .ins 0 [(.bl false), (.int (-4)), (.int 0), (.int 0), (.bl false)], .ins 0 [(.bl true), (.int 0), (.int 0), (.int 4), (.bl false)], .ins 0 [(.bl false), (.int (-4)), (.int 0), (.int 0), (.bl false)], .ins 1 [(.ref 94), (.ref 95), (.bl false), (.bl false), (.int 0), .non], .lst [.non, .non], .lst [(.int 0), (.int 0)], .lst [.non, .non], .lst [(.int 0), (.int 0)], .ins 1 [(.ref 99), (.ref 100), (.bl false), (.bl false), (.int 0), (.ref 101)], .lst [.non, .non], .lst [(.int 0), (.int 0)], .lst [(.int 0), (.int 2)], .lst [(.int 2), (.int 3)], .lst [(.int 0), (.int 2), (.int 0), .non], .lst [], .ins 0 [(.bl true), (.int 0), (.int 0), (.int 1), (.bl false)], .ins 0 [(.bl false), (.int (-4)), (.int 0), (.int 0), (.bl false)], .ins 0 [(.bl true), (.int 0), (.int 0), (.int 4), (.bl false)], .ins 0 [(.bl false), (.int (-4)), (.int 0), (.int 0), (.bl false)], .ins 1 [(.ref 110), (.ref 111), (.bl false), (.bl false), (.int 0), .non], .lst [.non, .non], .lst [(.int 0), (.int 0)], .lst [.non, .non], .lst [(.int 0), (.int 0)], .ins 1 [(.ref 115), (.ref 116), (.bl false), (.bl false), (.int 0), (.ref 117)], .lst [.non, .non], .lst [(.int 0), (.int 0)], .lst [(.int 0), (.int 2)], .lst [(.int 2), (.int 3)], .lst [(.int 0), (.int 2), (.int 0), .non], .lst [], .ext 1 [], .lst [(.ref 119), (.ref 121), (.ref 122), (.ref 123), (.ref 124), (.ref 125), (.ref 126), (.ref 127), (.ref 128), (.ref 129)], .ext 2 [], .ext 3 [], .ext 4 [], .ext 5 [], .ext 6 [], .ext 7 [], .ext 8 [], .ext 9 [], .ext 10 []]
def en90_1 (s x1 m : D) (b : Int) (x5 : Option D) : En := [some s, some x1, some m, some (.ref 13), some (.int 2), x5, some (.vl [(.vl [(.tup [(.wd 14), (.int 0), (.bl true)]), (.tup [(.wd 15), (.int 1), (.wd 12), (.int 0)]), (.tup [(.wd 15), (.int 1), (.wd 13), (.int 2)]), (.tup [(.wd 14), (.int 2), (.bl true)])]), (.vl [(.tup [(.bl true), (.bl true), (.wd 21), (.wd 21)]), (.tup [(.bl true), (.bl true), (.wd 22), (.wd 22)]), (.tup [(.bl false), (.bl true), (.wd 21), (.wd 22)])]), (.vl [(.tup [(.int 0), (.int 1), (.int b), (.int 3)]), (.tup [(.int 2), (.int 3), (.int 2), (.int 9)]), (.tup [(.int 1), (.int 4), (.int 3), (.int 1)])])]), some (.ref 120), some (.vl [(.tup [(.int 0), (.int 1), (.int b), (.int 3)]), (.tup [(.int 2), (.int 3), (.int 2), (.int 9)]), (.tup [(.int 1), (.int 4), (.int 3), (.int 1)])]), some (.vl [(.tup [(.wd 14), (.int 0), (.bl true)]), (.tup [(.wd 15), (.int 1), (.wd 12), (.int 0)]), (.tup [(.wd 15), (.int 1), (.wd 13), (.int 2)]), (.tup [(.wd 14), (.int 2), (.bl true)])]), some (.ref 0), some (.vl [(.tup [(.bl true), (.bl true), (.wd 21), (.wd 21)]), (.tup [(.bl true), (.bl true), (.wd 22), (.wd 22)]), (.tup [(.bl false), (.bl true), (.wd 21), (.wd 22)])])]
def ys90_1 : List D := [(.tup [(.int 1), (.int 0), (.int 2), (.int 0), .non, .non])]
def dd90_1 : D := (.vl [(.tup [(.wd 14), (.int 0), (.bl true)]), (.tup [(.wd 15), (.int 1), (.wd 12), (.int 0)]), (.tup [(.wd 15), (.int 1), (.wd 13), (.int 2)]), (.tup [(.wd 14), (.int 2), (.bl true)])])
theorem pre_1 (s x1 m : D) (b : Int) (x3 x4 x5 x6 x7 x8 x9 xa xb : Option D) : pre90 (cE (.int 1)) (cE (.int b)) [some s, some x1, some m, x3, x4, x5, x6, x7, x8, x9, xa, xb] [] = .nx (en90_1 s x1 m b (some (.tup [(.wd 19), (.int 3)]))) h90_1 := by kernel_rfl
theorem played_1 (h : IH) : F_played [.int 4, .int 2, dd90_1] h = .ok (.ref h.length) (h ++ [.lst ys90_1]) := by kernel_rfl
def h90_2 : IH := [.ins 2 [(.vl [(.ref 1), (.ref 2), (.ref 3), (.ref 4)]), (.vl [(.ref 5), (.ref 8)]), (.int 3), (.int 6), (.ref 11), (.ref 12)], .ins 0 [(.bl true), (.int 0), (.int 0), (.int 1), (.bl false)], .ins 0 [(.bl false), (.int (-4)), (.int 0), (.int 0), (.bl false)], .ins 0 [(.bl false), (.int (-4)), (.int 0), (.int 0), (.bl false)], .ins 0 [(.bl true), (.int 0), (.int 0), (.int 4), (.bl false)], .ins 1 [(.ref 6), (.ref 7), (.bl false), (.bl false), (.int 0), .non], .lst [.non, .non], .lst [(.int 0), (.int 0)], .ins 1 [(.ref 9), (.ref 10), (.bl true), (.bl false), (.int 6), (.ref 86)], .lst [(.int 0), (.int 3)], .lst [(.int 2), (.int 3)], .lst [], .lst [(.tup [(.vl [(.ref 26), (.ref 27), (.ref 28), (.ref 29)]), (.vl [(.ref 30), (.ref 35)]), (.int 0), (.ref 40)]), (.tup [(.vl [(.ref 41), (.ref 42), (.ref 43), (.ref 44)]), (.vl [(.ref 45), (.ref 50)]), (.int 0), (.ref 55)]), (.tup [(.vl [(.ref 56), (.ref 57), (.ref 58), (.ref 59)]), (.vl [(.ref 60), (.ref 65)]), (.int 0), (.ref 70)]), (.tup [(.vl [(.ref 71), (.ref 72), (.ref 73), (.ref 74)]), (.vl [(.ref 75), (.ref 80)]), (.int 0), (.ref 85)]), (.tup [(.vl [(.ref 87), (.ref 88), (.ref 89), (.ref 90)]), (.vl [(.ref 91), (.ref 96)]), (.int 0), (.ref 102)]), (.tup [(.vl [(.ref 103), (.ref 104), (.ref 105), (.ref 106)]), (.vl [(.ref 107), (.ref 112)]), (.int 3), (.ref 118)])], .ins 2 [(.vl [(.ref 14), (.ref 15), (.ref 16), (.ref 17)]), (.vl [(.ref 18), (.ref 21)]), (.int 0), (.int 0), (.ref 24), (.ref 25)], .ins 0 [(.bl false), (.int (-4)), (.int 0), (.int 0), (.bl false)], .ins 0 [(.bl false), (.int (-4)), (.int 0), (.int 0), (.bl false)], .ins 0 [(.bl false), (.int (-4)), (.int 0), (.int 0), (.bl false)], .ins 0 [(.bl false), (.int (-4)), (.int 0), (.int 0), (.bl false)], .ins 1 [(.ref 19), (.ref 20), (.bl false), (.bl false), (.int 0), .non], .lst [.non, .non], .lst [(.int 0), (.int 0)], .ins 1 [(.ref 22), (.ref 23), (.bl false), (.bl false), (.int 0), .non], .lst [.non, .non], .lst [(.int 0), (.int 0)], .lst [], .lst [], .ins 0 [(.bl false), (.int (-4)), (.int 0), (.int 0), (.bl false)], .ins 0 [(.bl false), (.int (-4)), (.int 0), (.int 0), (.bl false)], .ins 0 [(.bl false), (.int (-4)), (.int 0), (.int 0), (.bl false)], .ins 0 [(.bl false), (.int (-4)), (.int 0), (.int 0), (.bl false)], .ins 1 [(.ref 33), (.ref 34), (.bl false), (.bl false), (.int 0), .non], .lst [.non, .non], .lst [(.int 0), (.int 0)], .lst [.non, .non], .lst [(.int 0), (.int 0)], .ins 1 [(.ref 38), (.ref 39), (.bl false), (.bl false), (.int 0), .non], .lst [.non, .non], .lst [(.int 0), (.int 0)], .lst [.non, .non], .lst [(.int 0), (.int 0)], .lst [], .ins 0 [(.bl true), (.int 0), (.int 0), (.int 1), (.bl false)], .ins 0 [(.bl false), (.int (-4)), (.int 0), (.int 0), (.bl false)], .ins 0 [(.bl false), (.int (-4)), (.int 0), (.int 0), (.bl false)], .ins 0 [(.bl false), (.int (-4)), (.int 0), (.int 0), (.bl false)], .ins 1 [(.ref 48), (.ref 49), (.bl false), (.bl false), (.int 0), .non], .lst [.non, .non], .lst [(.int 0), (.int 0)], .lst [.non, .non], .lst [(.int 0), (.int 0)], .ins 1 [(.ref 53), (.ref 54), (.bl false), (.bl false), (.int 0), .non], .lst [.non, .non], .lst [(.int 0), (.int 0)], .lst [.non, .non], .lst [(.int 0), (.int 0)], .lst [], .ins 0 [(.bl true), (.int 0), (.int 0), (.int 1), (.bl false)], .ins 0 [(.bl false), (.int (-4)), (.int 0), (.int 0), (.bl false)], .ins 0 [(.bl false), (.int (-4)), (.int 0), (.int 0), (.bl false)], .ins 0 [(.bl false), (.int (-4)), (.int 0), (.int 0), (.bl false)], .ins 1 [(.ref 63), (.ref 64), (.bl false), (.bl false), (.int 0), .non], .lst [.non, .non], .lst [(.int 0), (.int 0)], .lst [.non, .non], .lst [(.int 0), (.int 0)], .ins 1 [(.ref 68), (.ref 69), (.bl false), (.bl false), (.int 0), .non], .lst [.non, .non], .lst [(.int 0), (.int 0)], .lst [(.int 0), .non], .lst [(.int 2), (.int 0)], .lst [], .ins 0 [(.bl true), (.int 0), (.int 0), (.int 1), (.bl false)], .ins 0 [(.bl false), (.int (-4)), (.int 0), (.int 0), (.bl false)], .ins 0 [(.bl false), (.int (-4)), (.int 0), (.int 0), (.bl false)], .ins 0 [(.bl false), (.int (-4)), (.int 0), (.int 0), (.bl false)], .ins 1 [(.ref 78), (.ref 79), (.bl false), (.bl false), (.int 0), .non], .lst [.non, .non], .lst [(.int 0), (.int 0)], .lst [.non, .non], .lst [(.int 0), (.int 0)], .ins 1 [(.ref 83), (.ref 84), (.bl false), (.bl false), (.int 0), .non], .lst [.non, .non], .lst [(.int 0), (.int 0)], .lst [(.int 0), (.int 3)], .lst [(.int 2), (.int 3)], .lst [], .lst [(.int 0), (.int 3), (.int 0), .non], .ins 0 [(.bl true), (.int 0), (.int 0), (.int 1), (.bl false)], .ins 0 [(.bl false), (.int (-4)), (.int 0), (.int 0), (.bl false)], .ins 0 [(.bl false), (.int (-4)), (.int 0), (.int 0), (.bl false)], .ins 0 [(.bl true), (.int 0), (.int 0), (.int 4), (.bl false)], .ins 1 [(.ref 94), (.ref 95), (.bl false), (.bl false), (.int 0), .non], .lst [.non, .non], .lst [(.int 0), (.int 0)], .lst [.non, .non], .lst [(.int 0), (.int 0)], .ins 1 [(.ref 99), (.ref 100), (.bl false), (.bl false), (.int 0), (.ref 101)], .lst [.non, .non], .lst [(.int 0), (.int 0)], .lst [(.int 0), (.int 3)], .lst [(.int 2), (.int 3)], .lst [(.int 0), (.int 3), (.int 0), .non], .lst [], .ins 0 [(.bl true), (.int 0), (.int 0), (.int 1), (.bl false)], .ins 0 [(.bl false), (.int (-4)), (.int 0), (.int 0), (.bl false)], .ins 0 [(.bl false), (.int (-4)), (.int 0), (.int 0), (.bl false)], .ins 0 [(.bl true), (.int 0), (.int 0), (.int 4), (.bl false)], .ins 1 [(.ref 110), (.ref 111), (.bl false), (.bl false), (.int 0), .non], .lst [.non, .non], .lst [(.int 0), (.int 0)], .lst [.non, .non], .lst [(.int 0), (.int 0)], .ins 1 [(.ref 115), (.ref 116), (.bl false), (.bl false), (.int 0), (.ref 117)], .lst [.non, .non], .lst [(.int 0), (.int 0)], .lst [(.int 0), (.int 3)], .lst [(.int 2), (.int 3)], .lst [(.int 0), (.int 3), (.int 0), .non], .lst [], .ext 1 [], .lst [(.ref 119), (.ref 121), (.ref 122), (.ref 123), (.ref 124), (.ref 125), (.ref 126), (.ref 127), (.ref 128), (.ref 129)], .ext 2 [], .ext 3 [], .ext 4 [], .ext 5 [], .ext 6 [], .ext 7 [], .ext 8 [], .ext 9 [], .ext 10 []]
def en90_2 (s x1 m : D) (b : Int) (x5 : Option D) : En := [some s, some x1, some m, some (.ref 13), some (.int 3), x5, some (.vl [(.vl [(.tup [(.wd 14), (.int 0), (.bl true)]), (.tup [(.wd 15), (.int 1), (.wd 12), (.int 0)]), (.tup [(.wd 15), (.int 1), (.wd 13), (.int 3)]), (.tup [(.wd 14), (.int 3), (.bl true)])]), (.vl [(.tup [(.bl true), (.bl true), (.wd 21), (.wd 21)]), (.tup [(.bl true), (.bl true), (.wd 22), (.wd 22)]), (.tup [(.bl false), (.bl true), (.wd 21), (.wd 22)])]), (.vl [(.tup [(.int 0), (.int 1), (.int b), (.int 3)]), (.tup [(.int 2), (.int 3), (.int 2), (.int 9)]), (.tup [(.int 1), (.int 4), (.int 3), (.int 1)])])]), some (.ref 120), some (.vl [(.tup [(.int 0), (.int 1), (.int b), (.int 3)]), (.tup [(.int 2), (.int 3), (.int 2), (.int 9)]), (.tup [(.int 1), (.int 4), (.int 3), (.int 1)])]), some (.vl [(.tup [(.wd 14), (.int 0), (.bl true)]), (.tup [(.wd 15), (.int 1), (.wd 12), (.int 0)]), (.tup [(.wd 15), (.int 1), (.wd 13), (.int 3)]), (.tup [(.wd 14), (.int 3), (.bl true)])]), some (.ref 0), some (.vl [(.tup [(.bl true), (.bl true), (.wd 21), (.wd 21)]), (.tup [(.bl true), (.bl true), (.wd 22), (.wd 22)]), (.tup [(.bl false), (.bl true), (.wd 21), (.wd 22)])])]
def ys90_2 : List D := [(.tup [(.int 1), (.int 0), (.int 3), (.int 0), .non, .non])]
def dd90_2 : D := (.vl [(.tup [(.wd 14), (.int 0), (.bl true)]), (.tup [(.wd 15), (.int 1), (.wd 12), (.int 0)]), (.tup [(.wd 15), (.int 1), (.wd 13), (.int 3)]), (.tup [(.wd 14), (.int 3), (.bl true)])])
theorem pre_2 (s x1 m : D) (b : Int) (x3 x4 x5 x6 x7 x8 x9 xa xb : Option D) : pre90 (cE (.int 2)) (cE (.int b)) [some s, some x1, some m, x3, x4, x5, x6, x7, x8, x9, xa, xb] [] = .nx (en90_2 s x1 m b (some (.tup [(.wd 19), (.int 3)]))) h90_2 := by kernel_rfl
theorem played_2 (h : IH) : F_played [.int 4, .int 2, dd90_2] h = .ok (.ref h.length) (h ++ [.lst ys90_2]) := by kernel_rfl
def fbs9 (f : ME) : List ME := [lmb0, lmb1, lmb2, lmb3, lmb4, lmb5, lmb6, lmb7, lmb8, f]
def lp (ys : List D) : ME := fun _ h => .ok (.ref h.length) (h ++ [.lst ys])
theorem deed9 {f f' : ME} {en0 : En} (e : ∀ h, f en0 h = f' en0 h) : deedE 0 (fbs9 f) en0 = deedE 0 (fbs9 f') en0 := by
  funext en h
  unfold deedE
  split
  · split
    · rename_i j e1 t ds e2
      match t with
      | 0 | 1 | 2 | 3 | 4 | 5 | 6 | 7 | 8 => rfl
      | 9 => show noErr (f en0 h) = noErr (f' en0 h); rw [e]
      | n + 10 => rfl
    · rfl
  · rfl
abbrev tA90 : MA := consA (varE 5) (consA (varE 6) (nilA))
theorem again9 {f f' : ME} {en : En} {h : IH} (e : ∀ h, f (wipeE en [5]) h = f' (wipeE en [5]) h) : againE [5] 5 b__law_again (fbs9 f) tA90 en h = againE [5] 5 b__law_again (fbs9 f') tA90 en h := by
  unfold againE
  rw [deed9 e]
theorem lmb_9 : lmb = fbs9 lmb9 := rfl
theorem lp_0 (s x1 m : D) (b : Int) (x5 : Option D) (h : IH) : lmb9 (wipeE (en90_0 s x1 m b x5) [5]) h = lp ys90_0 (wipeE (en90_0 s x1 m b x5) [5]) h := by
  have c : lmb9 (wipeE (en90_0 s x1 m b x5) [5]) h = F_played [.int 4, .int 2, dd90_0] h := by unfold lmb9; exact callF_e (n := 3) rfl rfl
  rw [c, played_0]
  rfl
theorem lp_1 (s x1 m : D) (b : Int) (x5 : Option D) (h : IH) : lmb9 (wipeE (en90_1 s x1 m b x5) [5]) h = lp ys90_1 (wipeE (en90_1 s x1 m b x5) [5]) h := by
  have c : lmb9 (wipeE (en90_1 s x1 m b x5) [5]) h = F_played [.int 4, .int 2, dd90_1] h := by unfold lmb9; exact callF_e (n := 3) rfl rfl
  rw [c, played_1]
  rfl
theorem lp_2 (s x1 m : D) (b : Int) (x5 : Option D) (h : IH) : lmb9 (wipeE (en90_2 s x1 m b x5) [5]) h = lp ys90_2 (wipeE (en90_2 s x1 m b x5) [5]) h := by
  have c : lmb9 (wipeE (en90_2 s x1 m b x5) [5]) h = F_played [.int 4, .int 2, dd90_2] h := by unfold lmb9; exact callF_e (n := 3) rfl rfl
  rw [c, played_2]
  rfl
section
variable (s x1 m : D)
theorem ag_0_0_0 : againE [5] 5 b__law_again lmb tA90 (en90_0 s x1 m 0 (some (.ref 119))) h90_0 = .ok (.bl true) h90_0 := by kernel_rfl
theorem ag_0_0_1 : againE [5] 5 b__law_again lmb tA90 (en90_0 s x1 m 0 (some (.ref 121))) h90_0 = .ok (.bl true) h90_0 := by kernel_rfl
theorem ag_0_0_2 : againE [5] 5 b__law_again lmb tA90 (en90_0 s x1 m 0 (some (.ref 122))) h90_0 = .ok (.bl true) h90_0 := by kernel_rfl
theorem ag_0_0_3 : againE [5] 5 b__law_again lmb tA90 (en90_0 s x1 m 0 (some (.ref 123))) h90_0 = .ok (.bl true) h90_0 := by kernel_rfl
theorem ag_0_0_4 : againE [5] 5 b__law_again lmb tA90 (en90_0 s x1 m 0 (some (.ref 124))) h90_0 = .ok (.bl true) h90_0 := by kernel_rfl
theorem ag_0_0_5 : againE [5] 5 b__law_again lmb tA90 (en90_0 s x1 m 0 (some (.ref 125))) h90_0 = .ok (.bl true) h90_0 := by kernel_rfl
theorem ag_0_0_6 : againE [5] 5 b__law_again lmb tA90 (en90_0 s x1 m 0 (some (.ref 126))) h90_0 = .ok (.bl true) h90_0 := by kernel_rfl
theorem ag_0_0_7 : againE [5] 5 b__law_again lmb tA90 (en90_0 s x1 m 0 (some (.ref 127))) h90_0 = .ok (.bl true) h90_0 := by kernel_rfl
theorem ag_0_0_8 : againE [5] 5 b__law_again lmb tA90 (en90_0 s x1 m 0 (some (.ref 128))) h90_0 = .ok (.bl true) h90_0 := by kernel_rfl
theorem ag_0_0_9 : againE [5] 5 b__law_again lmb tA90 (en90_0 s x1 m 0 (some (.ref 129))) h90_0 = .ok (.bl true) h90_0 := by
  rw [lmb_9, again9 (f' := lp ys90_0) (fun h => lp_0 s x1 m 0 _ h)]
  kernel_rfl
theorem ag_0_1_0 : againE [5] 5 b__law_again lmb tA90 (en90_0 s x1 m 1 (some (.ref 119))) h90_0 = .ok (.bl true) h90_0 := by kernel_rfl
theorem ag_0_1_1 : againE [5] 5 b__law_again lmb tA90 (en90_0 s x1 m 1 (some (.ref 121))) h90_0 = .ok (.bl true) h90_0 := by kernel_rfl
theorem ag_0_1_2 : againE [5] 5 b__law_again lmb tA90 (en90_0 s x1 m 1 (some (.ref 122))) h90_0 = .ok (.bl true) h90_0 := by kernel_rfl
theorem ag_0_1_3 : againE [5] 5 b__law_again lmb tA90 (en90_0 s x1 m 1 (some (.ref 123))) h90_0 = .ok (.bl true) h90_0 := by kernel_rfl
theorem ag_0_1_4 : againE [5] 5 b__law_again lmb tA90 (en90_0 s x1 m 1 (some (.ref 124))) h90_0 = .ok (.bl true) h90_0 := by kernel_rfl
theorem ag_0_1_5 : againE [5] 5 b__law_again lmb tA90 (en90_0 s x1 m 1 (some (.ref 125))) h90_0 = .ok (.bl true) h90_0 := by kernel_rfl
theorem ag_0_1_6 : againE [5] 5 b__law_again lmb tA90 (en90_0 s x1 m 1 (some (.ref 126))) h90_0 = .ok (.bl true) h90_0 := by kernel_rfl
theorem ag_0_1_7 : againE [5] 5 b__law_again lmb tA90 (en90_0 s x1 m 1 (some (.ref 127))) h90_0 = .ok (.bl true) h90_0 := by kernel_rfl
theorem ag_0_1_8 : againE [5] 5 b__law_again lmb tA90 (en90_0 s x1 m 1 (some (.ref 128))) h90_0 = .ok (.bl true) h90_0 := by kernel_rfl
theorem ag_0_1_9 : againE [5] 5 b__law_again lmb tA90 (en90_0 s x1 m 1 (some (.ref 129))) h90_0 = .ok (.bl true) h90_0 := by
  rw [lmb_9, again9 (f' := lp ys90_0) (fun h => lp_0 s x1 m 1 _ h)]
  kernel_rfl
theorem ag_0_2_0 : againE [5] 5 b__law_again lmb tA90 (en90_0 s x1 m 2 (some (.ref 119))) h90_0 = .ok (.bl true) h90_0 := by kernel_rfl
theorem ag_0_2_1 : againE [5] 5 b__law_again lmb tA90 (en90_0 s x1 m 2 (some (.ref 121))) h90_0 = .ok (.bl true) h90_0 := by kernel_rfl
theorem ag_0_2_2 : againE [5] 5 b__law_again lmb tA90 (en90_0 s x1 m 2 (some (.ref 122))) h90_0 = .ok (.bl true) h90_0 := by kernel_rfl
theorem ag_0_2_3 : againE [5] 5 b__law_again lmb tA90 (en90_0 s x1 m 2 (some (.ref 123))) h90_0 = .ok (.bl true) h90_0 := by kernel_rfl
theorem ag_0_2_4 : againE [5] 5 b__law_again lmb tA90 (en90_0 s x1 m 2 (some (.ref 124))) h90_0 = .ok (.bl true) h90_0 := by kernel_rfl
theorem ag_0_2_5 : againE [5] 5 b__law_again lmb tA90 (en90_0 s x1 m 2 (some (.ref 125))) h90_0 = .ok (.bl true) h90_0 := by kernel_rfl
theorem ag_0_2_6 : againE [5] 5 b__law_again lmb tA90 (en90_0 s x1 m 2 (some (.ref 126))) h90_0 = .ok (.bl true) h90_0 := by kernel_rfl
theorem ag_0_2_7 : againE [5] 5 b__law_again lmb tA90 (en90_0 s x1 m 2 (some (.ref 127))) h90_0 = .ok (.bl true) h90_0 := by kernel_rfl
theorem ag_0_2_8 : againE [5] 5 b__law_again lmb tA90 (en90_0 s x1 m 2 (some (.ref 128))) h90_0 = .ok (.bl true) h90_0 := by kernel_rfl
theorem ag_0_2_9 : againE [5] 5 b__law_again lmb tA90 (en90_0 s x1 m 2 (some (.ref 129))) h90_0 = .ok (.bl true) h90_0 := by
  rw [lmb_9, again9 (f' := lp ys90_0) (fun h => lp_0 s x1 m 2 _ h)]
  kernel_rfl
theorem ag_0_3_0 : againE [5] 5 b__law_again lmb tA90 (en90_0 s x1 m 3 (some (.ref 119))) h90_0 = .ok (.bl true) h90_0 := by kernel_rfl
theorem ag_0_3_1 : againE [5] 5 b__law_again lmb tA90 (en90_0 s x1 m 3 (some (.ref 121))) h90_0 = .ok (.bl true) h90_0 := by kernel_rfl
theorem ag_0_3_2 : againE [5] 5 b__law_again lmb tA90 (en90_0 s x1 m 3 (some (.ref 122))) h90_0 = .ok (.bl true) h90_0 := by kernel_rfl
theorem ag_0_3_3 : againE [5] 5 b__law_again lmb tA90 (en90_0 s x1 m 3 (some (.ref 123))) h90_0 = .ok (.bl true) h90_0 := by kernel_rfl
theorem ag_0_3_4 : againE [5] 5 b__law_again lmb tA90 (en90_0 s x1 m 3 (some (.ref 124))) h90_0 = .ok (.bl true) h90_0 := by kernel_rfl
theorem ag_0_3_5 : againE [5] 5 b__law_again lmb tA90 (en90_0 s x1 m 3 (some (.ref 125))) h90_0 = .ok (.bl true) h90_0 := by kernel_rfl
theorem ag_0_3_6 : againE [5] 5 b__law_again lmb tA90 (en90_0 s x1 m 3 (some (.ref 126))) h90_0 = .ok (.bl true) h90_0 := by kernel_rfl
theorem ag_0_3_7 : againE [5] 5 b__law_again lmb tA90 (en90_0 s x1 m 3 (some (.ref 127))) h90_0 = .ok (.bl true) h90_0 := by kernel_rfl
theorem ag_0_3_8 : againE [5] 5 b__law_again lmb tA90 (en90_0 s x1 m 3 (some (.ref 128))) h90_0 = .ok (.bl true) h90_0 := by kernel_rfl
theorem ag_0_3_9 : againE [5] 5 b__law_again lmb tA90 (en90_0 s x1 m 3 (some (.ref 129))) h90_0 = .ok (.bl true) h90_0 := by
  rw [lmb_9, again9 (f' := lp ys90_0) (fun h => lp_0 s x1 m 3 _ h)]
  kernel_rfl
theorem ag_0_4_0 : againE [5] 5 b__law_again lmb tA90 (en90_0 s x1 m 4 (some (.ref 119))) h90_0 = .ok (.bl true) h90_0 := by kernel_rfl
theorem ag_0_4_1 : againE [5] 5 b__law_again lmb tA90 (en90_0 s x1 m 4 (some (.ref 121))) h90_0 = .ok (.bl true) h90_0 := by kernel_rfl
theorem ag_0_4_2 : againE [5] 5 b__law_again lmb tA90 (en90_0 s x1 m 4 (some (.ref 122))) h90_0 = .ok (.bl true) h90_0 := by kernel_rfl
theorem ag_0_4_3 : againE [5] 5 b__law_again lmb tA90 (en90_0 s x1 m 4 (some (.ref 123))) h90_0 = .ok (.bl true) h90_0 := by kernel_rfl
theorem ag_0_4_4 : againE [5] 5 b__law_again lmb tA90 (en90_0 s x1 m 4 (some (.ref 124))) h90_0 = .ok (.bl true) h90_0 := by kernel_rfl
theorem ag_0_4_5 : againE [5] 5 b__law_again lmb tA90 (en90_0 s x1 m 4 (some (.ref 125))) h90_0 = .ok (.bl true) h90_0 := by kernel_rfl
theorem ag_0_4_6 : againE [5] 5 b__law_again lmb tA90 (en90_0 s x1 m 4 (some (.ref 126))) h90_0 = .ok (.bl true) h90_0 := by kernel_rfl
theorem ag_0_4_7 : againE [5] 5 b__law_again lmb tA90 (en90_0 s x1 m 4 (some (.ref 127))) h90_0 = .ok (.bl true) h90_0 := by kernel_rfl
theorem ag_0_4_8 : againE [5] 5 b__law_again lmb tA90 (en90_0 s x1 m 4 (some (.ref 128))) h90_0 = .ok (.bl true) h90_0 := by kernel_rfl
theorem ag_0_4_9 : againE [5] 5 b__law_again lmb tA90 (en90_0 s x1 m 4 (some (.ref 129))) h90_0 = .ok (.bl true) h90_0 := by
  rw [lmb_9, again9 (f' := lp ys90_0) (fun h => lp_0 s x1 m 4 _ h)]
  kernel_rfl
theorem ag_1_0_0 : againE [5] 5 b__law_again lmb tA90 (en90_1 s x1 m 0 (some (.ref 119))) h90_1 = .ok (.bl true) h90_1 := by kernel_rfl
theorem ag_1_0_1 : againE [5] 5 b__law_again lmb tA90 (en90_1 s x1 m 0 (some (.ref 121))) h90_1 = .ok (.bl true) h90_1 := by kernel_rfl
theorem ag_1_0_2 : againE [5] 5 b__law_again lmb tA90 (en90_1 s x1 m 0 (some (.ref 122))) h90_1 = .ok (.bl true) h90_1 := by kernel_rfl
theorem ag_1_0_3 : againE [5] 5 b__law_again lmb tA90 (en90_1 s x1 m 0 (some (.ref 123))) h90_1 = .ok (.bl true) h90_1 := by kernel_rfl
theorem ag_1_0_4 : againE [5] 5 b__law_again lmb tA90 (en90_1 s x1 m 0 (some (.ref 124))) h90_1 = .ok (.bl true) h90_1 := by kernel_rfl
theorem ag_1_0_5 : againE [5] 5 b__law_again lmb tA90 (en90_1 s x1 m 0 (some (.ref 125))) h90_1 = .ok (.bl true) h90_1 := by kernel_rfl
theorem ag_1_0_6 : againE [5] 5 b__law_again lmb tA90 (en90_1 s x1 m 0 (some (.ref 126))) h90_1 = .ok (.bl true) h90_1 := by kernel_rfl
theorem ag_1_0_7 : againE [5] 5 b__law_again lmb tA90 (en90_1 s x1 m 0 (some (.ref 127))) h90_1 = .ok (.bl true) h90_1 := by kernel_rfl
theorem ag_1_0_8 : againE [5] 5 b__law_again lmb tA90 (en90_1 s x1 m 0 (some (.ref 128))) h90_1 = .ok (.bl true) h90_1 := by kernel_rfl
theorem ag_1_0_9 : againE [5] 5 b__law_again lmb tA90 (en90_1 s x1 m 0 (some (.ref 129))) h90_1 = .ok (.bl true) h90_1 := by
  rw [lmb_9, again9 (f' := lp ys90_1) (fun h => lp_1 s x1 m 0 _ h)]
  kernel_rfl
theorem ag_1_1_0 : againE [5] 5 b__law_again lmb tA90 (en90_1 s x1 m 1 (some (.ref 119))) h90_1 = .ok (.bl true) h90_1 := by kernel_rfl
theorem ag_1_1_1 : againE [5] 5 b__law_again lmb tA90 (en90_1 s x1 m 1 (some (.ref 121))) h90_1 = .ok (.bl true) h90_1 := by kernel_rfl
theorem ag_1_1_2 : againE [5] 5 b__law_again lmb tA90 (en90_1 s x1 m 1 (some (.ref 122))) h90_1 = .ok (.bl true) h90_1 := by kernel_rfl
theorem ag_1_1_3 : againE [5] 5 b__law_again lmb tA90 (en90_1 s x1 m 1 (some (.ref 123))) h90_1 = .ok (.bl true) h90_1 := by kernel_rfl
theorem ag_1_1_4 : againE [5] 5 b__law_again lmb tA90 (en90_1 s x1 m 1 (some (.ref 124))) h90_1 = .ok (.bl true) h90_1 := by kernel_rfl
theorem ag_1_1_5 : againE [5] 5 b__law_again lmb tA90 (en90_1 s x1 m 1 (some (.ref 125))) h90_1 = .ok (.bl true) h90_1 := by kernel_rfl
theorem ag_1_1_6 : againE [5] 5 b__law_again lmb tA90 (en90_1 s x1 m 1 (some (.ref 126))) h90_1 = .ok (.bl true) h90_1 := by kernel_rfl
theorem ag_1_1_7 : againE [5] 5 b__law_again lmb tA90 (en90_1 s x1 m 1 (some (.ref 127))) h90_1 = .ok (.bl true) h90_1 := by kernel_rfl
theorem ag_1_1_8 : againE [5] 5 b__law_again lmb tA90 (en90_1 s x1 m 1 (some (.ref 128))) h90_1 = .ok (.bl true) h90_1 := by kernel_rfl
theorem ag_1_1_9 : againE [5] 5 b__law_again lmb tA90 (en90_1 s x1 m 1 (some (.ref 129))) h90_1 = .ok (.bl true) h90_1 := by
  rw [lmb_9, again9 (f' := lp ys90_1) (fun h => lp_1 s x1 m 1 _ h)]
  kernel_rfl
theorem ag_1_2_0 : againE [5] 5 b__law_again lmb tA90 (en90_1 s x1 m 2 (some (.ref 119))) h90_1 = .ok (.bl true) h90_1 := by kernel_rfl
theorem ag_1_2_1 : againE [5] 5 b__law_again lmb tA90 (en90_1 s x1 m 2 (some (.ref 121))) h90_1 = .ok (.bl true) h90_1 := by kernel_rfl
theorem ag_1_2_2 : againE [5] 5 b__law_again lmb tA90 (en90_1 s x1 m 2 (some (.ref 122))) h90_1 = .ok (.bl true) h90_1 := by kernel_rfl
theorem ag_1_2_3 : againE [5] 5 b__law_again lmb tA90 (en90_1 s x1 m 2 (some (.ref 123))) h90_1 = .ok (.bl true) h90_1 := by kernel_rfl
theorem ag_1_2_4 : againE [5] 5 b__law_again lmb tA90 (en90_1 s x1 m 2 (some (.ref 124))) h90_1 = .ok (.bl true) h90_1 := by kernel_rfl
theorem ag_1_2_5 : againE [5] 5 b__law_again lmb tA90 (en90_1 s x1 m 2 (some (.ref 125))) h90_1 = .ok (.bl true) h90_1 := by kernel_rfl
theorem ag_1_2_6 : againE [5] 5 b__law_again lmb tA90 (en90_1 s x1 m 2 (some (.ref 126))) h90_1 = .ok (.bl true) h90_1 := by kernel_rfl
theorem ag_1_2_7 : againE [5] 5 b__law_again lmb tA90 (en90_1 s x1 m 2 (some (.ref 127))) h90_1 = .ok (.bl true) h90_1 := by kernel_rfl
theorem ag_1_2_8 : againE [5] 5 b__law_again lmb tA90 (en90_1 s x1 m 2 (some (.ref 128))) h90_1 = .ok (.bl true) h90_1 := by kernel_rfl
theorem ag_1_2_9 : againE [5] 5 b__law_again lmb tA90 (en90_1 s x1 m 2 (some (.ref 129))) h90_1 = .ok (.bl true) h90_1 := by
  rw [lmb_9, again9 (f' := lp ys90_1) (fun h => lp_1 s x1 m 2 _ h)]
  kernel_rfl
theorem ag_1_3_0 : againE [5] 5 b__law_again lmb tA90 (en90_1 s x1 m 3 (some (.ref 119))) h90_1 = .ok (.bl true) h90_1 := by kernel_rfl
theorem ag_1_3_1 : againE [5] 5 b__law_again lmb tA90 (en90_1 s x1 m 3 (some (.ref 121))) h90_1 = .ok (.bl true) h90_1 := by kernel_rfl
theorem ag_1_3_2 : againE [5] 5 b__law_again lmb tA90 (en90_1 s x1 m 3 (some (.ref 122))) h90_1 = .ok (.bl true) h90_1 := by kernel_rfl
theorem ag_1_3_3 : againE [5] 5 b__law_again lmb tA90 (en90_1 s x1 m 3 (some (.ref 123))) h90_1 = .ok (.bl true) h90_1 := by kernel_rfl
theorem ag_1_3_4 : againE [5] 5 b__law_again lmb tA90 (en90_1 s x1 m 3 (some (.ref 124))) h90_1 = .ok (.bl true) h90_1 := by kernel_rfl
theorem ag_1_3_5 : againE [5] 5 b__law_again lmb tA90 (en90_1 s x1 m 3 (some (.ref 125))) h90_1 = .ok (.bl true) h90_1 := by kernel_rfl
theorem ag_1_3_6 : againE [5] 5 b__law_again lmb tA90 (en90_1 s x1 m 3 (some (.ref 126))) h90_1 = .ok (.bl true) h90_1 := by kernel_rfl
theorem ag_1_3_7 : againE [5] 5 b__law_again lmb tA90 (en90_1 s x1 m 3 (some (.ref 127))) h90_1 = .ok (.bl true) h90_1 := by kernel_rfl
theorem ag_1_3_8 : againE [5] 5 b__law_again lmb tA90 (en90_1 s x1 m 3 (some (.ref 128))) h90_1 = .ok (.bl true) h90_1 := by kernel_rfl
theorem ag_1_3_9 : againE [5] 5 b__law_again lmb tA90 (en90_1 s x1 m 3 (some (.ref 129))) h90_1 = .ok (.bl true) h90_1 := by
  rw [lmb_9, again9 (f' := lp ys90_1) (fun h => lp_1 s x1 m 3 _ h)]
  kernel_rfl
theorem ag_1_4_0 : againE [5] 5 b__law_again lmb tA90 (en90_1 s x1 m 4 (some (.ref 119))) h90_1 = .ok (.bl true) h90_1 := by kernel_rfl
theorem ag_1_4_1 : againE [5] 5 b__law_again lmb tA90 (en90_1 s x1 m 4 (some (.ref 121))) h90_1 = .ok (.bl true) h90_1 := by kernel_rfl
theorem ag_1_4_2 : againE [5] 5 b__law_again lmb tA90 (en90_1 s x1 m 4 (some (.ref 122))) h90_1 = .ok (.bl true) h90_1 := by kernel_rfl
theorem ag_1_4_3 : againE [5] 5 b__law_again lmb tA90 (en90_1 s x1 m 4 (some (.ref 123))) h90_1 = .ok (.bl true) h90_1 := by kernel_rfl
theorem ag_1_4_4 : againE [5] 5 b__law_again lmb tA90 (en90_1 s x1 m 4 (some (.ref 124))) h90_1 = .ok (.bl true) h90_1 := by kernel_rfl
theorem ag_1_4_5 : againE [5] 5 b__law_again lmb tA90 (en90_1 s x1 m 4 (some (.ref 125))) h90_1 = .ok (.bl true) h90_1 := by kernel_rfl
theorem ag_1_4_6 : againE [5] 5 b__law_again lmb tA90 (en90_1 s x1 m 4 (some (.ref 126))) h90_1 = .ok (.bl true) h90_1 := by kernel_rfl
theorem ag_1_4_7 : againE [5] 5 b__law_again lmb tA90 (en90_1 s x1 m 4 (some (.ref 127))) h90_1 = .ok (.bl true) h90_1 := by kernel_rfl
theorem ag_1_4_8 : againE [5] 5 b__law_again lmb tA90 (en90_1 s x1 m 4 (some (.ref 128))) h90_1 = .ok (.bl true) h90_1 := by kernel_rfl
theorem ag_1_4_9 : againE [5] 5 b__law_again lmb tA90 (en90_1 s x1 m 4 (some (.ref 129))) h90_1 = .ok (.bl true) h90_1 := by
  rw [lmb_9, again9 (f' := lp ys90_1) (fun h => lp_1 s x1 m 4 _ h)]
  kernel_rfl
theorem ag_2_0_0 : againE [5] 5 b__law_again lmb tA90 (en90_2 s x1 m 0 (some (.ref 119))) h90_2 = .ok (.bl true) h90_2 := by kernel_rfl
theorem ag_2_0_1 : againE [5] 5 b__law_again lmb tA90 (en90_2 s x1 m 0 (some (.ref 121))) h90_2 = .ok (.bl true) h90_2 := by kernel_rfl
theorem ag_2_0_2 : againE [5] 5 b__law_again lmb tA90 (en90_2 s x1 m 0 (some (.ref 122))) h90_2 = .ok (.bl true) h90_2 := by kernel_rfl
theorem ag_2_0_3 : againE [5] 5 b__law_again lmb tA90 (en90_2 s x1 m 0 (some (.ref 123))) h90_2 = .ok (.bl true) h90_2 := by kernel_rfl
theorem ag_2_0_4 : againE [5] 5 b__law_again lmb tA90 (en90_2 s x1 m 0 (some (.ref 124))) h90_2 = .ok (.bl true) h90_2 := by kernel_rfl
theorem ag_2_0_5 : againE [5] 5 b__law_again lmb tA90 (en90_2 s x1 m 0 (some (.ref 125))) h90_2 = .ok (.bl true) h90_2 := by kernel_rfl
theorem ag_2_0_6 : againE [5] 5 b__law_again lmb tA90 (en90_2 s x1 m 0 (some (.ref 126))) h90_2 = .ok (.bl true) h90_2 := by kernel_rfl
theorem ag_2_0_7 : againE [5] 5 b__law_again lmb tA90 (en90_2 s x1 m 0 (some (.ref 127))) h90_2 = .ok (.bl true) h90_2 := by kernel_rfl
theorem ag_2_0_8 : againE [5] 5 b__law_again lmb tA90 (en90_2 s x1 m 0 (some (.ref 128))) h90_2 = .ok (.bl true) h90_2 := by kernel_rfl
theorem ag_2_0_9 : againE [5] 5 b__law_again lmb tA90 (en90_2 s x1 m 0 (some (.ref 129))) h90_2 = .ok (.bl true) h90_2 := by
  rw [lmb_9, again9 (f' := lp ys90_2) (fun h => lp_2 s x1 m 0 _ h)]
  kernel_rfl
theorem ag_2_1_0 : againE [5] 5 b__law_again lmb tA90 (en90_2 s x1 m 1 (some (.ref 119))) h90_2 = .ok (.bl true) h90_2 := by kernel_rfl
theorem ag_2_1_1 : againE [5] 5 b__law_again lmb tA90 (en90_2 s x1 m 1 (some (.ref 121))) h90_2 = .ok (.bl true) h90_2 := by kernel_rfl
theorem ag_2_1_2 : againE [5] 5 b__law_again lmb tA90 (en90_2 s x1 m 1 (some (.ref 122))) h90_2 = .ok (.bl true) h90_2 := by kernel_rfl
theorem ag_2_1_3 : againE [5] 5 b__law_again lmb tA90 (en90_2 s x1 m 1 (some (.ref 123))) h90_2 = .ok (.bl true) h90_2 := by kernel_rfl
theorem ag_2_1_4 : againE [5] 5 b__law_again lmb tA90 (en90_2 s x1 m 1 (some (.ref 124))) h90_2 = .ok (.bl true) h90_2 := by kernel_rfl
theorem ag_2_1_5 : againE [5] 5 b__law_again lmb tA90 (en90_2 s x1 m 1 (some (.ref 125))) h90_2 = .ok (.bl true) h90_2 := by kernel_rfl
theorem ag_2_1_6 : againE [5] 5 b__law_again lmb tA90 (en90_2 s x1 m 1 (some (.ref 126))) h90_2 = .ok (.bl true) h90_2 := by kernel_rfl
theorem ag_2_1_7 : againE [5] 5 b__law_again lmb tA90 (en90_2 s x1 m 1 (some (.ref 127))) h90_2 = .ok (.bl true) h90_2 := by kernel_rfl
theorem ag_2_1_8 : againE [5] 5 b__law_again lmb tA90 (en90_2 s x1 m 1 (some (.ref 128))) h90_2 = .ok (.bl true) h90_2 := by kernel_rfl
theorem ag_2_1_9 : againE [5] 5 b__law_again lmb tA90 (en90_2 s x1 m 1 (some (.ref 129))) h90_2 = .ok (.bl true) h90_2 := by
  rw [lmb_9, again9 (f' := lp ys90_2) (fun h => lp_2 s x1 m 1 _ h)]
  kernel_rfl
theorem ag_2_2_0 : againE [5] 5 b__law_again lmb tA90 (en90_2 s x1 m 2 (some (.ref 119))) h90_2 = .ok (.bl true) h90_2 := by kernel_rfl
theorem ag_2_2_1 : againE [5] 5 b__law_again lmb tA90 (en90_2 s x1 m 2 (some (.ref 121))) h90_2 = .ok (.bl true) h90_2 := by kernel_rfl
theorem ag_2_2_2 : againE [5] 5 b__law_again lmb tA90 (en90_2 s x1 m 2 (some (.ref 122))) h90_2 = .ok (.bl true) h90_2 := by kernel_rfl
theorem ag_2_2_3 : againE [5] 5 b__law_again lmb tA90 (en90_2 s x1 m 2 (some (.ref 123))) h90_2 = .ok (.bl true) h90_2 := by kernel_rfl
theorem ag_2_2_4 : againE [5] 5 b__law_again lmb tA90 (en90_2 s x1 m 2 (some (.ref 124))) h90_2 = .ok (.bl true) h90_2 := by kernel_rfl
theorem ag_2_2_5 : againE [5] 5 b__law_again lmb tA90 (en90_2 s x1 m 2 (some (.ref 125))) h90_2 = .ok (.bl true) h90_2 := by kernel_rfl
theorem ag_2_2_6 : againE [5] 5 b__law_again lmb tA90 (en90_2 s x1 m 2 (some (.ref 126))) h90_2 = .ok (.bl true) h90_2 := by kernel_rfl
theorem ag_2_2_7 : againE [5] 5 b__law_again lmb tA90 (en90_2 s x1 m 2 (some (.ref 127))) h90_2 = .ok (.bl true) h90_2 := by kernel_rfl
theorem ag_2_2_8 : againE [5] 5 b__law_again lmb tA90 (en90_2 s x1 m 2 (some (.ref 128))) h90_2 = .ok (.bl true) h90_2 := by kernel_rfl
theorem ag_2_2_9 : againE [5] 5 b__law_again lmb tA90 (en90_2 s x1 m 2 (some (.ref 129))) h90_2 = .ok (.bl true) h90_2 := by
  rw [lmb_9, again9 (f' := lp ys90_2) (fun h => lp_2 s x1 m 2 _ h)]
  kernel_rfl
theorem ag_2_3_0 : againE [5] 5 b__law_again lmb tA90 (en90_2 s x1 m 3 (some (.ref 119))) h90_2 = .ok (.bl true) h90_2 := by kernel_rfl
theorem ag_2_3_1 : againE [5] 5 b__law_again lmb tA90 (en90_2 s x1 m 3 (some (.ref 121))) h90_2 = .ok (.bl true) h90_2 := by kernel_rfl
theorem ag_2_3_2 : againE [5] 5 b__law_again lmb tA90 (en90_2 s x1 m 3 (some (.ref 122))) h90_2 = .ok (.bl true) h90_2 := by kernel_rfl
theorem ag_2_3_3 : againE [5] 5 b__law_again lmb tA90 (en90_2 s x1 m 3 (some (.ref 123))) h90_2 = .ok (.bl true) h90_2 := by kernel_rfl
theorem ag_2_3_4 : againE [5] 5 b__law_again lmb tA90 (en90_2 s x1 m 3 (some (.ref 124))) h90_2 = .ok (.bl true) h90_2 := by kernel_rfl
theorem ag_2_3_5 : againE [5] 5 b__law_again lmb tA90 (en90_2 s x1 m 3 (some (.ref 125))) h90_2 = .ok (.bl true) h90_2 := by kernel_rfl
theorem ag_2_3_6 : againE [5] 5 b__law_again lmb tA90 (en90_2 s x1 m 3 (some (.ref 126))) h90_2 = .ok (.bl true) h90_2 := by kernel_rfl
theorem ag_2_3_7 : againE [5] 5 b__law_again lmb tA90 (en90_2 s x1 m 3 (some (.ref 127))) h90_2 = .ok (.bl true) h90_2 := by kernel_rfl
theorem ag_2_3_8 : againE [5] 5 b__law_again lmb tA90 (en90_2 s x1 m 3 (some (.ref 128))) h90_2 = .ok (.bl true) h90_2 := by kernel_rfl
theorem ag_2_3_9 : againE [5] 5 b__law_again lmb tA90 (en90_2 s x1 m 3 (some (.ref 129))) h90_2 = .ok (.bl true) h90_2 := by
  rw [lmb_9, again9 (f' := lp ys90_2) (fun h => lp_2 s x1 m 3 _ h)]
  kernel_rfl
theorem ag_2_4_0 : againE [5] 5 b__law_again lmb tA90 (en90_2 s x1 m 4 (some (.ref 119))) h90_2 = .ok (.bl true) h90_2 := by kernel_rfl
theorem ag_2_4_1 : againE [5] 5 b__law_again lmb tA90 (en90_2 s x1 m 4 (some (.ref 121))) h90_2 = .ok (.bl true) h90_2 := by kernel_rfl
theorem ag_2_4_2 : againE [5] 5 b__law_again lmb tA90 (en90_2 s x1 m 4 (some (.ref 122))) h90_2 = .ok (.bl true) h90_2 := by kernel_rfl
theorem ag_2_4_3 : againE [5] 5 b__law_again lmb tA90 (en90_2 s x1 m 4 (some (.ref 123))) h90_2 = .ok (.bl true) h90_2 := by kernel_rfl
theorem ag_2_4_4 : againE [5] 5 b__law_again lmb tA90 (en90_2 s x1 m 4 (some (.ref 124))) h90_2 = .ok (.bl true) h90_2 := by kernel_rfl
theorem ag_2_4_5 : againE [5] 5 b__law_again lmb tA90 (en90_2 s x1 m 4 (some (.ref 125))) h90_2 = .ok (.bl true) h90_2 := by kernel_rfl
theorem ag_2_4_6 : againE [5] 5 b__law_again lmb tA90 (en90_2 s x1 m 4 (some (.ref 126))) h90_2 = .ok (.bl true) h90_2 := by kernel_rfl
theorem ag_2_4_7 : againE [5] 5 b__law_again lmb tA90 (en90_2 s x1 m 4 (some (.ref 127))) h90_2 = .ok (.bl true) h90_2 := by kernel_rfl
theorem ag_2_4_8 : againE [5] 5 b__law_again lmb tA90 (en90_2 s x1 m 4 (some (.ref 128))) h90_2 = .ok (.bl true) h90_2 := by kernel_rfl
theorem ag_2_4_9 : againE [5] 5 b__law_again lmb tA90 (en90_2 s x1 m 4 (some (.ref 129))) h90_2 = .ok (.bl true) h90_2 := by
  rw [lmb_9, again9 (f' := lp ys90_2) (fun h => lp_2 s x1 m 4 _ h)]
  kernel_rfl
theorem fin_all {x5 : Option D} {en : Option D → En} {h : IH} (w : ∀ i ∈ ([119, 121, 122, 123, 124, 125, 126, 127, 128, 129] : List Nat), againE [5] 5 b__law_again lmb tA90 (en (some (.ref i))) h = .ok (.bl true) h) (hv : seqV (varE 7) (en x5) h = .ok (fun h => getL h (.ref 120)) h) (hl : getL h (.ref 120) = some (([119, 121, 122, 123, 124, 125, 126, 127, 128, 129] : List Nat).map D.ref)) (hp : ∀ d, wipeE (en x5) [5] = en none ∧ (en none).set 5 (some d) = en (some d) ∧ 5 < (en none).length)
    (hf : nxL (s18 (en x5) h) = some (12, some (some s))) : nxL (post90 (en x5) h) = some (12, some (some s)) := by
  have l : lcE false (seqV (varE 7)) (.one 5) (notT (tst (againE [5] 5 b__law_again lmb tA90))) (cE (.int 1)) [5] (en x5) h = .ok (.vl []) h := by
    rw [lcE_map (r := false) ([119, 121, 122, 123, 124, 125, 126, 127, 128, 129] : List Nat) D.ref (fun i => en (some (.ref i))) (fun _ => false) (fun _ => .int 1) hv hl (fun i hi => ?_) (fun i hi => ?_) (fun _ _ z => nomatch z) (by rw [sizeLine_eq]; decide)]
    · rfl
    · obtain ⟨q1, q2, q3⟩ := hp (.ref i)
      rw [q1]
      show some ((en none).set 5 (some (.ref i))) = _
      rw [q2]
    · show ((((againE [5] 5 b__law_again lmb tA90 (en (some (.ref i))) h).bind asB).bind fun b h1 => Out.ok (!b) h1)) = _
      rw [w i hi]
      rfl
  have e17 : s17 (en x5) h = .nx (en x5) h := by
    unfold s17
    rw [ifS_e, tst_e, op2_e, l]
    rfl
  have q : post90 (en x5) h = s18 (en x5) h := by
    show seqS s17 s18 (en x5) h = _
    rw [seqS_e, e17]
    rfl
  rw [q]
  exact hf
theorem fin_0 (b : Int) : nxL (s18 (en90_0 s x1 m b (some (.tup [(.wd 19), (.int 3)]))) h90_0) = some (12, some (some s)) := by kernel_rfl
theorem fin_1 (b : Int) : nxL (s18 (en90_1 s x1 m b (some (.tup [(.wd 19), (.int 3)]))) h90_1) = some (12, some (some s)) := by kernel_rfl
theorem fin_2 (b : Int) : nxL (s18 (en90_2 s x1 m b (some (.tup [(.wd 19), (.int 3)]))) h90_2) = some (12, some (some s)) := by kernel_rfl
theorem rest_0_0 (x3 x4 x5 x6 x7 x8 x9 xa xb : Option D) : nxL (seqS T90 (R90m (cE (.int 0)) (cE (.int 0))) [some s, some x1, some m, x3, x4, x5, x6, x7, x8, x9, xa, xb] []) = some (12, some (some s)) := by
  rw [pre_post _ _ _ _ _ _ (pre_0 s x1 m 0 x3 x4 x5 x6 x7 x8 x9 xa xb)]
  refine fin_all s (en := en90_0 s x1 m 0) (fun i hi => ?_) rfl rfl (fun d => ⟨rfl, rfl, by show 5 < 12; decide⟩) (fin_0 s x1 m 0)
  simp only [List.mem_cons, List.not_mem_nil, or_false] at hi
  rcases hi with rfl | rfl | rfl | rfl | rfl | rfl | rfl | rfl | rfl | rfl
  · exact ag_0_0_0 s x1 m
  · exact ag_0_0_1 s x1 m
  · exact ag_0_0_2 s x1 m
  · exact ag_0_0_3 s x1 m
  · exact ag_0_0_4 s x1 m
  · exact ag_0_0_5 s x1 m
  · exact ag_0_0_6 s x1 m
  · exact ag_0_0_7 s x1 m
  · exact ag_0_0_8 s x1 m
  · exact ag_0_0_9 s x1 m
theorem rest_0_1 (x3 x4 x5 x6 x7 x8 x9 xa xb : Option D) : nxL (seqS T90 (R90m (cE (.int 0)) (cE (.int 1))) [some s, some x1, some m, x3, x4, x5, x6, x7, x8, x9, xa, xb] []) = some (12, some (some s)) := by
  rw [pre_post _ _ _ _ _ _ (pre_0 s x1 m 1 x3 x4 x5 x6 x7 x8 x9 xa xb)]
  refine fin_all s (en := en90_0 s x1 m 1) (fun i hi => ?_) rfl rfl (fun d => ⟨rfl, rfl, by show 5 < 12; decide⟩) (fin_0 s x1 m 1)
  simp only [List.mem_cons, List.not_mem_nil, or_false] at hi
  rcases hi with rfl | rfl | rfl | rfl | rfl | rfl | rfl | rfl | rfl | rfl
  · exact ag_0_1_0 s x1 m
  · exact ag_0_1_1 s x1 m
  · exact ag_0_1_2 s x1 m
  · exact ag_0_1_3 s x1 m
  · exact ag_0_1_4 s x1 m
  · exact ag_0_1_5 s x1 m
  · exact ag_0_1_6 s x1 m
  · exact ag_0_1_7 s x1 m
  · exact ag_0_1_8 s x1 m
  · exact ag_0_1_9 s x1 m
theorem rest_0_2 (x3 x4 x5 x6 x7 x8 x9 xa xb : Option D) : nxL (seqS T90 (R90m (cE (.int 0)) (cE (.int 2))) [some s, some x1, some m, x3, x4, x5, x6, x7, x8, x9, xa, xb] []) = some (12, some (some s)) := by
  rw [pre_post _ _ _ _ _ _ (pre_0 s x1 m 2 x3 x4 x5 x6 x7 x8 x9 xa xb)]
  refine fin_all s (en := en90_0 s x1 m 2) (fun i hi => ?_) rfl rfl (fun d => ⟨rfl, rfl, by show 5 < 12; decide⟩) (fin_0 s x1 m 2)
  simp only [List.mem_cons, List.not_mem_nil, or_false] at hi
  rcases hi with rfl | rfl | rfl | rfl | rfl | rfl | rfl | rfl | rfl | rfl
  · exact ag_0_2_0 s x1 m
  · exact ag_0_2_1 s x1 m
  · exact ag_0_2_2 s x1 m
  · exact ag_0_2_3 s x1 m
  · exact ag_0_2_4 s x1 m
  · exact ag_0_2_5 s x1 m
  · exact ag_0_2_6 s x1 m
  · exact ag_0_2_7 s x1 m
  · exact ag_0_2_8 s x1 m
  · exact ag_0_2_9 s x1 m
theorem rest_0_3 (x3 x4 x5 x6 x7 x8 x9 xa xb : Option D) : nxL (seqS T90 (R90m (cE (.int 0)) (cE (.int 3))) [some s, some x1, some m, x3, x4, x5, x6, x7, x8, x9, xa, xb] []) = some (12, some (some s)) := by
  rw [pre_post _ _ _ _ _ _ (pre_0 s x1 m 3 x3 x4 x5 x6 x7 x8 x9 xa xb)]
  refine fin_all s (en := en90_0 s x1 m 3) (fun i hi => ?_) rfl rfl (fun d => ⟨rfl, rfl, by show 5 < 12; decide⟩) (fin_0 s x1 m 3)
  simp only [List.mem_cons, List.not_mem_nil, or_false] at hi
  rcases hi with rfl | rfl | rfl | rfl | rfl | rfl | rfl | rfl | rfl | rfl
  · exact ag_0_3_0 s x1 m
  · exact ag_0_3_1 s x1 m
  · exact ag_0_3_2 s x1 m
  · exact ag_0_3_3 s x1 m
  · exact ag_0_3_4 s x1 m
  · exact ag_0_3_5 s x1 m
  · exact ag_0_3_6 s x1 m
  · exact ag_0_3_7 s x1 m
  · exact ag_0_3_8 s x1 m
  · exact ag_0_3_9 s x1 m
theorem rest_0_4 (x3 x4 x5 x6 x7 x8 x9 xa xb : Option D) : nxL (seqS T90 (R90m (cE (.int 0)) (cE (.int 4))) [some s, some x1, some m, x3, x4, x5, x6, x7, x8, x9, xa, xb] []) = some (12, some (some s)) := by
  rw [pre_post _ _ _ _ _ _ (pre_0 s x1 m 4 x3 x4 x5 x6 x7 x8 x9 xa xb)]
  refine fin_all s (en := en90_0 s x1 m 4) (fun i hi => ?_) rfl rfl (fun d => ⟨rfl, rfl, by show 5 < 12; decide⟩) (fin_0 s x1 m 4)
  simp only [List.mem_cons, List.not_mem_nil, or_false] at hi
  rcases hi with rfl | rfl | rfl | rfl | rfl | rfl | rfl | rfl | rfl | rfl
  · exact ag_0_4_0 s x1 m
  · exact ag_0_4_1 s x1 m
  · exact ag_0_4_2 s x1 m
  · exact ag_0_4_3 s x1 m
  · exact ag_0_4_4 s x1 m
  · exact ag_0_4_5 s x1 m
  · exact ag_0_4_6 s x1 m
  · exact ag_0_4_7 s x1 m
  · exact ag_0_4_8 s x1 m
  · exact ag_0_4_9 s x1 m
theorem rest_1_0 (x3 x4 x5 x6 x7 x8 x9 xa xb : Option D) : nxL (seqS T90 (R90m (cE (.int 1)) (cE (.int 0))) [some s, some x1, some m, x3, x4, x5, x6, x7, x8, x9, xa, xb] []) = some (12, some (some s)) := by
  rw [pre_post _ _ _ _ _ _ (pre_1 s x1 m 0 x3 x4 x5 x6 x7 x8 x9 xa xb)]
  refine fin_all s (en := en90_1 s x1 m 0) (fun i hi => ?_) rfl rfl (fun d => ⟨rfl, rfl, by show 5 < 12; decide⟩) (fin_1 s x1 m 0)
  simp only [List.mem_cons, List.not_mem_nil, or_false] at hi
  rcases hi with rfl | rfl | rfl | rfl | rfl | rfl | rfl | rfl | rfl | rfl
  · exact ag_1_0_0 s x1 m
  · exact ag_1_0_1 s x1 m
  · exact ag_1_0_2 s x1 m
  · exact ag_1_0_3 s x1 m
  · exact ag_1_0_4 s x1 m
  · exact ag_1_0_5 s x1 m
  · exact ag_1_0_6 s x1 m
  · exact ag_1_0_7 s x1 m
  · exact ag_1_0_8 s x1 m
  · exact ag_1_0_9 s x1 m
theorem rest_1_1 (x3 x4 x5 x6 x7 x8 x9 xa xb : Option D) : nxL (seqS T90 (R90m (cE (.int 1)) (cE (.int 1))) [some s, some x1, some m, x3, x4, x5, x6, x7, x8, x9, xa, xb] []) = some (12, some (some s)) := by
  rw [pre_post _ _ _ _ _ _ (pre_1 s x1 m 1 x3 x4 x5 x6 x7 x8 x9 xa xb)]
  refine fin_all s (en := en90_1 s x1 m 1) (fun i hi => ?_) rfl rfl (fun d => ⟨rfl, rfl, by show 5 < 12; decide⟩) (fin_1 s x1 m 1)
  simp only [List.mem_cons, List.not_mem_nil, or_false] at hi
  rcases hi with rfl | rfl | rfl | rfl | rfl | rfl | rfl | rfl | rfl | rfl
  · exact ag_1_1_0 s x1 m
  · exact ag_1_1_1 s x1 m
  · exact ag_1_1_2 s x1 m
  · exact ag_1_1_3 s x1 m
  · exact ag_1_1_4 s x1 m
  · exact ag_1_1_5 s x1 m
  · exact ag_1_1_6 s x1 m
  · exact ag_1_1_7 s x1 m
  · exact ag_1_1_8 s x1 m
  · exact ag_1_1_9 s x1 m
theorem rest_1_2 (x3 x4 x5 x6 x7 x8 x9 xa xb : Option D) : nxL (seqS T90 (R90m (cE (.int 1)) (cE (.int 2))) [some s, some x1, some m, x3, x4, x5, x6, x7, x8, x9, xa, xb] []) = some (12, some (some s)) := by
  rw [pre_post _ _ _ _ _ _ (pre_1 s x1 m 2 x3 x4 x5 x6 x7 x8 x9 xa xb)]
  refine fin_all s (en := en90_1 s x1 m 2) (fun i hi => ?_) rfl rfl (fun d => ⟨rfl, rfl, by show 5 < 12; decide⟩) (fin_1 s x1 m 2)
  simp only [List.mem_cons, List.not_mem_nil, or_false] at hi
  rcases hi with rfl | rfl | rfl | rfl | rfl | rfl | rfl | rfl | rfl | rfl
  · exact ag_1_2_0 s x1 m
  · exact ag_1_2_1 s x1 m
  · exact ag_1_2_2 s x1 m
  · exact ag_1_2_3 s x1 m
  · exact ag_1_2_4 s x1 m
  · exact ag_1_2_5 s x1 m
  · exact ag_1_2_6 s x1 m
  · exact ag_1_2_7 s x1 m
  · exact ag_1_2_8 s x1 m
  · exact ag_1_2_9 s x1 m
theorem rest_1_3 (x3 x4 x5 x6 x7 x8 x9 xa xb : Option D) : nxL (seqS T90 (R90m (cE (.int 1)) (cE (.int 3))) [some s, some x1, some m, x3, x4, x5, x6, x7, x8, x9, xa, xb] []) = some (12, some (some s)) := by
  rw [pre_post _ _ _ _ _ _ (pre_1 s x1 m 3 x3 x4 x5 x6 x7 x8 x9 xa xb)]
  refine fin_all s (en := en90_1 s x1 m 3) (fun i hi => ?_) rfl rfl (fun d => ⟨rfl, rfl, by show 5 < 12; decide⟩) (fin_1 s x1 m 3)
  simp only [List.mem_cons, List.not_mem_nil, or_false] at hi
  rcases hi with rfl | rfl | rfl | rfl | rfl | rfl | rfl | rfl | rfl | rfl
  · exact ag_1_3_0 s x1 m
  · exact ag_1_3_1 s x1 m
  · exact ag_1_3_2 s x1 m
  · exact ag_1_3_3 s x1 m
  · exact ag_1_3_4 s x1 m
  · exact ag_1_3_5 s x1 m
  · exact ag_1_3_6 s x1 m
  · exact ag_1_3_7 s x1 m
  · exact ag_1_3_8 s x1 m
  · exact ag_1_3_9 s x1 m
theorem rest_1_4 (x3 x4 x5 x6 x7 x8 x9 xa xb : Option D) : nxL (seqS T90 (R90m (cE (.int 1)) (cE (.int 4))) [some s, some x1, some m, x3, x4, x5, x6, x7, x8, x9, xa, xb] []) = some (12, some (some s)) := by
  rw [pre_post _ _ _ _ _ _ (pre_1 s x1 m 4 x3 x4 x5 x6 x7 x8 x9 xa xb)]
  refine fin_all s (en := en90_1 s x1 m 4) (fun i hi => ?_) rfl rfl (fun d => ⟨rfl, rfl, by show 5 < 12; decide⟩) (fin_1 s x1 m 4)
  simp only [List.mem_cons, List.not_mem_nil, or_false] at hi
  rcases hi with rfl | rfl | rfl | rfl | rfl | rfl | rfl | rfl | rfl | rfl
  · exact ag_1_4_0 s x1 m
  · exact ag_1_4_1 s x1 m
  · exact ag_1_4_2 s x1 m
  · exact ag_1_4_3 s x1 m
  · exact ag_1_4_4 s x1 m
  · exact ag_1_4_5 s x1 m
  · exact ag_1_4_6 s x1 m
  · exact ag_1_4_7 s x1 m
  · exact ag_1_4_8 s x1 m
  · exact ag_1_4_9 s x1 m
theorem rest_2_0 (x3 x4 x5 x6 x7 x8 x9 xa xb : Option D) : nxL (seqS T90 (R90m (cE (.int 2)) (cE (.int 0))) [some s, some x1, some m, x3, x4, x5, x6, x7, x8, x9, xa, xb] []) = some (12, some (some s)) := by
  rw [pre_post _ _ _ _ _ _ (pre_2 s x1 m 0 x3 x4 x5 x6 x7 x8 x9 xa xb)]
  refine fin_all s (en := en90_2 s x1 m 0) (fun i hi => ?_) rfl rfl (fun d => ⟨rfl, rfl, by show 5 < 12; decide⟩) (fin_2 s x1 m 0)
  simp only [List.mem_cons, List.not_mem_nil, or_false] at hi
  rcases hi with rfl | rfl | rfl | rfl | rfl | rfl | rfl | rfl | rfl | rfl
  · exact ag_2_0_0 s x1 m
  · exact ag_2_0_1 s x1 m
  · exact ag_2_0_2 s x1 m
  · exact ag_2_0_3 s x1 m
  · exact ag_2_0_4 s x1 m
  · exact ag_2_0_5 s x1 m
  · exact ag_2_0_6 s x1 m
  · exact ag_2_0_7 s x1 m
  · exact ag_2_0_8 s x1 m
  · exact ag_2_0_9 s x1 m
theorem rest_2_1 (x3 x4 x5 x6 x7 x8 x9 xa xb : Option D) : nxL (seqS T90 (R90m (cE (.int 2)) (cE (.int 1))) [some s, some x1, some m, x3, x4, x5, x6, x7, x8, x9, xa, xb] []) = some (12, some (some s)) := by
  rw [pre_post _ _ _ _ _ _ (pre_2 s x1 m 1 x3 x4 x5 x6 x7 x8 x9 xa xb)]
  refine fin_all s (en := en90_2 s x1 m 1) (fun i hi => ?_) rfl rfl (fun d => ⟨rfl, rfl, by show 5 < 12; decide⟩) (fin_2 s x1 m 1)
  simp only [List.mem_cons, List.not_mem_nil, or_false] at hi
  rcases hi with rfl | rfl | rfl | rfl | rfl | rfl | rfl | rfl | rfl | rfl
  · exact ag_2_1_0 s x1 m
  · exact ag_2_1_1 s x1 m
  · exact ag_2_1_2 s x1 m
  · exact ag_2_1_3 s x1 m
  · exact ag_2_1_4 s x1 m
  · exact ag_2_1_5 s x1 m
  · exact ag_2_1_6 s x1 m
  · exact ag_2_1_7 s x1 m
  · exact ag_2_1_8 s x1 m
  · exact ag_2_1_9 s x1 m
theorem rest_2_2 (x3 x4 x5 x6 x7 x8 x9 xa xb : Option D) : nxL (seqS T90 (R90m (cE (.int 2)) (cE (.int 2))) [some s, some x1, some m, x3, x4, x5, x6, x7, x8, x9, xa, xb] []) = some (12, some (some s)) := by
  rw [pre_post _ _ _ _ _ _ (pre_2 s x1 m 2 x3 x4 x5 x6 x7 x8 x9 xa xb)]
  refine fin_all s (en := en90_2 s x1 m 2) (fun i hi => ?_) rfl rfl (fun d => ⟨rfl, rfl, by show 5 < 12; decide⟩) (fin_2 s x1 m 2)
  simp only [List.mem_cons, List.not_mem_nil, or_false] at hi
  rcases hi with rfl | rfl | rfl | rfl | rfl | rfl | rfl | rfl | rfl | rfl
  · exact ag_2_2_0 s x1 m
  · exact ag_2_2_1 s x1 m
  · exact ag_2_2_2 s x1 m
  · exact ag_2_2_3 s x1 m
  · exact ag_2_2_4 s x1 m
  · exact ag_2_2_5 s x1 m
  · exact ag_2_2_6 s x1 m
  · exact ag_2_2_7 s x1 m
  · exact ag_2_2_8 s x1 m
  · exact ag_2_2_9 s x1 m
theorem rest_2_3 (x3 x4 x5 x6 x7 x8 x9 xa xb : Option D) : nxL (seqS T90 (R90m (cE (.int 2)) (cE (.int 3))) [some s, some x1, some m, x3, x4, x5, x6, x7, x8, x9, xa, xb] []) = some (12, some (some s)) := by
  rw [pre_post _ _ _ _ _ _ (pre_2 s x1 m 3 x3 x4 x5 x6 x7 x8 x9 xa xb)]
  refine fin_all s (en := en90_2 s x1 m 3) (fun i hi => ?_) rfl rfl (fun d => ⟨rfl, rfl, by show 5 < 12; decide⟩) (fin_2 s x1 m 3)
  simp only [List.mem_cons, List.not_mem_nil, or_false] at hi
  rcases hi with rfl | rfl | rfl | rfl | rfl | rfl | rfl | rfl | rfl | rfl
  · exact ag_2_3_0 s x1 m
  · exact ag_2_3_1 s x1 m
  · exact ag_2_3_2 s x1 m
  · exact ag_2_3_3 s x1 m
  · exact ag_2_3_4 s x1 m
  · exact ag_2_3_5 s x1 m
  · exact ag_2_3_6 s x1 m
  · exact ag_2_3_7 s x1 m
  · exact ag_2_3_8 s x1 m
  · exact ag_2_3_9 s x1 m
theorem rest_2_4 (x3 x4 x5 x6 x7 x8 x9 xa xb : Option D) : nxL (seqS T90 (R90m (cE (.int 2)) (cE (.int 4))) [some s, some x1, some m, x3, x4, x5, x6, x7, x8, x9, xa, xb] []) = some (12, some (some s)) := by
  rw [pre_post _ _ _ _ _ _ (pre_2 s x1 m 4 x3 x4 x5 x6 x7 x8 x9 xa xb)]
  refine fin_all s (en := en90_2 s x1 m 4) (fun i hi => ?_) rfl rfl (fun d => ⟨rfl, rfl, by show 5 < 12; decide⟩) (fin_2 s x1 m 4)
  simp only [List.mem_cons, List.not_mem_nil, or_false] at hi
  rcases hi with rfl | rfl | rfl | rfl | rfl | rfl | rfl | rfl | rfl | rfl
  · exact ag_2_4_0 s x1 m
  · exact ag_2_4_1 s x1 m
  · exact ag_2_4_2 s x1 m
  · exact ag_2_4_3 s x1 m
  · exact ag_2_4_4 s x1 m
  · exact ag_2_4_5 s x1 m
  · exact ag_2_4_6 s x1 m
  · exact ag_2_4_7 s x1 m
  · exact ag_2_4_8 s x1 m
  · exact ag_2_4_9 s x1 m
variable (x3 x4 x5 x6 x7 x8 x9 xa xb : Option D)
theorem rest_all {a b : Int} (a0 : 0 ≤ a) (a1 : a < 3) (b0 : 0 ≤ b) (b1 : b < 5) : nxL (seqS T90 (R90m (cE (.int a)) (cE (.int b))) [some s, some x1, some m, x3, x4, x5, x6, x7, x8, x9, xa, xb] []) = some (12, some (some s)) := by
  have ha : a = 0 ∨ a = 1 ∨ a = 2 := by omega
  have hb : b = 0 ∨ b = 1 ∨ b = 2 ∨ b = 3 ∨ b = 4 := by omega
  rcases ha with rfl | rfl | rfl <;> rcases hb with rfl | rfl | rfl | rfl | rfl
  · exact rest_0_0 s x1 m x3 x4 x5 x6 x7 x8 x9 xa xb
  · exact rest_0_1 s x1 m x3 x4 x5 x6 x7 x8 x9 xa xb
  · exact rest_0_2 s x1 m x3 x4 x5 x6 x7 x8 x9 xa xb
  · exact rest_0_3 s x1 m x3 x4 x5 x6 x7 x8 x9 xa xb
  · exact rest_0_4 s x1 m x3 x4 x5 x6 x7 x8 x9 xa xb
  · exact rest_1_0 s x1 m x3 x4 x5 x6 x7 x8 x9 xa xb
  · exact rest_1_1 s x1 m x3 x4 x5 x6 x7 x8 x9 xa xb
  · exact rest_1_2 s x1 m x3 x4 x5 x6 x7 x8 x9 xa xb
  · exact rest_1_3 s x1 m x3 x4 x5 x6 x7 x8 x9 xa xb
  · exact rest_1_4 s x1 m x3 x4 x5 x6 x7 x8 x9 xa xb
  · exact rest_2_0 s x1 m x3 x4 x5 x6 x7 x8 x9 xa xb
  · exact rest_2_1 s x1 m x3 x4 x5 x6 x7 x8 x9 xa xb
  · exact rest_2_2 s x1 m x3 x4 x5 x6 x7 x8 x9 xa xb
  · exact rest_2_3 s x1 m x3 x4 x5 x6 x7 x8 x9 xa xb
  · exact rest_2_4 s x1 m x3 x4 x5 x6 x7 x8 x9 xa xb
end
theorem op2_c {o : D → D → IH → Out D} {f k k' : ME} {en : En} (H : ∀ h, k en h = k' en h) (h : IH) : op2 o f k en h = op2 o f k' en h := by
  rw [op2_e, op2_e]
  simp only [H]
theorem v2_c {mm mm' : ME} {en : En} (H : ∀ h, mm en h = mm' en h) (h : IH) : v2m mm en h = v2m mm' en h := by
  unfold v2m
  simp only [lstE, tupE, consA_e, nilA_e, H]
theorem cg {more a b : Int} (ha : more % 3 = a) (hb : more % 5 = b) : Cg (fun en => en[2]? = some (some (.int more))) R90 (R90m (cE (.int a)) (cE (.int b))) := by
  have V : ∀ (en : En) (h : IH), en[2]? = some (some (.int more)) → varE 2 en h = .ok (.int more) h := fun en h e => by unfold varE; rw [e]
  have H3 : ∀ (en : En) (h : IH), en[2]? = some (some (.int more)) → op2 modD (varE 2) (cE (.int 3)) en h = cE (.int a) en h := fun en h e => by
    rw [op2_e, V en h e, Out.bind_ok, cE_e, Out.bind_ok, modI_e (by decide), ha, cE_e]
  have H5 : ∀ (en : En) (h : IH), en[2]? = some (some (.int more)) → op2 modD (varE 2) (cE (.int 5)) en h = cE (.int b) en h := fun en h e => by
    rw [op2_e, V en h e, Out.bind_ok, cE_e, Out.bind_ok, modI_e (by decide), hb, cE_e]
  have S : ∀ (i : Nat), i ≠ 2 → ∀ (en : En) (d : D), en[2]? = some (some (.int more)) → (en.set i (some d))[2]? = some (some (.int more)) := fun i hi en d e => by
    rw [List.getElem?_set_ne hi]
    exact e
  rw [R90_eq]
  unfold R90m
  refine Cg.seq (Cg.asg (fun en h e => op2_c (fun h => H3 en h e) h) (S 4 (by decide))) ?_
  refine Cg.seq (Cg.asg (fun _ _ _ => rfl) (S 9 (by decide))) ?_
  refine Cg.seq (Cg.for (by unfold b_law_1; exact Cg.iff (fun _ _ _ => rfl) (Cg.expr (fun _ _ _ => rfl)) (Cg.iff (fun _ _ _ => rfl) (Cg.expr (fun _ _ _ => rfl)) (Cg.expr (fun _ _ _ => rfl)))) (S 5 (by decide))) ?_
  refine Cg.seq (Cg.expr (fun _ _ _ => rfl)) ?_
  refine Cg.seq (Cg.asg (fun _ _ _ => rfl) (S 11 (by decide))) ?_
  refine Cg.seq (Cg.asg (fun en h e => v2_c (fun h => H5 en h e) h) (S 8 (by decide))) ?_
  refine Cg.seq (Cg.asg (fun _ _ _ => rfl) (S 6 (by decide))) ?_
  refine Cg.seq (Cg.asg (fun _ _ _ => rfl) (S 7 (by decide))) ?_
  refine Cg.seq (Cg.expr (fun _ _ _ => rfl)) ?_
  refine Cg.seq (Cg.expr (fun _ _ _ => rfl)) ?_
  refine Cg.seq (Cg.expr (fun _ _ _ => rfl)) ?_
  refine Cg.seq (Cg.expr (fun _ _ _ => rfl)) ?_
  refine Cg.seq (Cg.expr (fun _ _ _ => rfl)) ?_
  refine Cg.seq (Cg.expr (fun _ _ _ => rfl)) ?_
  refine Cg.seq (Cg.expr (fun _ _ _ => rfl)) ?_
  refine Cg.seq (Cg.expr (fun _ _ _ => rfl)) ?_
  refine Cg.seq (Cg.expr (fun _ _ _ => rfl)) ?_
  refine Cg.seq (Cg.iff (fun _ _ _ => rfl) (Cg.ret fun _ _ _ => rfl) Cg.pass) ?_
  exact Cg.iff (fun _ _ _ => rfl) (Cg.ret fun _ _ _ => rfl) Cg.pass
theorem law0_step {k : Nat} {ns : List Int} {x1 x2 x3 x4 x5 x6 x7 x8 x9 xa xb : Option D} (hk : k < 100) (hn : ns.length ≤ 63) : ∃ en', stepB (nameG 1) (cutS b_law_0) (ID k) [some (.fl (ns.map .int)), x1, x2, x3, x4, x5, x6, x7, x8, x9, xa, xb] [] = .nx en' [] ∧ ∃ y1 y2 y3 y4 y5 y6 y7 y8 y9 ya yb, en' = [some (.fl (ns.map .int)), y1, y2, y3, y4, y5, y6, y7, y8, y9, ya, yb] := by
  have e0 := cell_ok ns k [] hk hn
  have e1 := drawn_ok (cell ns k) (k : Nat) []
  generalize drawn (cell ns k) ((k : Nat) : Int) = more at e1
  have c1 : callF 2 F__law_drawn (consA (callF 2 F__law_cell (consA (varE 0) (consA (varE 1) (nilA)))) (consA (varE 1) (nilA))) [some (.fl (ns.map .int)), some (ID k), x2, x3, x4, x5, x6, x7, x8, x9, xa, xb] [] = .ok (.int more) [] := by
    have c0 : callF 2 F__law_cell (consA (varE 0) (consA (varE 1) (nilA))) [some (.fl (ns.map .int)), some (ID k), x2, x3, x4, x5, x6, x7, x8, x9, xa, xb] [] = .ok (.int (cell ns k)) [] := (callF_e (n := 2) (ds := [.fl (ns.map .int), ID k]) rfl rfl).trans e0
    refine (callF_e (n := 2) (ds := [.int (cell ns k), ID k]) (h' := []) ?_ rfl).trans e1
    rw [consA_e, c0]
    rfl
  obtain ⟨en', h', e, hl, hs⟩ := nxL_of (rest_all (.fl (ns.map .int)) (ID k) (.int more) x3 x4 x5 x6 x7 x8 x9 xa xb (a := more % 3) (b := more % 5) (by omega) (by omega) (by omega) (by omega))
  obtain ⟨en1, h1, q1, q2⟩ := seq_inv e
  have sl := slot_c (.fl (ns.map .int)) (ID k) more x3 x4 x5 x6 x7 x8 x9 xa xb
  rw [q1] at sl
  have sl : en1[2]? = some (some (.int more)) := Option.some.inj sl
  have cgr := (cg (more := more) (a := more % 3) (b := more % 5) rfl rfl en1 h1 sl).1
  have key : b_law_0 [some (.fl (ns.map .int)), some (ID k), x2, x3, x4, x5, x6, x7, x8, x9, xa, xb] [] = .nx en' h' := by
    rw [A90_eq]
    refine seq_mk (en1 := [some (.fl (ns.map .int)), some (ID k), some (.int more), x3, x4, x5, x6, x7, x8, x9, xa, xb]) (h1 := []) ?_ (seq_mk q1 (cgr.trans q2))
    rw [asgS_e, c1]
    rfl
  refine ⟨en'.map (clo 0), ?_, ?_⟩
  · rw [show stepB (nameG 1) (cutS b_law_0) (ID k) [some (.fl (ns.map .int)), x1, x2, x3, x4, x5, x6, x7, x8, x9, xa, xb] [] = cutS b_law_0 [some (.fl (ns.map .int)), some (ID k), x2, x3, x4, x5, x6, x7, x8, x9, xa, xb] [] from rfl]
    exact cut_nil key
  · match en', hl, hs with
    | [a, b, c, d, e, f, g, i, j, l, o, p], _, hs =>
      have hs : some a = some (some (.fl (ns.map .int))) := hs
      cases hs
      exact ⟨clo 0 b, clo 0 c, clo 0 d, clo 0 e, clo 0 f, clo 0 g, clo 0 i, clo 0 j, clo 0 l, clo 0 o, clo 0 p, by rw [List.map_cons, clo_script]; rfl⟩
theorem law_true : LawTrue F_law 63 := by
  intro ns hn _
  refine ⟨[], ?_⟩
  obtain ⟨m, hm, hlt⟩ : ∃ m : Nat, (if (if ((ns.length : Nat) : Int) < 2 then ((ns.length : Nat) : Int) else 2) > 1 then (if ((ns.length : Nat) : Int) < 2 then ((ns.length : Nat) : Int) else 2) else 1) = (m : Int) ∧ m ≤ 2 := by
    refine ⟨(if (if ((ns.length : Nat) : Int) < 2 then ((ns.length : Nat) : Int) else 2) > 1 then (if ((ns.length : Nat) : Int) < 2 then ((ns.length : Nat) : Int) else 2) else 1).toNat, ?_, ?_⟩ <;> split <;> split <;> omega
  have el := lenD_e (h := []) (d := .fl (ns.map .int)) rfl
  rw [List.length_map] at el
  obtain ⟨en', H', e, rfl, x1, x2, x3, x4, x5, x6, x7, x8, x9, xa, xb, rfl⟩ := forS_run (fi := rng1V (consA (callB max2 (consA (cE (.int 1)) (consA (callB min2 (consA (cE (.int 2)) (consA (callB lenD (consA (varE 0) (nilA))) (nilA)))) (nilA)))) (nilA))) (gf := nameG 1) (b := cutS b_law_0)
    (en := [some (.fl (ns.map .int)), none, none, none, none, none, none, none, none, none, none, none]) (h := []) (h1 := []) (w := fun _ => some (rangeL 0 m)) (xs := rangeL 0 m)
    (fun i en hp => hp = [] ∧ ∃ x1 x2 x3 x4 x5 x6 x7 x8 x9 xa xb, en = [some (.fl (ns.map .int)), x1, x2, x3, x4, x5, x6, x7, x8, x9, xa, xb])
    (rng1_nat (by simp only [consA_e, nilA_e, callB_e, cE_e, varE, List.getElem?_cons_zero, Out.bind_ok, el, min2, max2, hm]) (by omega)) rfl ⟨rfl, _, _, _, _, _, _, _, _, _, _, _, rfl⟩ (fun _ _ _ _ => rfl) (fun i d en hp hd hi => by
      obtain ⟨rfl, x1, x2, x3, x4, x5, x6, x7, x8, x9, xa, xb, rfl⟩ := hi
      obtain ⟨hin, rfl⟩ := ID_at hd
      obtain ⟨en', e, q⟩ := law0_step (k := i) (ns := ns) (x1 := x1) (x2 := x2) (x3 := x3) (x4 := x4) (x5 := x5) (x6 := x6) (x7 := x7) (x8 := x8) (x9 := x9) (xa := xa) (xb := xb) (by omega) hn
      exact ⟨en', [], .inl e, rfl, q⟩)
  refine fnC_rt (d := .bl true) (h' := []) ?_ (by simp) (fz_cl rfl)
  show noX _ [some (.fl (ns.map .int)), none, none, none, none, none, none, none, none, none, none, none] [] = _
  unfold noX
  refine (if_pos (by rfl)).trans ?_
  simp only [seqS_e, e, SO.seq_nx, retS_e, cE_e, toS_ok]
end GK

set_option Elab.async false
set_option linter.all false
set_option maxRecDepth 100000
set_option maxHeartbeats 0
namespace GK
open PySem PySem.Spec PyProof.Rows L2 DL HotX L2H
abbrev R : PySem.W.OpenRow := PySem.W.OpenLaw.row PySem.Challenge.rw_cordboard_k90_again_and_shared
def fn : List He.DefD := [⟨("_law_cell", none), "_law_cell", "_law_cell", defArgs st__law_cell, defBody st__law_cell, defScope st__law_cell, [], []⟩, ⟨("_law_drawn", none), "_law_drawn", "_law_drawn", defArgs st__law_drawn, defBody st__law_drawn, defScope st__law_drawn, [], []⟩, ⟨("is_count", none), "is_count", "is_count", defArgs st_is_count, defBody st_is_count, defScope st_is_count, [], []⟩, ⟨("Line", some "__init__"), "__init__", "Line.__init__", defArgs st_Line___init__, defBody st_Line___init__, defScope st_Line___init__, [], []⟩, ⟨("Cord", some "__init__"), "__init__", "Cord.__init__", defArgs st_Cord___init__, defBody st_Cord___init__, defScope st_Cord___init__, [], []⟩, ⟨("Board", some "__init__"), "__init__", "Board.__init__", defArgs st_Board___init__, defBody st_Board___init__, defScope st_Board___init__, [], []⟩, ⟨("Board", some "need_line"), "need_line", "Board.need_line", defArgs st_Board_need_line, defBody st_Board_need_line, defScope st_Board_need_line, [], []⟩, ⟨("need_truth", none), "need_truth", "need_truth", defArgs st_need_truth, defBody st_need_truth, defScope st_need_truth, [], []⟩, ⟨("Line", some "twin"), "twin", "Line.twin", defArgs st_Line_twin, defBody st_Line_twin, defScope st_Line_twin, [], []⟩, ⟨("Cord", some "twin"), "twin", "Cord.twin", defArgs st_Cord_twin, defBody st_Cord_twin, defScope st_Cord_twin, [], []⟩, ⟨("Board", some "keep"), "keep", "Board.keep", defArgs st_Board_keep, defBody st_Board_keep, defScope st_Board_keep, [], []⟩, ⟨("Line", some "hook"), "hook", "Line.hook", defArgs st_Line_hook, defBody st_Line_hook, defScope st_Line_hook, [], []⟩, ⟨("Board", some "look"), "look", "Board.look", defArgs st_Board_look, defBody st_Board_look, defScope st_Board_look, [], []⟩, ⟨("Board", some "hook"), "hook", "Board.hook", defArgs st_Board_hook, defBody st_Board_hook, defScope st_Board_hook, [], []⟩, ⟨("Board", some "need_cord"), "need_cord", "Board.need_cord", defArgs st_Board_need_cord, defBody st_Board_need_cord, defScope st_Board_need_cord, [], []⟩, ⟨("Board", some "need_end"), "need_end", "Board.need_end", defArgs st_Board_need_end, defBody st_Board_need_end, defScope st_Board_need_end, [], []⟩, ⟨("Board", some "holder"), "holder", "Board.holder", defArgs st_Board_holder, defBody st_Board_holder, defScope st_Board_holder, [], []⟩, ⟨("Board", some "plug"), "plug", "Board.plug", defArgs st_Board_plug, defBody st_Board_plug, defScope st_Board_plug, [], []⟩, ⟨("Board", some "tick"), "tick", "Board.tick", defArgs st_Board_tick, defBody st_Board_tick, defScope st_Board_tick, [], []⟩, ⟨("Board", some "listen"), "listen", "Board.listen", defArgs st_Board_listen, defBody st_Board_listen, defScope st_Board_listen, [], []⟩, ⟨("Board", some "line_lamps"), "line_lamps", "Board.line_lamps", defArgs st_Board_line_lamps, defBody st_Board_line_lamps, defScope st_Board_line_lamps, [], []⟩, ⟨("Board", some "lamp"), "lamp", "Board.lamp", defArgs st_Board_lamp, defBody st_Board_lamp, defScope st_Board_lamp, [], []⟩, ⟨("Board", some "cord_lamps"), "cord_lamps", "Board.cord_lamps", defArgs st_Board_cord_lamps, defBody st_Board_cord_lamps, defScope st_Board_cord_lamps, [], []⟩, ⟨("Board", some "plugs"), "plugs", "Board.plugs", defArgs st_Board_plugs, defBody st_Board_plugs, defScope st_Board_plugs, [], []⟩, ⟨("Board", some "talks"), "talks", "Board.talks", defArgs st_Board_talks, defBody st_Board_talks, defScope st_Board_talks, [], []⟩, ⟨("Board", some "hears"), "hears", "Board.hears", defArgs st_Board_hears, defBody st_Board_hears, defScope st_Board_hears, [], []⟩, ⟨("Board", some "calls"), "calls", "Board.calls", defArgs st_Board_calls, defBody st_Board_calls, defScope st_Board_calls, [], []⟩, ⟨("is_row", none), "is_row", "is_row", defArgs st_is_row, defBody st_is_row, defScope st_is_row, [], []⟩, ⟨("known", none), "known", "known", defArgs st_known, defBody st_known, defScope st_known, [], []⟩, ⟨("is_call", none), "is_call", "is_call", defArgs st_is_call, defBody st_is_call, defScope st_is_call, [], []⟩, ⟨("need_calls", none), "need_calls", "need_calls", defArgs st_need_calls, defBody st_need_calls, defScope st_need_calls, [], []⟩, ⟨("led", none), "led", "led", defArgs st_led, defBody st_led, defScope st_led, [], []⟩, ⟨("carried", none), "carried", "carried", defArgs st_carried, defBody st_carried, defScope st_carried, [], []⟩, ⟨("is_part", none), "is_part", "is_part", defArgs st_is_part, defBody st_is_part, defScope st_is_part, [], []⟩, ⟨("is_deed", none), "is_deed", "is_deed", defArgs st_is_deed, defBody st_is_deed, defScope st_is_deed, [], []⟩, ⟨("part_text", none), "part_text", "part_text", defArgs st_part_text, defBody st_part_text, defScope st_part_text, [], []⟩, ⟨("deed_text", none), "deed_text", "deed_text", defArgs st_deed_text, defBody st_deed_text, defScope st_deed_text, [], []⟩, ⟨("written", none), "written", "written", defArgs st_written, defBody st_written, defScope st_written, [], []⟩, ⟨("part_in", none), "part_in", "part_in", defArgs st_part_in, defBody st_part_in, defScope st_part_in, [], []⟩, ⟨("read", none), "read", "read", defArgs st_read, defBody st_read, defScope st_read, [], []⟩, ⟨("greatest", none), "greatest", "greatest", defArgs st_greatest, defBody st_greatest, defScope st_greatest, [], []⟩, ⟨("fewest", none), "fewest", "fewest", defArgs st_fewest, defBody st_fewest, defScope st_fewest, [], []⟩, ⟨("Board", some "pull"), "pull", "Board.pull", defArgs st_Board_pull, defBody st_Board_pull, defScope st_Board_pull, [], []⟩, ⟨("Board", some "ring"), "ring", "Board.ring", defArgs st_Board_ring, defBody st_Board_ring, defScope st_Board_ring, [], []⟩, ⟨("Board", some "undo"), "undo", "Board.undo", defArgs st_Board_undo, defBody st_Board_undo, defScope st_Board_undo, [], []⟩, ⟨("do_deed", none), "do_deed", "do_deed", defArgs st_do_deed, defBody st_do_deed, defScope st_do_deed, [], []⟩, ⟨("played", none), "played", "played", defArgs st_played, defBody st_played, defScope st_played, [], []⟩, ⟨("_law_copy", none), "_law_copy", "_law_copy", defArgs st__law_copy, defBody st__law_copy, defScope st__law_copy, [], []⟩, ⟨("_law_spoil", none), "_law_spoil", "_law_spoil", defArgs st__law_spoil, defBody st__law_spoil, defScope st__law_spoil, [], []⟩, ⟨("_law_again", none), "_law_again", "_law_again", defArgs st__law_again, defBody st__law_again, defScope st__law_again, [], []⟩, ⟨("law", none), "law", "law", defArgs st_law, defBody st_law, defScope st_law, [], []⟩]
def fa : List He.Fa := [.glo "_law_cell", .glo "_law_drawn", .glo "is_count", .glo "Line", .cls "Line", .mkr "Line", .glo "Cord", .cls "Cord", .mkr "Cord", .glo "Board", .cls "Board", .mkr "Board", .meth "Board" "need_line", .glo "need_truth", .meth "Line" "twin", .meth "Cord" "twin", .meth "Board" "keep", .meth "Line" "hook", .meth "Board" "look", .meth "Board" "hook", .meth "Board" "need_cord", .meth "Board" "need_end", .meth "Board" "holder", .meth "Board" "plug", .meth "Board" "tick", .meth "Board" "listen", .meth "Board" "line_lamps", .meth "Board" "lamp", .meth "Board" "cord_lamps", .meth "Board" "plugs", .meth "Board" "talks", .meth "Board" "hears", .meth "Board" "calls", .glo "is_row", .glo "known", .glo "is_call", .glo "need_calls", .glo "led", .glo "carried", .glo "is_part", .glo "is_deed", .glo "part_text", .glo "deed_text", .glo "written", .glo "part_in", .glo "read", .glo "greatest", .glo "fewest", .meth "Board" "pull", .meth "Board" "ring", .meth "Board" "undo", .glo "do_deed", .glo "played", .glo "_law_copy", .glo "_law_spoil", .glo "_law_again", .glo "law", .noat "Line" "is_off", .noat "Line" "since", .noat "Line" "on_step", .noat "Line" "off_step", .noat "Line" "has_flashed", .noat "Cord" "lines", .noat "Cord" "put_step", .noat "Cord" "is_heard", .noat "Cord" "is_ringing", .noat "Cord" "heard_step", .noat "Cord" "call", .noat "Board" "lines_here", .noat "Board" "cords_here", .noat "Board" "clock", .noat "Board" "step", .noat "Board" "done", .noat "Board" "past", .free "all", .free "bool", .free "dict", .free "enumerate", .free "int", .free "isinstance", .free "len", .free "list", .free "max", .free "min", .free "range", .free "sorted", .free "str", .free "tuple", .free "zip", .glo "SHAPES", .glo "TRUTHS", .glo "ENDS", .int "FLASH" 3, .int "LATEST" 10000, .int "LONGEST" 1000, .int "MOST_CALLS" 60, .int "MOST_CORDS" 8, .int "MOST_DEEDS" 200, .int "MOST_LINES" 20, .int "MOST_TICKS" 1000000, .glo "WORDS", .glo "BadNumber", .exc "BadNumber", .glo "BadWord", .exc "BadWord", .glo "Busy", .exc "Busy", .glo "NoPlug", .exc "NoPlug", .glo "InPlace", .exc "InPlace", .glo "BadCalls", .exc "BadCalls", .glo "BadRows", .exc "BadRows", .glo "BadText", .exc "BadText", .glo "Nothing", .exc "Nothing"]
def ts : List He.Tab := [(fun K => He.ga K "SHAPES", ["hook", "plug", "pull", "listen", "ring", "tick", "undo"])]
def tf : List (He.Defn × Str) := [(("led", none), "led.<locals>.<lambda>"), (("law", none), "law.<locals>.<lambda>")]
def exb (K : PySem.W.Frag) : Bool := He.tupB K "ENDS" [.str "back", .str "front"] && (He.tupB K "WORDS" [.str "dark", .str "lit", .str "winks"] && (dnoB K "ENDS" && (tabB K "SHAPES" [(14, [34, 35]), (15, [34, 36, 34]), (16, [34, 36]), (17, [34, 35]), (18, [34, 35]), (19, [34]), (20, [])] && (truB K "TRUTHS" 37 38 && (tabND K tf)))))
abbrev hk : PySem.W.Hook := He.hookX 4 fa fn ts (tf.map (·.1)) exb
def ob (s : PySem.W.SharedT) : He.AlX := He.obsX 4 fa fn ts (tf.map (·.1)) exb (HandSHeadRun.getT s)
theorem ob_eq (s : PySem.W.SharedT) : ob s = hk.obs s.abs := He.obsX_eq (HandSHeadRun.getT_eq s)
def names0 : List PySem.Str := ["_wall", "BoardError", "BadNumber", "BadWord", "Busy", "NoPlug", "InPlace", "BadCalls", "BadRows", "BadText", "Nothing", "MOST_LINES", "MOST_CORDS", "MOST_TICKS", "FLASH", "ENDS", "is_count", "need_truth", "Line", "Cord", "Board", "MOST_DEEDS", "SHAPES", "TRUTHS", "is_part", "is_deed", "part_text", "deed_text", "written", "part_in"]
def names1 : List PySem.Str := ["read", "do_deed", "played", "MOST_CALLS", "LATEST", "LONGEST", "is_call", "need_calls", "led", "carried", "fewest", "greatest", "WORDS", "is_row", "known", "_law_cell", "_law_drawn", "_law_copy", "_law_spoil", "_law_again"]
def names : List PySem.Str := names0 ++ names1
theorem run0f (w : World) : HandSHeadRun.RunEq R (PySem.W.view R.prog [56]) hk ob 6000 names (w.withFollow "special-get-raises" false) := by
  intro os
  kernel_rfl
theorem run0t (w : World) : HandSHeadRun.RunEq R (PySem.W.view R.prog [56]) hk ob 6000 names (w.withFollow "special-get-raises" true) := by
  intro os
  kernel_rfl
theorem run0 (b : Bool) (w : World) : HandSHeadRun.RunEq R (PySem.W.view R.prog [56]) hk ob 6000 names (w.withFollow "special-get-raises" b) := by
  cases b
  · exact run0f w
  · exact run0t w
theorem run (w : World) : HandSHeadRun.RunEq R (PySem.W.view R.prog [56]) hk ob 6000 names w := by
  have z := run0 (w.params.followText "special-get-raises") w
  rwa [World.withFollow_self] at z
theorem lamF {K : PySem.W.Frag} {h : Heap} {mg : Str → Option Value} {w : World} {base : Heap} (c : He.SaysX fa fn ts (tf.map (·.1)) exb w h K) (nd : tabND K tf = true) (hT : ∀ p ∈ tf.map (fun p => He.cT K p.1), LamX.TabB base mg p.1 p.2) {p : He.Defn × Str} (hp : p ∈ tf) {x q : Str} {ar : Arguments} {body : List Stmt} {sc : Scope} {fd : FuncData} (F : FunD K x q ar body sc [] [] (He.fAd K p.1) fd) : LamF base mg (.of (tabL K tf)) fd.code p.2 := by
  obtain ⟨oc, od, dV, kV, doc, pm, an, cdv, ct, osl, rfl, lk, hcd, _⟩ := F.ex
  obtain ⟨c0, rfl⟩ := He.codeIn_ref hcd
  have e := He.codeOf_eq lk rfl
  refine ⟨c0, (He.cT K p.1).2, rfl, ?_, List.mem_map.mpr ⟨p, hp, rfl⟩, tab_uniq (of_decide_eq_true nd) hp⟩
  have z := hT _ (List.mem_map.mpr ⟨p, hp, rfl⟩)
  have e1 : (He.cT K p.1).1 = c0 := e
  rw [e1] at z
  exact z
theorem facts {P : Program} {w : World} {K : PySem.W.Frag} {h : Heap} {mg : Str → Option Value} {base : Heap} (X : K.In h) (G : h.Ns mainGlobals mg) (c : He.SaysX fa fn ts (tf.map (·.1)) exb w h K) (hT : ∀ p ∈ tf.map (fun p => He.cT K p.1), LamX.TabB base mg p.1 p.2) : Fs P w K mg base (.of (tabL K tf)) := by
  have f := fun (i : Nat) {z : He.Fa} (q : fa[i]? = some z) => c.t.d.fact i q
  have hm := c.more
  unfold exb at hm
  obtain ⟨x0, hm⟩ := He.ba hm
  obtain ⟨x1, hm⟩ := He.ba hm
  obtain ⟨x2, hm⟩ := He.ba hm
  obtain ⟨x3, hm⟩ := He.ba hm
  obtain ⟨x4, hm⟩ := He.ba hm
  have nf_0 : ∀ z ∈ flds 0, (He.Fa.noat "Line" z).ok K = true := by
    intro z hz
    simp only [flds, List.mem_cons, List.not_mem_nil, or_false] at hz
    rcases hz with rfl | rfl | rfl | rfl | rfl
    · exact f 57 (z := .noat "Line" "is_off") rfl
    · exact f 58 (z := .noat "Line" "since") rfl
    · exact f 59 (z := .noat "Line" "on_step") rfl
    · exact f 60 (z := .noat "Line" "off_step") rfl
    · exact f 61 (z := .noat "Line" "has_flashed") rfl
  have nf_1 : ∀ z ∈ flds 1, (He.Fa.noat "Cord" z).ok K = true := by
    intro z hz
    simp only [flds, List.mem_cons, List.not_mem_nil, or_false] at hz
    rcases hz with rfl | rfl | rfl | rfl | rfl | rfl
    · exact f 62 (z := .noat "Cord" "lines") rfl
    · exact f 63 (z := .noat "Cord" "put_step") rfl
    · exact f 64 (z := .noat "Cord" "is_heard") rfl
    · exact f 65 (z := .noat "Cord" "is_ringing") rfl
    · exact f 66 (z := .noat "Cord" "heard_step") rfl
    · exact f 67 (z := .noat "Cord" "call") rfl
  have nf_2 : ∀ z ∈ flds 2, (He.Fa.noat "Board" z).ok K = true := by
    intro z hz
    simp only [flds, List.mem_cons, List.not_mem_nil, or_false] at hz
    rcases hz with rfl | rfl | rfl | rfl | rfl | rfl
    · exact f 68 (z := .noat "Board" "lines_here") rfl
    · exact f 69 (z := .noat "Board" "cords_here") rfl
    · exact f 70 (z := .noat "Board" "clock") rfl
    · exact f 71 (z := .noat "Board" "step") rfl
    · exact f 72 (z := .noat "Board" "done") rfl
    · exact f 73 (z := .noat "Board" "past") rfl
  exact {
    n_all := He.free_ok X G (f 74 (z := .free "all") rfl)
    n_bool := He.free_ok X G (f 75 (z := .free "bool") rfl)
    n_dict := He.free_ok X G (f 76 (z := .free "dict") rfl)
    n_enumerate := He.free_ok X G (f 77 (z := .free "enumerate") rfl)
    n_int := He.free_ok X G (f 78 (z := .free "int") rfl)
    n_isinstance := He.free_ok X G (f 79 (z := .free "isinstance") rfl)
    n_len := He.free_ok X G (f 80 (z := .free "len") rfl)
    n_list := He.free_ok X G (f 81 (z := .free "list") rfl)
    n_max := He.free_ok X G (f 82 (z := .free "max") rfl)
    n_min := He.free_ok X G (f 83 (z := .free "min") rfl)
    n_range := He.free_ok X G (f 84 (z := .free "range") rfl)
    n_sorted := He.free_ok X G (f 85 (z := .free "sorted") rfl)
    n_str := He.free_ok X G (f 86 (z := .free "str") rfl)
    n_tuple := He.free_ok X G (f 87 (z := .free "tuple") rfl)
    n_zip := He.free_ok X G (f 88 (z := .free "zip") rfl)
    g_ENDS := GloIs.tup (He.glo_ok X G (f 91 (z := .glo "ENDS") rfl)) x0 (fun m n H => .cons (.wd (by decide) (by decide +kernel)) (.cons (.wd (by decide) (by decide +kernel)) (.nil)))
    t_ENDS := GloT.of (He.glo_ok X G (f 91 (z := .glo "ENDS") rfl)) x0 x2 (fun m n H => .cons (.wd (by decide) (by decide +kernel)) (.cons (.wd (by decide) (by decide +kernel)) (.nil)))
    g_FLASH := GloIs.int (He.int_ok X G (f 92 (z := .int "FLASH" 3) rfl))
    g_LATEST := GloIs.int (He.int_ok X G (f 93 (z := .int "LATEST" 10000) rfl))
    g_LONGEST := GloIs.int (He.int_ok X G (f 94 (z := .int "LONGEST" 1000) rfl))
    g_MOST_CALLS := GloIs.int (He.int_ok X G (f 95 (z := .int "MOST_CALLS" 60) rfl))
    g_MOST_CORDS := GloIs.int (He.int_ok X G (f 96 (z := .int "MOST_CORDS" 8) rfl))
    g_MOST_DEEDS := GloIs.int (He.int_ok X G (f 97 (z := .int "MOST_DEEDS" 200) rfl))
    g_MOST_LINES := GloIs.int (He.int_ok X G (f 98 (z := .int "MOST_LINES" 20) rfl))
    g_MOST_TICKS := GloIs.int (He.int_ok X G (f 99 (z := .int "MOST_TICKS" 1000000) rfl))
    g_WORDS := GloIs.tup (He.glo_ok X G (f 100 (z := .glo "WORDS") rfl)) x1 (fun m n H => .cons (.wd (by decide) (by decide +kernel)) (.cons (.wd (by decide) (by decide +kernel)) (.cons (.wd (by decide) (by decide +kernel)) (.nil))))
    s_SHAPES := tabB_ok (He.glo_ok X G (f 89 (z := .glo "SHAPES") rfl)) (c.t.tab 0) x3
    s_TRUTHS := truB_ok (He.glo_ok X G (f 90 (z := .glo "TRUTHS") rfl)) x4
    e_11 := er_ok (He.glo_ok X G (f 101 (z := .glo "BadNumber") rfl)) (f 102 (z := .exc "BadNumber") rfl)
    e_12 := er_ok (He.glo_ok X G (f 103 (z := .glo "BadWord") rfl)) (f 104 (z := .exc "BadWord") rfl)
    e_13 := er_ok (He.glo_ok X G (f 105 (z := .glo "Busy") rfl)) (f 106 (z := .exc "Busy") rfl)
    e_14 := er_ok (He.glo_ok X G (f 107 (z := .glo "NoPlug") rfl)) (f 108 (z := .exc "NoPlug") rfl)
    e_15 := er_ok (He.glo_ok X G (f 109 (z := .glo "InPlace") rfl)) (f 110 (z := .exc "InPlace") rfl)
    e_16 := er_ok (He.glo_ok X G (f 111 (z := .glo "BadCalls") rfl)) (f 112 (z := .exc "BadCalls") rfl)
    e_17 := er_ok (He.glo_ok X G (f 113 (z := .glo "BadRows") rfl)) (f 114 (z := .exc "BadRows") rfl)
    e_18 := er_ok (He.glo_ok X G (f 115 (z := .glo "BadText") rfl)) (f 116 (z := .exc "BadText") rfl)
    e_19 := er_ok (He.glo_ok X G (f 117 (z := .glo "Nothing") rfl)) (f 118 (z := .exc "Nothing") rfl)
    c_0 := cl_ok (He.glo_ok X G (f 3 (z := .glo "Line") rfl)) (He.cls_ok (f 4 (z := .cls "Line") rfl)) nf_0
    c_1 := cl_ok (He.glo_ok X G (f 6 (z := .glo "Cord") rfl)) (He.cls_ok (f 7 (z := .cls "Cord") rfl)) nf_1
    c_2 := cl_ok (He.glo_ok X G (f 9 (z := .glo "Board") rfl)) (He.cls_ok (f 10 (z := .cls "Board") rfl)) nf_2
    d__law_cell := by
      obtain ⟨fd, F⟩ := c.t.d.def_ 0
      exact ⟨_, fd, F, He.glo_ok X G (f 0 (z := .glo "_law_cell") rfl)⟩
    d__law_drawn := by
      obtain ⟨fd, F⟩ := c.t.d.def_ 1
      exact ⟨_, fd, F, He.glo_ok X G (f 1 (z := .glo "_law_drawn") rfl)⟩
    d_is_count := by
      obtain ⟨fd, F⟩ := c.t.d.def_ 2
      exact ⟨_, fd, F, He.glo_ok X G (f 2 (z := .glo "is_count") rfl)⟩
    d_Line___init__ := by
      obtain ⟨fd, F⟩ := c.t.d.def_ 3
      exact ⟨_, _, fd, He.glo_ok X G (f 3 (z := .glo "Line") rfl), He.mkr_ok (f 5 (z := .mkr "Line") rfl), F⟩
    d_Cord___init__ := by
      obtain ⟨fd, F⟩ := c.t.d.def_ 4
      exact ⟨_, _, fd, He.glo_ok X G (f 6 (z := .glo "Cord") rfl), He.mkr_ok (f 8 (z := .mkr "Cord") rfl), F⟩
    d_Board___init__ := by
      obtain ⟨fd, F⟩ := c.t.d.def_ 5
      exact ⟨_, _, fd, He.glo_ok X G (f 9 (z := .glo "Board") rfl), He.mkr_ok (f 11 (z := .mkr "Board") rfl), F⟩
    d_Board_need_line := by
      obtain ⟨fd, F⟩ := c.t.d.def_ 6
      exact ⟨_, _, fd, He.glo_ok X G (f 9 (z := .glo "Board") rfl), He.cls_ok (f 10 (z := .cls "Board") rfl), He.meth_ok (f 12 (z := .meth "Board" "need_line") rfl), F⟩
    d_need_truth := by
      obtain ⟨fd, F⟩ := c.t.d.def_ 7
      exact ⟨_, fd, F, He.glo_ok X G (f 13 (z := .glo "need_truth") rfl)⟩
    d_Line_twin := by
      obtain ⟨fd, F⟩ := c.t.d.def_ 8
      exact ⟨_, _, fd, He.glo_ok X G (f 3 (z := .glo "Line") rfl), He.cls_ok (f 4 (z := .cls "Line") rfl), He.meth_ok (f 14 (z := .meth "Line" "twin") rfl), F⟩
    d_Cord_twin := by
      obtain ⟨fd, F⟩ := c.t.d.def_ 9
      exact ⟨_, _, fd, He.glo_ok X G (f 6 (z := .glo "Cord") rfl), He.cls_ok (f 7 (z := .cls "Cord") rfl), He.meth_ok (f 15 (z := .meth "Cord" "twin") rfl), F⟩
    d_Board_keep := by
      obtain ⟨fd, F⟩ := c.t.d.def_ 10
      exact ⟨_, _, fd, He.glo_ok X G (f 9 (z := .glo "Board") rfl), He.cls_ok (f 10 (z := .cls "Board") rfl), He.meth_ok (f 16 (z := .meth "Board" "keep") rfl), F⟩
    d_Line_hook := by
      obtain ⟨fd, F⟩ := c.t.d.def_ 11
      exact ⟨_, _, fd, He.glo_ok X G (f 3 (z := .glo "Line") rfl), He.cls_ok (f 4 (z := .cls "Line") rfl), He.meth_ok (f 17 (z := .meth "Line" "hook") rfl), F⟩
    d_Board_look := by
      obtain ⟨fd, F⟩ := c.t.d.def_ 12
      exact ⟨_, _, fd, He.glo_ok X G (f 9 (z := .glo "Board") rfl), He.cls_ok (f 10 (z := .cls "Board") rfl), He.meth_ok (f 18 (z := .meth "Board" "look") rfl), F⟩
    d_Board_hook := by
      obtain ⟨fd, F⟩ := c.t.d.def_ 13
      exact ⟨_, _, fd, He.glo_ok X G (f 9 (z := .glo "Board") rfl), He.cls_ok (f 10 (z := .cls "Board") rfl), He.meth_ok (f 19 (z := .meth "Board" "hook") rfl), F⟩
    d_Board_need_cord := by
      obtain ⟨fd, F⟩ := c.t.d.def_ 14
      exact ⟨_, _, fd, He.glo_ok X G (f 9 (z := .glo "Board") rfl), He.cls_ok (f 10 (z := .cls "Board") rfl), He.meth_ok (f 20 (z := .meth "Board" "need_cord") rfl), F⟩
    d_Board_need_end := by
      obtain ⟨fd, F⟩ := c.t.d.def_ 15
      exact ⟨_, _, fd, He.glo_ok X G (f 9 (z := .glo "Board") rfl), He.cls_ok (f 10 (z := .cls "Board") rfl), He.meth_ok (f 21 (z := .meth "Board" "need_end") rfl), F⟩
    d_Board_holder := by
      obtain ⟨fd, F⟩ := c.t.d.def_ 16
      exact ⟨_, _, fd, He.glo_ok X G (f 9 (z := .glo "Board") rfl), He.cls_ok (f 10 (z := .cls "Board") rfl), He.meth_ok (f 22 (z := .meth "Board" "holder") rfl), F⟩
    d_Board_plug := by
      obtain ⟨fd, F⟩ := c.t.d.def_ 17
      exact ⟨_, _, fd, He.glo_ok X G (f 9 (z := .glo "Board") rfl), He.cls_ok (f 10 (z := .cls "Board") rfl), He.meth_ok (f 23 (z := .meth "Board" "plug") rfl), F⟩
    d_Board_tick := by
      obtain ⟨fd, F⟩ := c.t.d.def_ 18
      exact ⟨_, _, fd, He.glo_ok X G (f 9 (z := .glo "Board") rfl), He.cls_ok (f 10 (z := .cls "Board") rfl), He.meth_ok (f 24 (z := .meth "Board" "tick") rfl), F⟩
    d_Board_listen := by
      obtain ⟨fd, F⟩ := c.t.d.def_ 19
      exact ⟨_, _, fd, He.glo_ok X G (f 9 (z := .glo "Board") rfl), He.cls_ok (f 10 (z := .cls "Board") rfl), He.meth_ok (f 25 (z := .meth "Board" "listen") rfl), F⟩
    d_Board_line_lamps := by
      obtain ⟨fd, F⟩ := c.t.d.def_ 20
      exact ⟨_, _, fd, He.glo_ok X G (f 9 (z := .glo "Board") rfl), He.cls_ok (f 10 (z := .cls "Board") rfl), He.meth_ok (f 26 (z := .meth "Board" "line_lamps") rfl), F⟩
    d_Board_lamp := by
      obtain ⟨fd, F⟩ := c.t.d.def_ 21
      exact ⟨_, _, fd, He.glo_ok X G (f 9 (z := .glo "Board") rfl), He.cls_ok (f 10 (z := .cls "Board") rfl), He.meth_ok (f 27 (z := .meth "Board" "lamp") rfl), F⟩
    d_Board_cord_lamps := by
      obtain ⟨fd, F⟩ := c.t.d.def_ 22
      exact ⟨_, _, fd, He.glo_ok X G (f 9 (z := .glo "Board") rfl), He.cls_ok (f 10 (z := .cls "Board") rfl), He.meth_ok (f 28 (z := .meth "Board" "cord_lamps") rfl), F⟩
    d_Board_plugs := by
      obtain ⟨fd, F⟩ := c.t.d.def_ 23
      exact ⟨_, _, fd, He.glo_ok X G (f 9 (z := .glo "Board") rfl), He.cls_ok (f 10 (z := .cls "Board") rfl), He.meth_ok (f 29 (z := .meth "Board" "plugs") rfl), F⟩
    d_Board_talks := by
      obtain ⟨fd, F⟩ := c.t.d.def_ 24
      exact ⟨_, _, fd, He.glo_ok X G (f 9 (z := .glo "Board") rfl), He.cls_ok (f 10 (z := .cls "Board") rfl), He.meth_ok (f 30 (z := .meth "Board" "talks") rfl), F⟩
    d_Board_hears := by
      obtain ⟨fd, F⟩ := c.t.d.def_ 25
      exact ⟨_, _, fd, He.glo_ok X G (f 9 (z := .glo "Board") rfl), He.cls_ok (f 10 (z := .cls "Board") rfl), He.meth_ok (f 31 (z := .meth "Board" "hears") rfl), F⟩
    d_Board_calls := by
      obtain ⟨fd, F⟩ := c.t.d.def_ 26
      exact ⟨_, _, fd, He.glo_ok X G (f 9 (z := .glo "Board") rfl), He.cls_ok (f 10 (z := .cls "Board") rfl), He.meth_ok (f 32 (z := .meth "Board" "calls") rfl), F⟩
    d_is_row := by
      obtain ⟨fd, F⟩ := c.t.d.def_ 27
      exact ⟨_, fd, F, He.glo_ok X G (f 33 (z := .glo "is_row") rfl)⟩
    d_known := by
      obtain ⟨fd, F⟩ := c.t.d.def_ 28
      exact ⟨_, fd, F, He.glo_ok X G (f 34 (z := .glo "known") rfl)⟩
    d_is_call := by
      obtain ⟨fd, F⟩ := c.t.d.def_ 29
      exact ⟨_, fd, F, He.glo_ok X G (f 35 (z := .glo "is_call") rfl)⟩
    d_need_calls := by
      obtain ⟨fd, F⟩ := c.t.d.def_ 30
      exact ⟨_, fd, F, He.glo_ok X G (f 36 (z := .glo "need_calls") rfl)⟩
    d_led := by
      obtain ⟨fd, F⟩ := c.t.d.def_ 31
      exact ⟨_, fd, F, He.glo_ok X G (f 37 (z := .glo "led") rfl), lamF c hm hT (p := (("led", none), "led.<locals>.<lambda>")) (List.mem_of_getElem? (i := 0) rfl) F⟩
    d_carried := by
      obtain ⟨fd, F⟩ := c.t.d.def_ 32
      exact ⟨_, fd, F, He.glo_ok X G (f 38 (z := .glo "carried") rfl)⟩
    d_is_part := by
      obtain ⟨fd, F⟩ := c.t.d.def_ 33
      exact ⟨_, fd, F, He.glo_ok X G (f 39 (z := .glo "is_part") rfl)⟩
    d_is_deed := by
      obtain ⟨fd, F⟩ := c.t.d.def_ 34
      exact ⟨_, fd, F, He.glo_ok X G (f 40 (z := .glo "is_deed") rfl)⟩
    d_part_text := by
      obtain ⟨fd, F⟩ := c.t.d.def_ 35
      exact ⟨_, fd, F, He.glo_ok X G (f 41 (z := .glo "part_text") rfl)⟩
    d_deed_text := by
      obtain ⟨fd, F⟩ := c.t.d.def_ 36
      exact ⟨_, fd, F, He.glo_ok X G (f 42 (z := .glo "deed_text") rfl)⟩
    d_written := by
      obtain ⟨fd, F⟩ := c.t.d.def_ 37
      exact ⟨_, fd, F, He.glo_ok X G (f 43 (z := .glo "written") rfl)⟩
    d_part_in := by
      obtain ⟨fd, F⟩ := c.t.d.def_ 38
      exact ⟨_, fd, F, He.glo_ok X G (f 44 (z := .glo "part_in") rfl)⟩
    d_read := by
      obtain ⟨fd, F⟩ := c.t.d.def_ 39
      exact ⟨_, fd, F, He.glo_ok X G (f 45 (z := .glo "read") rfl)⟩
    d_greatest := by
      obtain ⟨fd, F⟩ := c.t.d.def_ 40
      exact ⟨_, fd, F, He.glo_ok X G (f 46 (z := .glo "greatest") rfl)⟩
    d_fewest := by
      obtain ⟨fd, F⟩ := c.t.d.def_ 41
      exact ⟨_, fd, F, He.glo_ok X G (f 47 (z := .glo "fewest") rfl)⟩
    d_Board_pull := by
      obtain ⟨fd, F⟩ := c.t.d.def_ 42
      exact ⟨_, _, fd, He.glo_ok X G (f 9 (z := .glo "Board") rfl), He.cls_ok (f 10 (z := .cls "Board") rfl), He.meth_ok (f 48 (z := .meth "Board" "pull") rfl), F⟩
    d_Board_ring := by
      obtain ⟨fd, F⟩ := c.t.d.def_ 43
      exact ⟨_, _, fd, He.glo_ok X G (f 9 (z := .glo "Board") rfl), He.cls_ok (f 10 (z := .cls "Board") rfl), He.meth_ok (f 49 (z := .meth "Board" "ring") rfl), F⟩
    d_Board_undo := by
      obtain ⟨fd, F⟩ := c.t.d.def_ 44
      exact ⟨_, _, fd, He.glo_ok X G (f 9 (z := .glo "Board") rfl), He.cls_ok (f 10 (z := .cls "Board") rfl), He.meth_ok (f 50 (z := .meth "Board" "undo") rfl), F⟩
    d_do_deed := by
      obtain ⟨fd, F⟩ := c.t.d.def_ 45
      exact ⟨_, fd, F, He.glo_ok X G (f 51 (z := .glo "do_deed") rfl)⟩
    d_played := by
      obtain ⟨fd, F⟩ := c.t.d.def_ 46
      exact ⟨_, fd, F, He.glo_ok X G (f 52 (z := .glo "played") rfl)⟩
    d__law_copy := by
      obtain ⟨fd, F⟩ := c.t.d.def_ 47
      exact ⟨_, fd, F, He.glo_ok X G (f 53 (z := .glo "_law_copy") rfl)⟩
    d__law_spoil := by
      obtain ⟨fd, F⟩ := c.t.d.def_ 48
      exact ⟨_, fd, F, He.glo_ok X G (f 54 (z := .glo "_law_spoil") rfl)⟩
    d__law_again := by
      obtain ⟨fd, F⟩ := c.t.d.def_ 49
      exact ⟨_, fd, F, He.glo_ok X G (f 55 (z := .glo "_law_again") rfl)⟩
    d_law := by
      obtain ⟨fd, F⟩ := c.t.d.def_ 50
      exact ⟨_, fd, F, He.glo_ok X G (f 56 (z := .glo "law") rfl), lamF c hm hT (p := (("law", none), "law.<locals>.<lambda>")) (List.mem_of_getElem? (i := 1) rfl) F⟩
  }
end GK
namespace GK
open PySem PySem.Spec PyProof.Rows L2 DL HotX L2H
theorem nd_of {w : World} {h : Heap} {K : PySem.W.Frag} (c : He.SaysX fa fn ts (tf.map (·.1)) exb w h K) : tabND K tf = true := by
  have hm := c.more
  unfold exb at hm
  obtain ⟨_, hm⟩ := He.ba hm
  obtain ⟨_, hm⟩ := He.ba hm
  obtain ⟨_, hm⟩ := He.ba hm
  obtain ⟨_, hm⟩ := He.ba hm
  obtain ⟨_, hm⟩ := He.ba hm
  exact hm
end GK

set_option Elab.async false
set_option linter.all false
set_option maxRecDepth 100000
set_option maxHeartbeats 0
open PySem PySem.W PySem.Calls PyProof.Rows
theorem PySem.Challenge.cw_cordboard_k90_again_and_shared_holds : PySem.Challenge.rw_cordboard_k90_again_and_shared.Holds := by
  w_on; o_law
  refine HandSHeadRun.head_any (r := OpenLaw.row PySem.Challenge.rw_cordboard_k90_again_and_shared) (q := view (OpenLaw.row PySem.Challenge.rw_cordboard_k90_again_and_shared).prog [56]) (H := GK.hk) (ob := GK.ob) (M := 6000) (loose := GK.names) (d := HandSHeadRun.topDef (OpenLaw.row PySem.Challenge.rw_cordboard_k90_again_and_shared).prog 56) (kwd := []) GK.ob_eq
    (by kernel_rfl) (fun s => by kernel_rfl) GK.run (by kernel_rfl) (by kernel_rfl) (by kernel_rfl) (by rfl) (by first | assumption | decide +kernel) (by decide +kernel) ⟨rfl, rfl, rfl, rfl, rfl, by decide +kernel⟩ ?hw ?hc
  case hw => w_witness2
  case hc =>
    refine LamX.walk_ofTsE (l := PySem.Challenge.rw_cordboard_k90_again_and_shared) (n := 63) (k := 10) (x := "script") (CX := fun w => L2N.CX PySem.Challenge.rw_cordboard_k90_again_and_shared.prog w) rfl (by decide) (by kernel_rfl) ⟨rfl, by decide, by decide⟩ ?F (fun w H s e s2 z => DL.noCX H s e s2 z)
    intro w mg fa h Y G hmg0
    obtain ⟨K, KX, c⟩ := Y
    have hmg : mg ("law" : PySem.Str) = some (.ref fa) := by
      have e : (HandSHeadRun.topDef (OpenLaw.row PySem.Challenge.rw_cordboard_k90_again_and_shared).prog 56).name = ("law" : PySem.Str) := by kernel_rfl
      rw [← e]
      exact hmg0
    have eg := hmg.symm.trans (He.glo_ok KX G (c.t.d.fact 56 (f := .glo "law") rfl))
    cases eg
    obtain ⟨fd, F⟩ := c.t.d.def_ 50
    have b := L2.FunD.bindsA (ps := ["script"]) F fun _ _ _ _ _ _ us hl => match us, hl with | [_], _ => rfl
    refine ⟨K, KX, fd, GK.tf.map (fun p => He.cT K p.1), DL.SpOf ⟨K, mg, .of (DL.tabL K GK.tf)⟩ 1 GK.F_law, ?_, ?_, ?_, fun s v => b s [v] rfl, ?_, ?_⟩
    · intro p hp
      obtain ⟨q, hq, rfl⟩ := List.mem_map.mp hp
      exact c.empty q.1 (List.mem_map.mpr ⟨q, hq, rfl⟩)
    · intro p hp
      obtain ⟨q, hq, rfl⟩ := List.mem_map.mp hp
      exact c.out q.1 (List.mem_map.mpr ⟨q, hq, rfl⟩)
    · intro p hp
      obtain ⟨q, hq, rfl⟩ := List.mem_map.mp hp
      exact PySem.W.codeHd_of_K KX (c.hd q.1 (List.mem_map.mpr ⟨q, hq, rfl⟩))
    · intro H a ns h1 h2 h3 h4
      refine DL.law_sp GK.law_true H a ns h1 h2 (fun p hp => ?_) h4
      obtain ⟨q, hq, rfl⟩ := List.mem_map.mp hp
      exact h3 _ (List.mem_map.mpr ⟨q, hq, rfl⟩)
    · intro base _ _ hT
      exact GK.ok_law ⟨_, rfl⟩ (GK.facts KX G c hT) F (GK.lamF c (GK.nd_of c) hT (p := (("law", none), "law.<locals>.<lambda>")) (List.mem_of_getElem? (i := 1) rfl) F)
