import PyProof.Rows.All
import Wide.All
import OpenK.AllK
import Wide.FinOn
import HandS.Base
import HandS.Call
import HandS.List
import HandS.Comp
import HandS.Dict
import HandS.Iter
import HandS.Words
import HandS.Deep
import HandS.TupAny
import HandS.IsInst
import HandS.TupMul
import HandS.Zip
import KE.GoesEnum
import KE.GoesMore
import KE.KDictZip
import KE.KItemsList
import HandS.DictComp
import HandS.Ends
import HandS.Defaults
import KE.KStateDown
import Lean
import HandS.More
import HandS.WordsExc
import HandS.Head0
import HandS.Head1
import HandS.Head2
import HandS.HeadEnd
import HandS.HeadHook1
import HandS.HeadHook2
import PySem.Challenge.RW_exactkinds_k51_papers_of_wrong_values
set_option Elab.async false
set_option linter.all false
set_option maxRecDepth 100000
set_option maxHeartbeats 0
/-! Px0: data D, how an abstract heap bears it, steps between snapshots. -/
namespace Px
open PySem L2

/-- a datum: nested tuples, lists, dicts as values; hdl n: the n-th shared object of the store; scr: the script -/
inductive D where
  | non | bl (b : Bool) | int (i : Int) | str (x : Str)
  | tup (ds : List D) | lst (ds : List D) | dic (ks : List Key) (ds : List D) | hdl (n : Nat) | scr (ns : List Int)

/-- the script may be an object of the module: at a, with these ints -/
class KS where
  at' : Addr → List Int → Prop
variable [KS]
/-- a dict's pairs: not too many, the keys' texts are texts -/
def okK : Key → Prop
  | .inl _ => True
  | .inr x => PyData.strOk x = true ∧ x.length ≤ sizeLine
def DOk (kws : List (Key × V)) : Prop := kws.length ≤ sizeLine ∧ ∀ k ∈ kws.map (·.1), okK k
mutual
inductive Rp (Z : Addr → Prop) (A : List Addr) (H : Hp) : D → V → Prop
  | non : Rp Z A H .non .non
  | bl (b : Bool) : Rp Z A H (.bl b) (.bl b)
  | int (i : Int) : Rp Z A H (.int i) (.int i)
  | str {x : Str} : PyData.strOk x = true → x.length ≤ sizeLine → Rp Z A H (.str x) (.str x)
  | tup {a : Addr} {vs : List V} {ds : List D} : ¬ Z a → H a = some (.tup vs) → vs.length ≤ sizeLine → Rps Z A H ds vs → Rp Z A H (.tup ds) (.ref a)
  | lst {a : Addr} {vs : List V} {ds : List D} : ¬ Z a → H a = some (.lst vs) → vs.length ≤ sizeLine → Rps Z A H ds vs → Rp Z A H (.lst ds) (.ref a)
  | dic {a : Addr} {o : Obj} {kws : List (Key × V)} {ks : List Key} {ds : List D} : ¬ Z a → H a = some (.frz o (.dK kws)) → ks = kws.map (·.1) → DOk kws → Rps Z A H ds (kws.map (·.2)) → Rp Z A H (.dic ks ds) (.ref a)
  | hdl {n : Nat} {a : Addr} : A[n]? = some a → Rp Z A H (.hdl n) (.ref a)
  | scr {a : Addr} {ns : List Int} : ((∃ o : Obj, ¬ Z a ∧ H a = some (.frz o (.lst (ns.map V.int)))) ∨ KS.at' a ns) → Rp Z A H (.scr ns) (.ref a)
inductive Rps (Z : Addr → Prop) (A : List Addr) (H : Hp) : List D → List V → Prop
  | nil : Rps Z A H [] []
  | cons {d : D} {v : V} {ds : List D} {vs : List V} : Rp Z A H d v → Rps Z A H ds vs → Rps Z A H (d :: ds) (v :: vs)
end

section
variable {Z Z' : Addr → Prop} {A A' : List Addr} {H H' : Hp}
mutual
theorem Rp.mono (k : ∀ a o, H a = some o → ¬ Z a → H' a = some o ∧ ¬ Z' a) (hA : ∀ (n : Nat) (a : Addr), A[n]? = some a → A'[n]? = some a) : ∀ {d : D} {v : V}, Rp Z A H d v → Rp Z' A' H' d v
  | _, _, .non => .non
  | _, _, .bl b => .bl b
  | _, _, .int i => .int i
  | _, _, .str h1 h2 => .str h1 h2
  | _, _, .tup h1 h2 hl h3 => .tup (k _ _ h2 h1).2 (k _ _ h2 h1).1 hl (Rps.mono k hA h3)
  | _, _, .lst h1 h2 hl h3 => .lst (k _ _ h2 h1).2 (k _ _ h2 h1).1 hl (Rps.mono k hA h3)
  | _, _, .dic h1 h2 h3 hl h4 => .dic (k _ _ h2 h1).2 (k _ _ h2 h1).1 h3 hl (Rps.mono k hA h4)
  | _, _, .hdl h => .hdl (hA _ _ h)
  | _, _, .scr h => .scr (h.imp (fun ⟨o, z, e⟩ => ⟨o, (k _ _ e z).2, (k _ _ e z).1⟩) id)
theorem Rps.mono (k : ∀ a o, H a = some o → ¬ Z a → H' a = some o ∧ ¬ Z' a) (hA : ∀ (n : Nat) (a : Addr), A[n]? = some a → A'[n]? = some a) : ∀ {ds : List D} {vs : List V}, Rps Z A H ds vs → Rps Z' A' H' ds vs
  | _, _, .nil => .nil
  | _, _, .cons h t => .cons (Rp.mono k hA h) (Rps.mono k hA t)
end
theorem Rps.length : ∀ {ds : List D} {vs : List V}, Rps Z A H ds vs → ds.length = vs.length
  | _, _, .nil => rfl
  | _, _, .cons _ t => congrArg Nat.succ (Rps.length t)
theorem Rps.get : ∀ {ds : List D} {vs : List V} {i : Nat} {d : D}, Rps Z A H ds vs → ds[i]? = some d → ∃ v, vs[i]? = some v ∧ Rp Z A H d v
  | _, _, _, _, .nil, e => by simp at e
  | _, _, 0, _, .cons r _, e => by simp at e; subst e; exact ⟨_, rfl, r⟩
  | _, _, i + 1, d, .cons _ t, e => by
    obtain ⟨v, h1, h2⟩ := Rps.get (i := i) (d := d) t (by simpa using e)
    exact ⟨v, by simpa using h1, h2⟩
theorem Rps.getV {ds : List D} {vs : List V} {i : Nat} {v : V} (h : Rps Z A H ds vs) (e : vs[i]? = some v) : ∃ d, ds[i]? = some d ∧ Rp Z A H d v := by
  obtain ⟨hi, _⟩ := List.getElem?_eq_some_iff.mp e
  have hl := h.length
  have hd : ds[i]? = some ds[i] := List.getElem?_eq_getElem (by omega)
  obtain ⟨v', e', r⟩ := h.get hd
  rw [e] at e'
  cases e'
  exact ⟨_, hd, r⟩
theorem Rps.append : ∀ {ds es : List D} {vs ws : List V}, Rps Z A H ds vs → Rps Z A H es ws → Rps Z A H (ds ++ es) (vs ++ ws)
  | _, _, _, _, .nil, s => s
  | _, _, _, _, .cons r t, s => .cons r (Rps.append t s)
theorem Rps.take : ∀ {ds : List D} {vs : List V} (n : Nat), Rps Z A H ds vs → Rps Z A H (ds.take n) (vs.take n)
  | _, _, 0, _ => .nil
  | _, _, _ + 1, .nil => .nil
  | _, _, n + 1, .cons r t => .cons r (Rps.take n t)
theorem Rps.drop : ∀ {ds : List D} {vs : List V} (n : Nat), Rps Z A H ds vs → Rps Z A H (ds.drop n) (vs.drop n)
  | _, _, 0, r => r
  | _, _, _ + 1, .nil => .nil
  | _, _, n + 1, .cons _ t => Rps.drop n t
theorem Rps.set {x : D} {v : V} (r : Rp Z A H x v) : ∀ {ds : List D} {vs : List V} (i : Nat), Rps Z A H ds vs → Rps Z A H (ds.set i x) (vs.set i v)
  | _, _, _, .nil => .nil
  | _, _, 0, .cons _ t => .cons r t
  | _, _, i + 1, .cons q t => .cons q (Rps.set r i t)
theorem Rps.erase : ∀ {ds : List D} {vs : List V} (i : Nat), Rps Z A H ds vs → Rps Z A H (ds.eraseIdx i) (vs.eraseIdx i)
  | _, _, _, .nil => .nil
  | _, _, 0, .cons _ t => t
  | _, _, i + 1, .cons q t => .cons q (Rps.erase i t)
theorem Rps.dropLast {ds : List D} {vs : List V} (h : Rps Z A H ds vs) : Rps Z A H ds.dropLast vs.dropLast := by
  rw [List.dropLast_eq_take, List.dropLast_eq_take, h.length]
  exact h.take _
theorem Rps.one {d : D} {v : V} (h : Rp Z A H d v) : Rps Z A H [d] [v] := .cons h .nil
theorem Rps.reverse : ∀ {ds : List D} {vs : List V}, Rps Z A H ds vs → Rps Z A H ds.reverse vs.reverse
  | _, _, .nil => .nil
  | _, _, .cons r t => by
    rw [List.reverse_cons, List.reverse_cons]
    exact (Rps.reverse t).append (.one r)
end

/-! ### what a def's run bears -/
/-- a shared object's content -/
inductive Ob where
  | lst (ds : List D) | dic (kvs : List (Key × D))
abbrev Sto := List Ob
/-- a name's content: nothing known, a datum, or a list or dict that nobody else has -/
inductive Sl where
  | no | val (d : D) | own (b : Ob)
structure ES where
  r : List Sl
  st : Sto
def ObH (Z : Addr → Prop) (A : List Addr) (H : Hp) (a : Addr) : Ob → Prop
  | .lst ds => ∃ vs, H a = some (.lst vs) ∧ vs.length ≤ sizeLine ∧ Rps Z A H ds vs
  | .dic kvs => ∃ kws : List (Key × V), H a = some (.dK kws) ∧ kws.map (·.1) = kvs.map (·.1) ∧ DOk kws ∧ Rps Z A H (kvs.map (·.2)) (kws.map (·.2))
def SlR (Z : Addr → Prop) (A : List Addr) (H : Hp) (s : Sl) (x : Option V) : Prop :=
  match s with
  | .no => True
  | .val d => ∃ v, x = some v ∧ Rp Z A H d v
  | .own b => ∃ a, x = some (.ref a) ∧ Z a ∧ ObH Z A H a b
def isOwn : Sl → Bool
  | .own _ => true
  | _ => false
/-- the addresses that the frame's names own -/
def Own (r : List Sl) (σ : St) (a : Addr) : Prop := ∃ (i : Nat) (s : Sl), r[i]? = some s ∧ isOwn s = true ∧ σ[i]? = some (some (.ref a))

/-- a snapshot: what may be written, what no datum reaches, the shared objects' addresses, the heap -/
structure Sn where
  W : Addr → Prop
  Z : Addr → Prop
  A : List Addr
  H : Hp
structure Step (s t : Sn) : Prop where
  keep : ∀ a o, s.H a = some o → ¬ s.W a → t.H a = some o ∧ (t.Z a ↔ s.Z a)
  pre : ∃ more, t.A = s.A ++ more
  nw : ∀ a, t.W a → s.W a ∨ s.H a = none
  liv : ∀ a, s.H a ≠ none → t.H a ≠ none
theorem Step.refl (s : Sn) : Step s s := ⟨fun _ _ h _ => ⟨h, Iff.rfl⟩, ⟨[], by simp⟩, fun _ h => .inl h, fun _ h => h⟩
theorem Step.was {s t : Sn} (h : Step s t) {a : Addr} (e : t.H a = none) : s.H a = none := by
  cases q : s.H a with
  | none => rfl
  | some o => exact absurd e (h.liv a (by rw [q]; exact nofun))
theorem Step.trans {s t u : Sn} (a : Step s t) (b : Step t u) : Step s u := by
  refine ⟨fun x o h n => ?_, ?_, fun x h => ?_, fun x h => b.liv x (a.liv x h)⟩
  · obtain ⟨h1, z1⟩ := a.keep x o h n
    have n1 : ¬ t.W x := fun w => by
      rcases a.nw x w with w | w
      · exact n w
      · rw [h] at w; cases w
    obtain ⟨h2, z2⟩ := b.keep x o h1 n1
    exact ⟨h2, z2.trans z1⟩
  · obtain ⟨m1, e1⟩ := a.pre
    obtain ⟨m2, e2⟩ := b.pre
    exact ⟨m1 ++ m2, by rw [e2, e1, List.append_assoc]⟩
  · rcases b.nw x h with w | w
    · exact a.nw x w
    · by_cases n : s.W x
      · exact .inl n
      · right
        cases q : s.H x with
        | none => rfl
        | some o => rw [(a.keep x o q n).1] at w; cases w
theorem Step.get {s t : Sn} (h : Step s t) : ∀ (n : Nat) (a : Addr), s.A[n]? = some a → t.A[n]? = some a := fun n a e => by
  obtain ⟨m, q⟩ := h.pre
  rw [q, List.getElem?_append_left (List.getElem?_eq_some_iff.mp e).1]
  exact e
/-- data stay -/
theorem Rp.step {s t : Sn} {d : D} {v : V} (h : Step s t) (wz : ∀ a, s.W a → s.Z a) (r : Rp s.Z s.A s.H d v) : Rp t.Z t.A t.H d v :=
  r.mono (fun a o e n => let ⟨h1, h2⟩ := h.keep a o e (fun w => n (wz a w)); ⟨h1, fun z => n (h2.mp z)⟩) h.get
theorem Rps.step {s t : Sn} {ds : List D} {vs : List V} (h : Step s t) (wz : ∀ a, s.W a → s.Z a) (r : Rps s.Z s.A s.H ds vs) : Rps t.Z t.A t.H ds vs :=
  r.mono (fun a o e n => let ⟨h1, h2⟩ := h.keep a o e (fun w => n (wz a w)); ⟨h1, fun z => n (h2.mp z)⟩) h.get
theorem ObH.mono {Z Z' : Addr → Prop} {A A' : List Addr} {H H' : Hp} {a : Addr} {b : Ob} (k : ∀ a o, H a = some o → ¬ Z a → H' a = some o ∧ ¬ Z' a) (hA : ∀ (n : Nat) (a : Addr), A[n]? = some a → A'[n]? = some a) (e : H' a = H a) (h : ObH Z A H a b) : ObH Z' A' H' a b := by
  cases b with
  | lst ds => obtain ⟨vs, h1, hl, h2⟩ := h; exact ⟨vs, e.trans h1, hl, h2.mono k hA⟩
  | dic kvs => obtain ⟨kws, h1, h2, hl, h3⟩ := h; exact ⟨kws, e.trans h1, h2, hl, h3.mono k hA⟩

/-! ### the relation -/
/-- the store -/
structure Srl (Z : Addr → Prop) (A : List Addr) (st : Sto) (H : Hp) : Prop where
  len : A.length = st.length
  nod : A.Nodup
  trk : ∀ a ∈ A, H a ≠ none
  ob : ∀ (n : Nat) (b : Ob) (a : Addr), st[n]? = some b → A[n]? = some a → Z a ∧ ObH Z A H a b
/-- a snapshot of a run -/
abbrev sn (e : ES) (Z : Addr → Prop) (A : List Addr) (σ : St) (H : Hp) : Sn := ⟨fun a => a ∈ A ∨ Own e.r σ a, Z, A, H⟩
abbrev snR (Z : Addr → Prop) (A : List Addr) (H : Hp) : Sn := ⟨fun a => a ∈ A, Z, A, H⟩
structure Rl (En : Sn) (e : ES) (Z : Addr → Prop) (A : List Addr) (σ : St) (H : Hp) : Prop where
  ent : Step En (sn e Z A σ H)
  slen : e.r.length = σ.length
  slot : ∀ (i : Nat) (s : Sl), e.r[i]? = some s → ∃ x, σ[i]? = some x ∧ SlR Z A H s x
  inj : ∀ (i j : Nat) (s t : Sl) (a : Addr), e.r[i]? = some s → isOwn s = true → e.r[j]? = some t → isOwn t = true → σ[i]? = some (some (.ref a)) → σ[j]? = some (some (.ref a)) → i = j
  sep : ∀ a, Own e.r σ a → a ∉ A
  sto : Srl Z A e.st H
  zt : ∀ a, Z a → H a ≠ none
  ew : ∀ a, En.W a → a ∈ En.A
section
variable {En : Sn} {e : ES} {Z : Addr → Prop} {A : List Addr} {σ : St} {H : Hp}
theorem Srl.liv {st : Sto} (s : Srl Z A st H) {a : Addr} (h : a ∈ A) : Z a ∧ H a ≠ none := by
  obtain ⟨n, hn⟩ := List.mem_iff_getElem?.mp h
  have hl := (List.getElem?_eq_some_iff.mp hn).1
  rw [s.len] at hl
  exact ⟨(s.ob n st[n] a (List.getElem?_eq_getElem hl) hn).1, s.trk a h⟩
theorem ObH.there {a : Addr} {b : Ob} (h : ObH Z A H a b) : H a ≠ none := by
  cases b with
  | lst ds => obtain ⟨vs, h1, _⟩ := h; rw [h1]; exact nofun
  | dic kvs => obtain ⟨kws, h1, _⟩ := h; rw [h1]; exact nofun
theorem Rl.own (R : Rl En e Z A σ H) {a : Addr} (h : Own e.r σ a) : Z a ∧ H a ≠ none := by
  obtain ⟨i, s, h1, h2, h3⟩ := h
  obtain ⟨x, e1, r⟩ := R.slot i s h1
  rw [h3] at e1
  cases e1
  cases s with
  | own b =>
    obtain ⟨c, e2, z, ob⟩ := r
    cases e2
    exact ⟨z, ob.there⟩
  | no => cases h2
  | val d => cases h2
theorem Rl.wz (R : Rl En e Z A σ H) : ∀ a, (sn e Z A σ H).W a → Z a := fun a h => by
  rcases h with h | h
  · exact (R.sto.liv h).1
  · exact (R.own h).1
theorem Rl.wt (R : Rl En e Z A σ H) : ∀ a, (sn e Z A σ H).W a → H a ≠ none := fun a h => by
  rcases h with h | h
  · exact (R.sto.liv h).2
  · exact (R.own h).2
/-- a datum at a name -/
theorem Rl.val (R : Rl En e Z A σ H) {i : Nat} {d : D} (h : e.r[i]? = some (.val d)) : ∃ v, σ[i]? = some (some v) ∧ Rp Z A H d v := by
  obtain ⟨x, e1, v, rfl, r⟩ := R.slot i _ h
  exact ⟨v, e1, r⟩
theorem Rl.ownAt (R : Rl En e Z A σ H) {i : Nat} {b : Ob} (h : e.r[i]? = some (.own b)) : ∃ a, σ[i]? = some (some (.ref a)) ∧ Z a ∧ ObH Z A H a b ∧ a ∉ A := by
  obtain ⟨x, e1, a, rfl, z, ob⟩ := R.slot i _ h
  exact ⟨a, e1, z, ob, R.sep a ⟨i, _, h, rfl, e1⟩⟩
end
end Px
/-! Px1: the small tree and its evaluator. -/
namespace Px
open PySem L2

/-! ### operations on data -/
mutual
def D.py : D → PyData
  | .non => .none
  | .bl b => .bool b
  | .int i => .int i
  | .str x => .str x
  | .tup ds => .tuple (D.pys ds)
  | .lst ds => .list (D.pys ds)
  | .dic _ _ => .none
  | .hdl _ => .none
  | .scr _ => .none
def D.pys : List D → List PyData
  | [] => []
  | d :: ds => D.py d :: D.pys ds
end
mutual
/-- no dict, no shared object within -/
def D.pok : D → Bool
  | .tup ds => D.poks ds
  | .lst ds => D.poks ds
  | .dic _ _ => false
  | .hdl _ => false
  | .scr _ => false
  | .non => true
  | .bl _ => true
  | .int _ => true
  | .str _ => true
def D.poks : List D → Bool
  | [] => true
  | d :: ds => D.pok d && D.poks ds
end
mutual
def D.dep : D → Nat
  | .tup ds => D.deps ds + 1
  | .lst ds => D.deps ds + 1
  | .dic _ _ => 0
  | .hdl _ => 0
  | .scr _ => 0
  | .non => 0
  | .bl _ => 0
  | .int _ => 0
  | .str _ => 0
def D.deps : List D → Nat
  | [] => 0
  | d :: ds => max (D.dep d) (D.deps ds)
end
/-- == -/
def eqD (d e : D) : Option Bool := if d.pok && e.pok && decide (min d.dep e.dep ≤ 150) then some (PyData.eqv d.py e.py) else none
def Ob.frz : Ob → D
  | .lst ds => .lst ds
  | .dic kvs => .dic (kvs.map (·.1)) (kvs.map (·.2))
/-- what is read at a datum: a shared object's content -/
def deref (st : Sto) : D → D
  | .hdl n => match st[n]? with
    | some b => b.frz
    | _ => .hdl n
  | d => d
def keyD : D → Option Key
  | .int i => some (.inl i)
  | .str x => some (.inr x)
  | _ => none
def dKey : Key → D
  | .inl i => .int i
  | .inr x => .str x
def look (ks : List Key) (ds : List D) (k : Key) : Option D := ((ks.zip ds).find? fun p => decide (p.1 = k)).map (·.2)
def putD (kvs : List (Key × D)) (k : Key) (d : D) : List (Key × D) :=
  if (kvs.any fun p => decide (p.1 = k)) then kvs.map fun p => if p.1 = k then (p.1, d) else p else kvs ++ [(k, d)]
def memD (d : D) (ds : List D) : Option Bool := if D.poks ds && d.pok && decide (min (D.deps ds) d.dep ≤ 150) then some (ds.any fun e => PyData.eqv e.py d.py) else none
/-- x in y -/
def inD (x y : D) : Option Bool := match y with
  | .lst ds => memD x ds
  | .tup ds => memD x ds
  | .dic ks _ => (keyD x).map fun k => ks.any fun q => decide (q = k)
  | .str z => match x with
    | .str c => some (!(Builtin.Str.occurrences z c 0 z.length 1).isEmpty)
    | _ => none
  | _ => none
def isNon : D → Bool
  | .non => true
  | _ => false
def cop (op : CmpOp) (x y : D) : Option Bool := match op with
  | .Eq => eqD x y
  | .NotEq => (eqD x y).map (!·)
  | .Lt => match x, y with
    | .int i, .int j => some (decide (i < j))
    | _, _ => none
  | .LtE => match x, y with
    | .int i, .int j => some (decide (i ≤ j))
    | _, _ => none
  | .Gt => match x, y with
    | .int i, .int j => some (decide (j < i))
    | _, _ => none
  | .GtE => match x, y with
    | .int i, .int j => some (decide (j ≤ i))
    | _, _ => none
  | .Is => match y with
    | .non => some (isNon x)
    | _ => none
  | .IsNot => match y with
    | .non => some (!isNon x)
    | _ => none
  | .In => inD x y
  | .NotIn => (inD x y).map (!·)
inductive BOp where
  | add | sub | mul | fdiv | mod
def bop (op : BOp) (x y : D) : Option D := match op with
  | .add => match x, y with
    | .int i, .int j => some (.int (i + j))
    | .str a, .str b => if a.length + b.length ≤ sizeLine then some (.str (a ++ b)) else none
    | .tup ds, .tup es => if ds.length + es.length ≤ sizeLine then some (.tup (ds ++ es)) else none
    | _, _ => none
  | .sub => match x, y with
    | .int i, .int j => some (.int (i - j))
    | _, _ => none
  | .mul => match x, y with
    | .int i, .int j => if (-(2 ^ 64) < i ∧ i < 2 ^ 64) ∨ (-(2 ^ 64) < j ∧ j < 2 ^ 64) then some (.int (i * j)) else none
    | .tup ds, .int k => if -(2 ^ 62) < k ∧ k ≤ 1 then some (.tup (if k = 1 then ds else [])) else none
    | _, _ => none
  | .fdiv => match x, y with
    | .int i, .int j => if 0 < j ∧ j < 1073741824 then some (.int (i / j)) else none
    | _, _ => none
  | .mod => match x, y with
    | .int i, .int j => if 0 < j then some (.int (i % j)) else none
    | _, _ => none
def tyName : D → String
  | .non => "NoneType"
  | .bl _ => "bool"
  | .int _ => "int"
  | .str _ => "str"
  | .tup _ => "tuple"
  | .lst _ => "list"
  | .dic _ _ => "dict"
  | .hdl _ => "?"
  | .scr _ => "list"
def isIn (d : D) (ty : String) : Option Bool := match d with
  | .hdl _ => none
  | .scr _ => none
  | d => some (tyName d == ty || (ty == "int" && tyName d == "bool"))
def tru : D → Option Bool
  | .non => some false
  | .bl b => some b
  | .int i => some (i != 0)
  | .str x => some (x.length != 0)
  | .tup ds => some (!ds.isEmpty)
  | .lst ds => some (!ds.isEmpty)
  | .dic ks _ => some (!ks.isEmpty)
  | _ => none
def lenD : D → Option Int
  | .str x => some x.length
  | .tup ds => some ds.length
  | .lst ds => some ds.length
  | .dic ks _ => some ks.length
  | _ => none
def idxD (d i : D) : Option D := match d with
  | .tup ds => match i with
    | .int k => atI ds k
    | _ => none
  | .lst ds => match i with
    | .int k => atI ds k
    | _ => none
  | .str x => match i with
    | .int k => (atI x.cps.toList k).map fun c => .str ⟨#[c]⟩
    | _ => none
  | .dic ks ds => match keyD i with
    | some k => look ks ds k
    | none => none
  | _ => none
def cutD (ds : List D) (lo hi : Option Int) : List D := (ds.drop (HT.sIx ds.length 0 lo)).take (HT.sIx ds.length ds.length hi - HT.sIx ds.length 0 lo)
def everyD (k : Nat) : Nat → List D → List D
  | _, [] => []
  | 0, d :: ds => d :: everyD k k ds
  | n + 1, _ :: ds => everyD k n ds
def itemsD : D → Option (List D)
  | .tup ds => some ds
  | .lst ds => some ds
  | .scr ns => some (ns.map D.int)
  | .str x => some (x.cps.toList.map fun c => D.str ⟨#[c]⟩)
  | .dic ks _ => some (ks.map dKey)
  | _ => none
def boolsD : List D → Option (List Bool)
  | [] => some []
  | .bl b :: ds => (boolsD ds).map (b :: ·)
  | _ :: _ => none

/-! ### the small tree -/
mutual
inductive Tg where
  | v (i : Nat) | tup (ts : Tgs)
inductive Tgs where
  | nil | cons (t : Tg) (ts : Tgs)
end
mutual
inductive E where
  | var (i : Nat) | int (i : Int) | str (x : Str) | non | bl (b : Bool)
  | bin (op : BOp) (a b : E)
  | cmp (op : CmpOp) (p q : P)
  | chn (op op2 : CmpOp) (a b c : E)
  | andE (a b : E) | orE (a b : E) | oneE (a : E) | notE (a : E)
  | ifx (t : T) (a b : E)
  | tup (es : Es)
  | idx (p : P) (i : E)
  | slT (p : P) (lo hi : O)
  | call (f : Str) (es : Es)
  | len (p : P) | isI (p : P) (ty : String)
  | toInt (e : E) | toStr (e : E) | absI (e : E) | max2 (a b : E)
  | tupOf (p : P) | allL (p : P)
  | get2 (p : P) (k d : E)
  | ofL (l : L) | ofD (d : Dt)
  | pop (i : Nat) | popAt (i : Nat) (k : E)
  | hpop (p : P) (k : E)
  | newH (l : L) | newHD (d : Dt)
  | never
inductive Es where
  | nil | cons (e : E) (es : Es)
inductive P where
  | e (e : E) | s (i : Nat) | l (l : L) | d (d : Dt)
inductive T where
  | val (e : E) | tru (p : P) | cmp (op : CmpOp) (p q : P) | chn (op op2 : CmpOp) (a b c : E)
  | andT (t u : T) | orT (t u : T) | oneT (t : T) | notT (t : T)
inductive L where
  | disp (es : Es)
  | comp (x : E) (tg : Tg) (it : It) (c : C1) (own : List (Str × Nat))
  | ofP (p : P) | zip (p q : P) | cat (p q : P) | sl (p : P) (lo hi : O) | slS (p : P) (lo st : E)
inductive Dt where
  | nil | comp (k v : E) (tg : Tg) (it : It) (own : List (Str × Nat))
inductive It where
  | p (p : P) | own (i : Nat) | rng1 (a : E) | rng2 (a b : E) | enum (p : P) | zip (p q : P) | items (p : P)
inductive O where
  | no | e (e : E)
inductive C1 where
  | no | t (t : T)
end
mutual
inductive S where
  | asg (tg : Tg) (e : E) | par (ns : List Nat) (es : Es) | asgL (i : Nat) (l : L) | asgD (i : Nat) (d : Dt)
  | drop (e : E) | app (i : Nat) (e : E) | ext (i : Nat) (p : P)
  | setL (i : Nat) (k e : E) | put (i : Nat) (k e : E) | hset (p : P) (k e : E)
  | ifS (t : T) (a b : B) | whileS (t : T) (b : B) | forS (tg : Tg) (it : It) (b : B)
  | ret (e : E) | retN | pass | brk | cont | never
inductive B where
  | nil | cons (s : S) (b : B)
end

/-! ### the evaluator -/
/-- a read operand: a datum; a name's own object; a new list, a new dict -/
inductive Pv where
  | d (d : D) | s (i : Nat) | l (ds : List D) | k (kvs : List (Key × D))
def rdP (x : Pv) (S : ES) : Option D := match x with
  | .d d => some (deref S.st d)
  | .s i => match S.r[i]? with
    | some (.val d) => some (deref S.st d)
    | some (.own b) => some b.frz
    | _ => none
  | .l ds => some (.lst ds)
  | .k kvs => some (.dic (kvs.map (·.1)) (kvs.map (·.2)))
mutual
def asgTg : Tg → D → List Sl → Option (List Sl)
  | .v i, d, r => if i < r.length then some (r.set i (.val d)) else none
  | .tup ts, .tup ds, r => asgTgs ts ds r
  | .tup _, _, _ => none
def asgTgs : Tgs → List D → List Sl → Option (List Sl)
  | .nil, [], r => some r
  | .cons t ts, d :: ds, r => match asgTg t d r with
    | some r1 => asgTgs ts ds r1
    | none => none
  | _, _, _ => none
end
/-- the shared object that an operand is -/
def hnd (x : Pv) (S : ES) : Option Nat := match x with
  | .d (.hdl n) => some n
  | .s i => match S.r[i]? with
    | some (.val (.hdl n)) => some n
    | _ => none
  | _ => none
def isOL (S : ES) (i : Nat) : Bool := match S.r[i]? with
  | some (.own (.lst _)) => true
  | _ => false
def isHL (x : Pv) (S : ES) : Bool := match hnd x S with
  | some n => match S.st[n]? with
    | some (.lst _) => true
    | _ => false
  | none => false
def isDi (x : Pv) (S : ES) : Bool := match rdP x S with
  | some (.dic _ _) => true
  | _ => false
/-- .. that stays while a loop runs over it -/
def stP (x : Pv) (S : ES) : Option D := match x with
  | .d (.hdl _) => none
  | .d d => some d
  | .s i => match S.r[i]? with
    | some (.val (.hdl _)) => none
    | some (.val d) => some d
    | _ => none
  | .l ds => some (.lst ds)
  | .k _ => none
/-- a block's own names forgotten; what they were ahead of it -/
def wipeR (r : List Sl) : List Nat → List Sl
  | [] => r
  | i :: is => (wipeR r is).set i .no
def backR (r0 : List Sl) (r : List Sl) : List Nat → List Sl
  | [] => r
  | i :: is => (backR r0 r is).set i (match r0[i]? with
    | some (.val d) => .val d
    | _ => .no)
def pushO : Option D → List D → List D
  | some x, l => x :: l
  | none, l => l
/-- a comprehension's turns -/
def compF (f : D → ES → Option (Option D × ES)) : List D → ES → Option (List D × ES)
  | [], S => some ([], S)
  | d :: ds, S => match f d S with
    | none => none
    | some (o, S1) => match compF f ds S1 with
      | none => none
      | some (out, S2) => some (pushO o out, S2)
def compD (f : D → ES → Option (Key × D × ES)) : List D → List (Key × D) → ES → Option (List (Key × D) × ES)
  | [], acc, S => some (acc, S)
  | d :: ds, acc, S => match f d S with
    | none => none
    | some (k, v, S1) => compD f ds (putD acc k v) S1
def enumD : Nat → List D → List D
  | _, [] => []
  | n, d :: ds => .tup [.int n, d] :: enumD (n + 1) ds
def zipD : List D → List D → List D
  | d :: ds, e :: es => .tup [d, e] :: zipD ds es
  | _, _ => []
def rngD (lo : Int) (n : Nat) : List D := (List.range n).map fun (i : Nat) => D.int (lo + i)
/-- the calls: a def's name, its arguments, the store -/
abbrev CallF := Str → List D → Sto → Option (D × Sto)
/-- zip's operands are two lists or two tuples -/
def sameSeq : D → D → Bool
  | .lst _, .lst _ => true
  | .tup _, .tup _ => true
  | _, _ => false

/-- a name's own list is hidden while it is walked -/
def hid (it : It) (S : ES) : ES := match it with
  | .own i => { S with r := S.r.set i .no }
  | _ => S
def unhid (it : It) (S S' : ES) : ES := match it with
  | .own i => match S.r[i]? with
    | some s => { S' with r := S'.r.set i s }
    | none => S'
  | _ => S'
section
variable (c : CallF)
mutual
def ev : E → ES → Option (D × ES)
  | .var i, S => match S.r[i]? with
    | some (.val d) => some (d, S)
    | some (.own b) => some (b.frz, { S with r := S.r.set i (.val b.frz) })
    | _ => none
  | .int i, S => some (.int i, S)
  | .str x, S => some (.str x, S)
  | .non, S => some (.non, S)
  | .bl b, S => some (.bl b, S)
  | .bin op a b, S => do
    let (x, S) ← ev a S
    let (y, S) ← ev b S
    let z ← bop op x y
    some (z, S)
  | .cmp op p q, S => do
    let (x, S) ← evP p S
    let (y, S) ← evP q S
    let x ← rdP x S
    let y ← rdP y S
    let b ← cop op x y
    some (.bl b, S)
  | .chn op op2 a b e, S => do
    let (x, S) ← ev a S
    let (y, S) ← ev b S
    let k ← cop op x y
    if k then do
      let (z, S) ← ev e S
      let k2 ← cop op2 y z
      some (.bl k2, S)
    else some (.bl false, S)
  | .andE a b, S => match ev a S with
    | some (.bl true, S) => ev b S
    | some (.bl false, S) => some (.bl false, S)
    | _ => none
  | .orE a b, S => match ev a S with
    | some (.bl true, S) => some (.bl true, S)
    | some (.bl false, S) => ev b S
    | _ => none
  | .oneE a, S => ev a S
  | .notE a, S => match ev a S with
    | some (.bl b, S) => some (.bl (!b), S)
    | _ => none
  | .ifx t a b, S => match evT t S with
    | some (true, S) => ev a S
    | some (false, S) => ev b S
    | none => none
  | .tup es, S => do
    let (ds, S) ← evs es S
    some (.tup ds, S)
  | .idx p i, S => do
    let (x, S) ← evP p S
    let (i, S) ← ev i S
    let x ← rdP x S
    let d ← idxD x i
    some (d, S)
  | .slT p lo hi, S => do
    let (x, S) ← evP p S
    let (lo, S) ← evO lo S
    let (hi, S) ← evO hi S
    match rdP x S with
    | some (.tup ds) => some (.tup (cutD ds lo hi), S)
    | _ => none
  | .call f es, S => do
    let (ds, S) ← evs es S
    let (d, st) ← c f ds S.st
    some (d, { S with st := st })
  | .len p, S => do
    let (x, S) ← evP p S
    let x ← rdP x S
    let n ← lenD x
    some (.int n, S)
  | .isI p ty, S => do
    let (x, S) ← evP p S
    let x ← rdP x S
    let b ← isIn x ty
    some (.bl b, S)
  | .toInt e, S => match ev e S with
    | some (.int i, S) => some (.int i, S)
    | some (.bl b, S) => some (.int (if b then 1 else 0), S)
    | _ => none
  | .toStr e, S => match ev e S with
    | some (.int i, S) => if i.natAbs.log2 < 1920 then some (.str (toString i), S) else none
    | _ => none
  | .absI e, S => match ev e S with
    | some (.int i, S) => some (.int (if i < 0 then -i else i), S)
    | _ => none
  | .max2 a b, S => do
    let (x, S) ← ev a S
    let (y, S) ← ev b S
    match x, y with
    | .int i, .int j => some (.int (if j > i then j else i), S)
    | _, _ => none
  | .tupOf p, S => do
    let (x, S) ← evP p S
    match rdP x S with
    | some (.tup ds) => some (.tup ds, S)
    | some (.lst ds) => some (.tup ds, S)
    | _ => none
  | .allL p, S => do
    let (x, S) ← evP p S
    match rdP x S with
    | some (.lst ds) => (boolsD ds).map fun bs => (.bl (bs.all id), S)
    | _ => none
  | .get2 p k d, S => match evP p S with
    | none => none
    | some (x, S) => if isDi x S then match ev k S with
      | none => none
      | some (k, S) => match ev d S with
        | none => none
        | some (d, S) => match rdP x S with
          | some (.dic ks ds) => match keyD k with
            | some k => some ((look ks ds k).getD d, S)
            | none => none
          | _ => none
      else none
  | .ofL l, S => do
    let (ds, S) ← evL l S
    some (.lst ds, S)
  | .ofD d, S => do
    let (kvs, S) ← evD d S
    some (.dic (kvs.map (·.1)) (kvs.map (·.2)), S)
  | .pop i, S => match S.r[i]? with
    | some (.own (.lst ds)) => match ds[ds.length - 1]? with
      | some d => some (d, { S with r := S.r.set i (.own (.lst ds.dropLast)) })
      | none => none
    | _ => none
  | .popAt i k, S => if isOL S i then match ev k S with
    | some (.int k, S) => match S.r[i]? with
      | some (.own (.lst ds)) => if 0 ≤ k ∧ k < 2 ^ 62 then
          match ds[k.toNat]? with
          | some d => some (d, { S with r := S.r.set i (.own (.lst (ds.eraseIdx k.toNat))) })
          | none => none
        else none
      | _ => none
    | _ => none
    else none
  | .hpop p k, S => match evP p S with
    | some (x, S) => if isHL x S then match ev k S with
      | some (.int k, S) => match hnd x S with
        | some n => match S.st[n]? with
          | some (.lst ds) => if 0 ≤ k ∧ k < 2 ^ 62 then
              match ds[k.toNat]? with
              | some d => some (d, { S with st := S.st.set n (.lst (ds.eraseIdx k.toNat)) })
              | none => none
            else none
          | _ => none
        | none => none
      | _ => none
      else none
    | none => none
  | .newH l, S => do
    let (ds, S) ← evL l S
    some (.hdl S.st.length, { S with st := S.st ++ [.lst ds] })
  | .newHD d, S => do
    let (kvs, S) ← evD d S
    some (.hdl S.st.length, { S with st := S.st ++ [.dic kvs] })
  | .never, _ => none
def evs : Es → ES → Option (List D × ES)
  | .nil, S => some ([], S)
  | .cons e es, S => do
    let (d, S) ← ev e S
    let (ds, S) ← evs es S
    some (d :: ds, S)
def evP : P → ES → Option (Pv × ES)
  | .e e, S => do
    let (d, S) ← ev e S
    some (.d d, S)
  | .s i, S => match S.r[i]? with
    | some (.val _) => some (.s i, S)
    | some (.own _) => some (.s i, S)
    | _ => none
  | .l l, S => do
    let (ds, S) ← evL l S
    some (.l ds, S)
  | .d d, S => do
    let (kvs, S) ← evD d S
    some (.k kvs, S)
def evT : T → ES → Option (Bool × ES)
  | .val e, S => match ev e S with
    | some (.bl b, S) => some (b, S)
    | _ => none
  | .tru p, S => do
    let (x, S) ← evP p S
    let x ← rdP x S
    let b ← tru x
    some (b, S)
  | .cmp op p q, S => do
    let (x, S) ← evP p S
    let (y, S) ← evP q S
    let x ← rdP x S
    let y ← rdP y S
    let b ← cop op x y
    some (b, S)
  | .chn op op2 a b e, S => do
    let (x, S) ← ev a S
    let (y, S) ← ev b S
    let k ← cop op x y
    if k then do
      let (z, S) ← ev e S
      let k2 ← cop op2 y z
      some (k2, S)
    else some (false, S)
  | .andT t u, S => match evT t S with
    | some (true, S) => evT u S
    | some (false, S) => some (false, S)
    | none => none
  | .orT t u, S => match evT t S with
    | some (true, S) => some (true, S)
    | some (false, S) => evT u S
    | none => none
  | .oneT t, S => evT t S
  | .notT t, S => match evT t S with
    | some (b, S) => some (!b, S)
    | none => none
def evL : L → ES → Option (List D × ES)
  | .disp es, S => evs es S
  | .comp x tg it c1 own, S => match evI it S with
    | none => none
    | some (items, S1) =>
      match compF (fun d S => match asgTg tg d (wipeR S.r (own.map (·.2))) with
        | none => none
        | some r => match evC c1 { S with r := r } with
          | none => none
          | some (false, S) => some (none, { S with r := wipeR S.r (own.map (·.2)) })
          | some (true, S) => match ev x S with
            | none => none
            | some (y, S) => some (some y, { S with r := wipeR S.r (own.map (·.2)) })) items { S1 with r := wipeR S1.r (own.map (·.2)) } with
      | none => none
      | some (out, S2) => if items.length ≤ sizeLine then some (out, unhid it S { S2 with r := backR S1.r S2.r (own.map (·.2)) }) else none
  | .ofP p, S => do
    let (x, S) ← evP p S
    match rdP x S with
    | some (.tup ds) => some (ds, S)
    | some (.lst ds) => some (ds, S)
    | _ => none
  | .zip p q, S => do
    let (x, S) ← evP p S
    let (y, S) ← evP q S
    let x ← rdP x S
    let y ← rdP y S
    match x, y with
    | .lst ds, .lst es => some (zipD ds es, S)
    | .tup ds, .tup es => some (zipD ds es, S)
    | _, _ => none
  | .cat p q, S => do
    let (x, S) ← evP p S
    let (y, S) ← evP q S
    let x ← rdP x S
    let y ← rdP y S
    match x, y with
    | .lst ds, .lst es => if ds.length + es.length ≤ sizeLine then some (ds ++ es, S) else none
    | _, _ => none
  | .sl p lo hi, S => do
    let (x, S) ← evP p S
    let (lo, S) ← evO lo S
    let (hi, S) ← evO hi S
    match rdP x S with
    | some (.lst ds) => some (cutD ds lo hi, S)
    | _ => none
  | .slS p lo stp, S => match evP p S with
    | none => none
    | some (x, S) => match ev lo S with
      | some (.int a, S) => match ev stp S with
        | some (.int k, S) => match rdP x S with
          | some (.lst ds) => if 0 ≤ a ∧ a < 2 ^ 62 ∧ 0 < k ∧ k < 2 ^ 62 then some (everyD (k.toNat - 1) a.toNat ds, S) else none
          | _ => none
        | _ => none
      | _ => none
def evD : Dt → ES → Option (List (Key × D) × ES)
  | .nil, S => some ([], S)
  | .comp k v tg it own, S => match evI it S with
    | none => none
    | some (items, S1) =>
      match compD (fun d S => match asgTg tg d (wipeR S.r (own.map (·.2))) with
        | none => none
        | some r => match ev k { S with r := r } with
          | none => none
          | some (kd, S) => match keyD kd with
            | none => none
            | some kk => match ev v S with
              | none => none
              | some (y, S) => some (kk, y, { S with r := wipeR S.r (own.map (·.2)) })) items [] { S1 with r := wipeR S1.r (own.map (·.2)) } with
      | none => none
      | some (out, S2) => if items.length ≤ sizeLine then some (out, { S2 with r := backR S1.r S2.r (own.map (·.2)) }) else none
def evI : It → ES → Option (List D × ES)
  | .p p, S => do
    let (x, S) ← evP p S
    let x ← stP x S
    let ds ← itemsD x
    some (ds, S)
  | .own i, S => match S.r[i]? with
    | some (.own (.lst ds)) => some (ds, { S with r := S.r.set i .no })
    | _ => none
  | .rng1 a, S => match ev a S with
    | some (.int j, S) => if j < 2 ^ 62 ∧ -(2 ^ 62) ≤ j then some (rngD 0 j.toNat, S) else none
    | _ => none
  | .rng2 a b, S => match ev a S with
    | some (.int i, S) => match ev b S with
      | some (.int j, S) => if j < 2 ^ 62 ∧ -(2 ^ 62) ≤ j ∧ i < 2 ^ 62 ∧ -(2 ^ 62) ≤ i then some (rngD i (j - i).toNat, S) else none
      | _ => none
    | _ => none
  | .enum p, S => do
    let (x, S) ← evP p S
    match stP x S with
    | some (.tup ds) => some (enumD 0 ds, S)
    | _ => none
  | .zip p q, S => do
    let (x, S) ← evP p S
    let (y, S) ← evP q S
    let x ← stP x S
    let y ← stP y S
    match x, y with
    | .lst ds, .lst es => some (zipD ds es, S)
    | .tup ds, .tup es => some (zipD ds es, S)
    | _, _ => none
  | .items p, S => do
    let (x, S) ← evP p S
    match stP x S with
    | some (.dic ks ds) => some (zipD (ks.map dKey) ds, S)
    | _ => none
def evO : O → ES → Option (Option Int × ES)
  | .no, S => some (none, S)
  | .e e, S => match ev e S with
    | some (.int i, S) => some (some i, S)
    | _ => none
def evC : C1 → ES → Option (Bool × ES)
  | .no, S => some (true, S)
  | .t t, S => evT t S
end
end
end Px
/-! Px2: statements; the check that a small tree is the text's own. -/
namespace Px
open PySem L2

/-! ### statements -/
def isOw (S : ES) (i : Nat) : Bool := match S.r[i]? with
  | some (.own _) => true
  | _ => false
def tgsOf : List Nat → Tgs
  | [] => .nil
  | i :: is => .cons (.v i) (tgsOf is)
inductive Fl where
  | nx | rt (d : D) | bk | ct
def forF (f : D → ES → Option (Fl × ES)) : List D → ES → Option (Fl × ES)
  | [], S => some (.nx, S)
  | d :: ds, S => match f d S with
    | none => none
    | some (.nx, S) => forF f ds S
    | some (.ct, S) => forF f ds S
    | some (.bk, S) => some (.nx, S)
    | some (.rt d, S) => some (.rt d, S)
def whN (t : ES → Option (Bool × ES)) (f : ES → Option (Fl × ES)) : Nat → ES → Option (Fl × ES)
  | 0, _ => none
  | n + 1, S => match t S with
    | none => none
    | some (false, S) => some (.nx, S)
    | some (true, S) => match f S with
      | none => none
      | some (.nx, S) => whN t f n S
      | some (.ct, S) => whN t f n S
      | some (.bk, S) => some (.nx, S)
      | some (.rt d, S) => some (.rt d, S)
open Classical in
noncomputable def whF (t : ES → Option (Bool × ES)) (f : ES → Option (Fl × ES)) (S : ES) : Option (Fl × ES) :=
  if h : ∃ (n : Nat) (r : Fl × ES), whN t f n S = some r then whN t f h.choose S else none
theorem whN_more {t : ES → Option (Bool × ES)} {f : ES → Option (Fl × ES)} : ∀ {n m : Nat} {S : ES} {r : Fl × ES}, whN t f n S = some r → n ≤ m → whN t f m S = some r
  | 0, _, _, _, h, _ => by cases h
  | n + 1, 0, _, _, _, hm => absurd hm (Nat.not_succ_le_zero n)
  | n + 1, m + 1, S, r, h, hm => by
    unfold whN at h ⊢
    cases ht : t S with
    | none => rw [ht] at h; cases h
    | some p =>
      obtain ⟨b, S1⟩ := p
      rw [ht] at h
      cases b with
      | false => exact h
      | true =>
        simp only at h ⊢
        cases hf : f S1 with
        | none => rw [hf] at h; cases h
        | some q =>
          obtain ⟨fl, S2⟩ := q
          rw [hf] at h
          cases fl with
          | nx => exact whN_more h (Nat.le_of_succ_le_succ hm)
          | ct => exact whN_more h (Nat.le_of_succ_le_succ hm)
          | bk => exact h
          | rt d => exact h
theorem whF_of {t : ES → Option (Bool × ES)} {f : ES → Option (Fl × ES)} {n : Nat} {S : ES} {r : Fl × ES} (h : whN t f n S = some r) : whF t f S = some r := by
  have hx : ∃ (n : Nat) (r : Fl × ES), whN t f n S = some r := ⟨n, r, h⟩
  unfold whF
  rw [dif_pos hx]
  obtain ⟨r2, h2⟩ := hx.choose_spec
  rw [h2]
  have a := whN_more h2 (Nat.le_max_left hx.choose n)
  have b := whN_more h (Nat.le_max_right hx.choose n)
  rw [a] at b
  exact b
theorem whF_is {t : ES → Option (Bool × ES)} {f : ES → Option (Fl × ES)} {S : ES} {r : Fl × ES} (h : whF t f S = some r) : ∃ n, whN t f n S = some r := by
  unfold whF at h
  split at h
  · rename_i hx
    exact ⟨hx.choose, h⟩
  · cases h

section
variable (c : CallF)
mutual
noncomputable def exS : S → ES → Option (Fl × ES)
  | .asg tg e, S => match ev c e S with
    | none => none
    | some (d, S) => match asgTg tg d S.r with
      | none => none
      | some r => some (.nx, { S with r := r })
  | .par ns es, S => match evs c es S with
    | none => none
    | some (ds, S) => match asgTgs (tgsOf ns.reverse) ds.reverse S.r with
      | none => none
      | some r => some (.nx, { S with r := r })
  | .asgL i l, S => match evL c l S with
    | none => none
    | some (ds, S) => if i < S.r.length then some (.nx, { S with r := S.r.set i (.own (.lst ds)) }) else none
  | .asgD i d, S => match evD c d S with
    | none => none
    | some (kvs, S) => if i < S.r.length then some (.nx, { S with r := S.r.set i (.own (.dic kvs)) }) else none
  | .drop e, S => match ev c e S with
    | none => none
    | some (_, S) => some (.nx, S)
  | .app i e, S => if isOL S i then match ev c e S with
    | none => none
    | some (d, S) => match S.r[i]? with
      | some (.own (.lst ds)) => if ds.length < sizeLine then some (.nx, { S with r := S.r.set i (.own (.lst (ds ++ [d]))) }) else none
      | _ => none
    else none
  | .ext i p, S => if isOL S i then match evP c p S with
    | none => none
    | some (x, S) => match rdP x S with
      | some (.lst es) => match S.r[i]? with
        | some (.own (.lst ds)) => if ds.length + es.length ≤ sizeLine then some (.nx, { S with r := S.r.set i (.own (.lst (ds ++ es))) }) else none
        | _ => none
      | _ => none
    else none
  | .setL i k e, S => match ev c e S with
    | none => none
    | some (d, S) => if isOw S i then match ev c k S with
      | some (.int k, S) => match S.r[i]? with
        | some (.own (.lst ds)) => match ixN ds.length k with
          | some j => some (.nx, { S with r := S.r.set i (.own (.lst (ds.set j d))) })
          | none => none
        | _ => none
      | _ => none
      else none
  | .put i k e, S => match ev c e S with
    | none => none
    | some (d, S) => if isOw S i then match ev c k S with
      | none => none
      | some (kd, S) => match keyD kd with
        | none => none
        | some kk => match S.r[i]? with
          | some (.own (.dic kvs)) => if kvs.length < sizeLine then some (.nx, { S with r := S.r.set i (.own (.dic (putD kvs kk d))) }) else none
          | _ => none
      else none
  | .hset p k e, S => match ev c e S with
    | none => none
    | some (d, S) => match evP c p S with
      | none => none
      | some (x, S) => match ev c k S with
        | none => none
        | some (kd, S) => match hnd x S with
          | none => none
          | some n => match S.st[n]? with
            | some (.lst ds) => match kd with
              | .int k => match ixN ds.length k with
                | some j => some (.nx, { S with st := S.st.set n (.lst (ds.set j d)) })
                | none => none
              | _ => none
            | some (.dic kvs) => match keyD kd with
              | some kk => if kvs.length < sizeLine then some (.nx, { S with st := S.st.set n (.dic (putD kvs kk d)) }) else none
              | none => none
            | none => none
  | .ifS t a b, S => match evT c t S with
    | none => none
    | some (true, S) => exB a S
    | some (false, S) => exB b S
  | .whileS t b, S => whF (evT c t) (exB b) S
  | .forS tg it b, S => match evI c it S with
    | none => none
    | some (items, S) => forF (fun d S => match asgTg tg d S.r with
      | none => none
      | some r => exB b { S with r := r }) items S
  | .ret e, S => match ev c e S with
    | none => none
    | some (d, S) => some (.rt d, S)
  | .retN, S => some (.rt .non, S)
  | .pass, S => some (.nx, S)
  | .brk, S => some (.bk, S)
  | .cont, S => some (.ct, S)
  | .never, _ => none
noncomputable def exB : B → ES → Option (Fl × ES)
  | .nil, S => some (.nx, S)
  | .cons s b, S => match exS s S with
    | none => none
    | some (.nx, S) => exB b S
    | some (f, S) => some (f, S)
end
end
/-- a def of the text -/
structure DefM where
  np : Nat
  nn : Nat
  body : B
noncomputable def runF (tbl : Str → Option DefM) : Nat → CallF
  | 0 => fun _ _ _ => none
  | n + 1 => fun f ds st => match tbl f with
    | none => none
    | some m => if ds.length = m.np then
        match exB (runF tbl n) m.body ⟨ds.map .val ++ List.replicate (m.nn - m.np) .no, st⟩ with
        | some (.rt d, S) => some (d, S.st)
        | some (.nx, S) => some (.non, S.st)
        | _ => none
      else none

/-! ### the check -/
def visB (sc : Scope) (x : Str) : Bool := match sc.names.lookup x with
  | some .local => true
  | some .cell => true
  | some .free => true
  | _ => false
def glbB (sc : Scope) (x : Str) : Bool := decide (sc.names.lookup x = some .globalImplicit) && decide (x ≠ "__debug__")
def noStar : Expr → Bool
  | .Starred _ _ => false
  | _ => true
def notSl : Expr → Bool
  | .Slice _ _ _ _ => false
  | _ => true
def noSet : Expr → Bool
  | .Set _ _ _ => false
  | _ => true
/-- a test that is its value's truth -/
def plainT : Expr → Bool
  | .BoolOp _ _ _ => false
  | .Compare _ _ _ _ => false
  | .UnaryOp .Not _ _ => false
  | .NamedExpr _ _ _ => false
  | .Constant _ _ _ => false
  | .IfExp _ _ _ _ => false
  | _ => true
def notComp : Expr → Bool
  | .ListComp _ _ _ _ => false
  | .SetComp _ _ _ _ => false
  | .DictComp _ _ _ _ _ => false
  | _ => true
def isTup : Expr → Bool
  | .Tuple _ _ _ => true
  | _ => false
def isName : Expr → Bool
  | .Name _ _ => true
  | _ => false
def opB : BOp → Operator → Bool
  | .add, .Add => true
  | .sub, .Sub => true
  | .mul, .Mult => true
  | .fdiv, .FloorDiv => true
  | .mod, .Mod => true
  | _, _ => false
mutual
def tgIx : Tg → List Nat
  | .v i => [i]
  | .tup ts => tgsIx ts
def tgsIx : Tgs → List Nat
  | .nil => []
  | .cons t ts => tgIx t ++ tgsIx ts
end
def subIx (a b : List Nat) : Bool := a.all fun i => b.contains i
/-- what a check is made against: the scope, the names by slot, the names whose cells are the block's own, the built-ins that are free -/
structure Ctx where
  sc : Scope
  N : List Str
  fz : Str → Bool
  fr : List Str
def Ctx.blk (C : Ctx) (scope : Scope) : Ctx := ⟨relS scope C.sc, C.N, fun x => scope.names.lookup x == some .cell, C.fr⟩
def varB (C : Ctx) (i : Nat) (x : Str) : Bool := decide (C.N[i]? = some x) && visB C.sc x && decide (x ≠ "__debug__") && decide (x ≠ "__classdict__")
def locB (C : Ctx) (i : Nat) (x : Str) : Bool := decide (C.N[i]? = some x) && match C.sc.names.lookup x with
  | some .local => true
  | some .cell => C.fz x
  | _ => false
def bltB (C : Ctx) (x : Str) : Bool := C.fr.any (fun y => decide (y = x)) && decide (C.sc.names.lookup x = some .globalImplicit)
mutual
def chkTg (C : Ctx) : Tg → Expr → Bool
  | .v i, .Name x _ => locB C i x
  | .tup ts, .Tuple xs _ _ => chkTgs C ts xs
  | _, _ => false
def chkTgs (C : Ctx) : Tgs → List Expr → Bool
  | .nil, [] => true
  | .cons t ts, x :: xs => noStar x && chkTg C t x && chkTgs C ts xs
  | _, _ => false
end
mutual
def chkE (C : Ctx) : E → Expr → Bool
  | .var i, .Name x _ => varB C i x
  | .int i, .Constant (.int j) _ _ => decide (i = j)
  | .int i, .UnaryOp .USub (.Constant (.int j) _ _) _ => decide (i = -j)
  | .str x, .Constant (.str y) _ _ => decide (x = y) && PyData.strOk x && decide (x.length ≤ 1000)
  | .non, .Constant .none _ _ => true
  | .bl b, .Constant (.bool d) _ _ => decide (b = d)
  | .bin op a b, .BinOp l o r _ => opB op o && chkE C a l && chkE C b r
  | .cmp op p q, .Compare l [o] [r] _ => decide (op = o) && !behindInMarks op r && chkP C p l && chkP C q r
  | .chn op op2 a b e, .Compare l [o, o2] [r, r2] _ => decide (op = o) && decide (op2 = o2) && !lastMarks [o, o2] [r, r2] && chkE C a l && chkE C b r && chkE C e r2
  | .andE a b, .BoolOp .And (x :: y :: rest) pos => chkE C a x && chkE C b (.BoolOp .And (y :: rest) pos)
  | .orE a b, .BoolOp .Or (x :: y :: rest) pos => chkE C a x && chkE C b (.BoolOp .Or (y :: rest) pos)
  | .oneE a, .BoolOp _ [x] _ => chkE C a x
  | .notE a, .UnaryOp .Not x _ => chkE C a x
  | .ifx t a b, .IfExp u x y _ => chkT C t u && chkE C a x && chkE C b y
  | .tup es, .Tuple xs _ _ => decide (xs.length ≤ 1000) && chkEs C es xs
  | .idx p i, .Subscript o x _ => notSl x && chkP C p o && chkE C i x
  | .slT p lo hi, .Subscript o (.Slice l h none _) _ => chkP C p o && chkO C lo l && chkO C hi h
  | .call f es, .Call (.Name g _) xs [] _ => decide (f = g) && glbB C.sc g && chkEs C es xs
  | .len p, .Call (.Name g _) [x] [] _ => decide (g = "len") && bltB C "len" && noStar x && chkP C p x
  | .isI p ty, .Call (.Name g _) [x, .Name t _] [] _ => decide (g = "isinstance") && bltB C "isinstance" && noStar x && decide (t = Str.ofString ty) && bltB C t && ["str", "tuple", "int", "bool", "list", "dict"].contains ty && chkP C p x
  | .toInt e, .Call (.Name g _) [x] [] _ => decide (g = "int") && bltB C "int" && noStar x && chkE C e x
  | .toStr e, .Call (.Name g _) [x] [] _ => decide (g = "str") && bltB C "str" && noStar x && chkE C e x
  | .absI e, .Call (.Name g _) [x] [] _ => decide (g = "abs") && bltB C "abs" && noStar x && chkE C e x
  | .max2 a b, .Call (.Name g _) [x, y] [] _ => decide (g = "max") && bltB C "max" && noStar x && noStar y && chkE C a x && chkE C b y
  | .tupOf p, .Call (.Name g _) [x] [] _ => decide (g = "tuple") && bltB C "tuple" && noStar x && chkP C p x
  | .allL p, .Call (.Name g _) [x] [] _ => decide (g = "all") && bltB C "all" && noStar x && chkP C p x
  | .get2 p k d, .Call (.Attribute o m apos) [x, y] [] cpos => isName o && decide (m = "get") && (apos.endLine == cpos.line) && noStar x && noStar y && chkP C p o && chkE C k x && chkE C d y
  | .ofL l, x => chkL C l x
  | .ofD d, x => chkD C d x
  | .pop i, .Call (.Attribute (.Name x _) m apos) [] [] cpos => decide (m = "pop") && (apos.endLine == cpos.line) && varB C i x
  | .popAt i k, .Call (.Attribute (.Name x _) m apos) [y] [] cpos => decide (m = "pop") && (apos.endLine == cpos.line) && noStar y && varB C i x && chkE C k y
  | .hpop p k, .Call (.Attribute o m apos) [y] [] cpos => isName o && decide (m = "pop") && (apos.endLine == cpos.line) && noStar y && chkP C p o && chkE C k y
  | .newH l, x => chkL C l x
  | .newHD d, x => chkD C d x
  | .never, _ => true
  | _, _ => false
def chkEs (C : Ctx) : Es → List Expr → Bool
  | .nil, [] => true
  | .cons e es, x :: xs => noStar x && chkE C e x && chkEs C es xs
  | _, _ => false
def chkP (C : Ctx) : P → Expr → Bool
  | .e e, x => chkE C e x
  | .s i, .Name x _ => varB C i x
  | .l l, x => chkL C l x
  | .d d, x => chkD C d x
  | _, _ => false
def chkT (C : Ctx) : T → Expr → Bool
  | .val e, x => plainT x && chkE C e x
  | .tru p, x => plainT x && chkP C p x
  | .cmp op p q, .Compare l [o] [r] _ => decide (op = o) && !behindInMarks op r && chkP C p l && chkP C q r
  | .chn op op2 a b e, .Compare l [o, o2] [r, r2] _ => decide (op = o) && decide (op2 = o2) && !lastMarks [o, o2] [r, r2] && chkE C a l && chkE C b r && chkE C e r2
  | .andT t u, .BoolOp .And (x :: y :: rest) pos => chkT C t x && chkT C u (.BoolOp .And (y :: rest) pos)
  | .orT t u, .BoolOp .Or (x :: y :: rest) pos => chkT C t x && chkT C u (.BoolOp .Or (y :: rest) pos)
  | .oneT t, .BoolOp _ [x] _ => chkT C t x
  | .notT t, .UnaryOp .Not x _ => chkT C t x
  | _, _ => false
def chkL (C : Ctx) : L → Expr → Bool
  | .disp es, .List xs _ => decide (xs.length ≤ 1000) && chkEs C es xs
  | .comp x tg it c own, .ListComp elt [⟨t, iter, ifs, a⟩] scope _ =>
    decide (a = 0) && blkC C.N C.sc scope own && subIx (tgIx tg) (own.map (·.2)) && noSet iter && chkI C it t iter && chkTg (C.blk scope) tg t && chkC (C.blk scope) c ifs && chkE (C.blk scope) x elt
  | .ofP p, .Call (.Name g _) [x] [] _ => decide (g = "list") && bltB C "list" && noStar x && chkP C p x
  | .zip p q, .Call (.Name g _) [.Call (.Name h _) [x, y] [] _] [] _ => decide (g = "list") && bltB C "list" && decide (h = "zip") && bltB C "zip" && noStar x && noStar y && chkP C p x && chkP C q y
  | .cat p q, .BinOp l .Add r _ => chkP C p l && chkP C q r
  | .sl p lo hi, .Subscript o (.Slice l h none _) _ => chkP C p o && chkO C lo l && chkO C hi h
  | .slS p lo st, .Subscript o (.Slice (some l) none (some k) _) _ => chkP C p o && chkE C lo l && chkE C st k
  | _, _ => false
def chkD (C : Ctx) : Dt → Expr → Bool
  | .nil, .Dict [] [] _ => true
  | .comp k v tg it own, .DictComp key val [⟨t, iter, [], a⟩] scope _ =>
    decide (a = 0) && blkC C.N C.sc scope own && subIx (tgIx tg) (own.map (·.2)) && noSet iter && chkI C it t iter && chkTg (C.blk scope) tg t && chkE (C.blk scope) k key && chkE (C.blk scope) v val
  | _, _ => false
def chkI (C : Ctx) : It → Expr → Expr → Bool
  | .p p, _, x => chkP C p x
  | .own i, _, .Name x _ => varB C i x
  | .rng1 a, _, .Call (.Name g _) [x] [] _ => decide (g = "range") && bltB C "range" && noStar x && chkE C a x
  | .rng2 a b, _, .Call (.Name g _) [x, y] [] _ => decide (g = "range") && bltB C "range" && noStar x && noStar y && chkE C a x && chkE C b y
  | .enum p, t, .Call (.Name g _) [x] [] _ => isTup t && decide (g = "enumerate") && bltB C "enumerate" && noStar x && chkP C p x
  | .zip p q, t, .Call (.Name g _) [x, y] [] _ => isTup t && decide (g = "zip") && bltB C "zip" && noStar x && noStar y && chkP C p x && chkP C q y
  | .items p, t, .Call (.Attribute o m apos) [] [] cpos => isTup t && isName o && decide (m = "items") && (apos.endLine == cpos.line) && chkP C p o
  | _, _, _ => false
def chkO (C : Ctx) : O → Option Expr → Bool
  | .no, none => true
  | .e e, some x => chkE C e x
  | _, _ => false
def chkC (C : Ctx) : C1 → List Expr → Bool
  | .no, [] => true
  | .t t, [x] => chkT C t x
  | _, _ => false
end
def isStar : Expr → Bool
  | .Starred _ _ => true
  | _ => false
def nameAt (C : Ctx) (line : Nat) : Expr → Option Str
  | .Name id pos => if (C.sc.names.lookup id == some .local && pos.line == line) = true then some id else none
  | _ => none
/-- are the parts of a, b = x, y stored from the right: some none if not -/
def swapB (C : Ctx) (t v : Expr) : Option (Option (List Str)) := match t, v with
  | .Tuple ts _ _, .Tuple vs _ _ =>
    if (!(ts.length == 2 || ts.length == 3) || vs.length != ts.length) = true then some none
    else if vs.any isStar = true then some none
    else
      let line := (ts.head?.map (·.pos.line)).getD 0
      let names := ts.filterMap (nameAt C line)
      if (names.length != ts.length || names.eraseDups.length != names.length) = true then some none
      else if vs.all (foldedForSure 8) = true then some none
      else if vs.all (constantsAlone 8) = true then none
      else some (some names)
  | .List _ _, .Tuple _ _ _ => none
  | _, _ => some none
def parB (C : Ctx) : List Nat → List Str → Bool
  | [], [] => true
  | i :: is, x :: xs => locB C i x && decide (C.sc.names.lookup x = some .local) && parB C is xs
  | _, _ => false
mutual
def chkS (C : Ctx) : S → Stmt → Bool
  | .asg tg e, .Assign [t] v _ => notComp v && (isTup t || isName t) && decide (swapB C t v = some none) && chkTg C tg t && chkE C e v
  | .par ns es, .Assign [.Tuple ts k p] (.Tuple vs k2 p2) _ => decide (vs.length ≤ 1000) && (match swapB C (.Tuple ts k p) (.Tuple vs k2 p2) with
    | some (some names) => parB C ns.reverse names.reverse
    | _ => false) && chkEs C es vs
  | .asgL i l, .Assign [.Name x _] v _ => locB C i x && chkL C l v
  | .asgD i d, .Assign [.Name x _] v _ => locB C i x && chkD C d v
  | .drop e, .Expr v _ => notComp v && chkE C e v
  | .app i e, .Expr (.Call (.Attribute (.Name x _) m apos) [y] [] cpos) _ => decide (m = "append") && (apos.endLine == cpos.line) && noStar y && varB C i x && chkE C e y
  | .ext i p, .Expr (.Call (.Attribute (.Name x _) m apos) [y] [] cpos) _ => decide (m = "extend") && (apos.endLine == cpos.line) && noStar y && varB C i x && chkP C p y
  | .setL i k e, .Assign [.Subscript (.Name x _) y _] v _ => notComp v && notSl y && varB C i x && chkE C k y && chkE C e v
  | .put i k e, .Assign [.Subscript (.Name x _) y _] v _ => notComp v && notSl y && varB C i x && chkE C k y && chkE C e v
  | .hset p k e, .Assign [.Subscript o y _] v _ => notComp v && notSl y && chkP C p o && chkE C k y && chkE C e v
  | .ifS t a b, .If u xs ys _ => chkT C t u && chkB C a xs && chkB C b ys
  | .whileS t b, .While u xs [] _ => chkT C t u && chkB C b xs
  | .forS tg it b, .For t iter xs [] _ => noSet iter && chkI C it t iter && chkTg C tg t && chkB C b xs
  | .ret e, .Return (some v) _ => chkE C e v
  | .retN, .Return none _ => true
  | .pass, .Pass _ => true
  | .brk, .Break _ => true
  | .cont, .Continue _ => true
  | .never, _ => true
  | _, _ => false
def chkB (C : Ctx) : B → List Stmt → Bool
  | .nil, [] => true
  | .cons s b, x :: xs => chkS C s x && chkB C b xs
  | _, _ => false
end
end Px
/-! Px3a: how the relation moves. -/
namespace Px
open PySem L2
variable [KS]
section
variable {En : Sn} {S : ES} {Z Z' : Addr → Prop} {A A' : List Addr} {σ : St} {H H' : Hp}

/-- nothing that stood changes -/
theorem Rl.grow (R : Rl En S Z A σ H) (hk : ∀ a o, H a = some o → H' a = some o) (hz : ∀ a, H a ≠ none → (Z' a ↔ Z a)) (zt : ∀ a, Z' a → H' a ≠ none) :
    Rl En S Z' A σ H' ∧ Step (sn S Z A σ H) (sn S Z' A σ H') := by
  have st : Step (sn S Z A σ H) (sn S Z' A σ H') := ⟨fun a o h _ => ⟨hk a o h, hz a (by rw [show H a = some o from h]; exact nofun)⟩, ⟨[], by simp⟩, fun a h => .inl h, fun a h => by
    cases q : H a with
    | none => exact absurd q h
    | some o => show H' a ≠ none; rw [hk a o q]; exact nofun⟩
  have mo : ∀ a o, H a = some o → ¬ Z a → H' a = some o ∧ ¬ Z' a := fun a o h n => ⟨hk a o h, fun z => n ((hz a (by rw [h]; exact nofun)).mp z)⟩
  have heq : ∀ a, H a ≠ none → H' a = H a := fun a h => by
    cases q : H a with
    | none => exact absurd q h
    | some o => exact hk a o q
  refine ⟨⟨R.ent.trans st, R.slen, fun i s hs => ?_, R.inj, R.sep, ⟨R.sto.len, R.sto.nod, fun a ha => ?_, fun n b a h1 h2 => ?_⟩, zt, R.ew⟩, st⟩
  · obtain ⟨x, e, r⟩ := R.slot i s hs
    refine ⟨x, e, ?_⟩
    cases s with
    | no => exact True.intro
    | val d => obtain ⟨v, e1, r1⟩ := r; exact ⟨v, e1, r1.mono mo fun _ _ h => h⟩
    | own b =>
      obtain ⟨a, e1, z, ob⟩ := r
      have ht := ob.there
      exact ⟨a, e1, (hz a ht).mpr z, ob.mono mo (fun _ _ h => h) (heq a ht)⟩
  · rw [heq a (R.sto.trk a ha)]
    exact R.sto.trk a ha
  · obtain ⟨z, ob⟩ := R.sto.ob n b a h1 h2
    have ht := ob.there
    exact ⟨(hz a ht).mpr z, ob.mono mo (fun _ _ h => h) (heq a ht)⟩
/-- a new object that is a datum -/
theorem Rl.newF (R : Rl En S Z A σ H) {p : Addr} {o : HO} (hp : H p = none) : Rl En S Z A σ (upd H p o) ∧ Step (sn S Z A σ H) (sn S Z A σ (upd H p o)) ∧ ¬ Z p := by
  have ne : ∀ a, H a ≠ none → a ≠ p := fun a h e => h (by rw [e]; exact hp)
  have nz : ¬ Z p := fun z => R.zt p z hp
  obtain ⟨a, b⟩ := R.grow (Z' := Z) (H' := upd H p o) (fun a u h => by rw [upd_ne (ne a (by rw [h]; exact nofun))]; exact h) (fun _ _ => Iff.rfl) (fun a z => by
    have h := R.zt a z
    rw [upd_ne (ne a h)]
    exact h)
  exact ⟨a, b, nz⟩
/-- a new object that nobody else has -/
theorem Rl.newT (R : Rl En S Z A σ H) {p : Addr} {o : HO} (hp : H p = none) : Rl En S (fun a => Z a ∨ a = p) A σ (upd H p o) ∧ Step (sn S Z A σ H) (sn S (fun a => Z a ∨ a = p) A σ (upd H p o)) ∧ ¬ (sn S Z A σ H).W p := by
  have ne : ∀ a, H a ≠ none → a ≠ p := fun a h e => h (by rw [e]; exact hp)
  obtain ⟨a, b⟩ := R.grow (Z' := fun a => Z a ∨ a = p) (H' := upd H p o) (fun a u h => by rw [upd_ne (ne a (by rw [h]; exact nofun))]; exact h)
    (fun a h => ⟨fun z => z.elim id fun e => absurd e (ne a h), .inl⟩) (fun a z => by
    rcases z with z | z
    · have h := R.zt a z
      rw [upd_ne (ne a h)]
      exact h
    · rw [z, upd_same]; exact nofun)
  exact ⟨a, b, fun w => R.wt p w hp⟩

theorem upd_liv {a x : Addr} {o : HO} (h : H x ≠ none) : upd H a o x ≠ none := by
  by_cases e : x = a
  · rw [e, upd_same]; exact nofun
  · rw [upd_ne e]; exact h
/-- the data behind a write at a -/
theorem off_mono {a : Addr} {o : HO} (z : Z a) : ∀ b u, H b = some u → ¬ Z b → upd H a o b = some u ∧ ¬ Z b := fun b u h n => ⟨by rw [upd_ne (fun e => n (by rw [e]; exact z))]; exact h, n⟩
/-- a name's own object is written -/
theorem Rl.wr (R : Rl En S Z A σ H) {i : Nat} {b b' : Ob} {a : Addr} {o : HO} (hi : S.r[i]? = some (.own b)) (ha : σ[i]? = some (some (.ref a))) (hb : ObH Z A (upd H a o) a b') :
    Rl En { S with r := S.r.set i (.own b') } Z A σ (upd H a o) ∧ Step (sn S Z A σ H) (sn { S with r := S.r.set i (.own b') } Z A σ (upd H a o)) := by
  have hlt := (List.getElem?_eq_some_iff.mp hi).1
  have ow : Own S.r σ a := ⟨i, _, hi, rfl, ha⟩
  obtain ⟨za, ta⟩ := R.own ow
  have nA := R.sep a ow
  have ow' : ∀ x, Own (S.r.set i (.own b')) σ x → Own S.r σ x := fun x ⟨j, s, h1, h2, h3⟩ => by
    by_cases e : i = j
    · subst e
      exact ⟨i, _, hi, rfl, h3⟩
    · rw [List.getElem?_set_ne e] at h1
      exact ⟨j, s, h1, h2, h3⟩
  have st : Step (sn S Z A σ H) (sn { S with r := S.r.set i (.own b') } Z A σ (upd H a o)) := by
    refine ⟨fun x u h n => ⟨?_, Iff.rfl⟩, ⟨[], by simp⟩, fun x h => .inl (h.imp id (ow' x)), fun x h => upd_liv h⟩
    show upd H a o x = some u
    rw [upd_ne (fun e => n (.inr (by rw [e]; exact ow)))]
    exact h
  refine ⟨⟨R.ent.trans st, by simpa using R.slen, fun j s hs => ?_, fun j k s t x h1 h2 h3 h4 h5 h6 => ?_, fun x h => R.sep x (ow' x h), ⟨R.sto.len, R.sto.nod, fun x hx => ?_, fun n c x h1 h2 => ?_⟩, fun x z => ?_, R.ew⟩, st⟩
  · by_cases e : i = j
    · subst e
      rw [List.getElem?_set_self hlt] at hs
      cases hs
      exact ⟨_, ha, a, rfl, za, hb⟩
    · rw [List.getElem?_set_ne e] at hs
      obtain ⟨x, e1, r⟩ := R.slot j s hs
      refine ⟨x, e1, ?_⟩
      cases s with
      | no => exact True.intro
      | val d => obtain ⟨v, e2, r1⟩ := r; exact ⟨v, e2, r1.mono (off_mono za) fun _ _ h => h⟩
      | own c =>
        obtain ⟨y, e2, z, ob⟩ := r
        have hne : y ≠ a := fun q => by
          rw [e2, q] at e1
          exact e (R.inj i j _ _ a hi rfl hs rfl ha e1)
        exact ⟨y, e2, z, ob.mono (off_mono za) (fun _ _ h => h) (upd_ne hne)⟩
  · have own_at : ∀ (j : Nat) (s : Sl), (S.r.set i (.own b'))[j]? = some s → isOwn s = true → ∃ s', S.r[j]? = some s' ∧ isOwn s' = true := fun j s h1 h2 => by
      by_cases e : i = j
      · subst e; exact ⟨_, hi, rfl⟩
      · rw [List.getElem?_set_ne e] at h1; exact ⟨s, h1, h2⟩
    obtain ⟨s', g1, g2⟩ := own_at j s h1 h2
    obtain ⟨t', g3, g4⟩ := own_at k t h3 h4
    exact R.inj j k s' t' x g1 g2 g3 g4 h5 h6
  · rw [upd_ne (fun e => nA (by rw [← e]; exact hx))]
    exact R.sto.trk x hx
  · obtain ⟨z, ob⟩ := R.sto.ob n c x h1 h2
    exact ⟨z, ob.mono (off_mono za) (fun _ _ h => h) (upd_ne fun e => nA (by rw [← e]; exact List.mem_of_getElem? h2))⟩
  · by_cases e : x = a
    · rw [e, upd_same]; exact nofun
    · rw [upd_ne e]; exact R.zt x z
/-- a shared object is written -/
theorem Rl.hwr (R : Rl En S Z A σ H) {n : Nat} {b b' : Ob} {a : Addr} {o : HO} (hn : S.st[n]? = some b) (ha : A[n]? = some a) (hb : ObH Z A (upd H a o) a b') :
    Rl En { S with st := S.st.set n b' } Z A σ (upd H a o) ∧ Step (sn S Z A σ H) (sn { S with st := S.st.set n b' } Z A σ (upd H a o)) := by
  have hlt := (List.getElem?_eq_some_iff.mp hn).1
  have mA : a ∈ A := List.mem_of_getElem? ha
  have za : Z a := (R.sto.ob n b a hn ha).1
  have st : Step (sn S Z A σ H) (sn { S with st := S.st.set n b' } Z A σ (upd H a o)) := by
    refine ⟨fun x u h n => ⟨?_, Iff.rfl⟩, ⟨[], by simp⟩, fun x h => .inl h, fun x h => upd_liv h⟩
    show upd H a o x = some u
    rw [upd_ne (fun e => n (.inl (by rw [e]; exact mA)))]
    exact h
  refine ⟨⟨R.ent.trans st, R.slen, fun j s hs => ?_, R.inj, R.sep, ⟨by simpa using R.sto.len, R.sto.nod, fun x hx => ?_, fun m c x h1 h2 => ?_⟩, fun x z => ?_, R.ew⟩, st⟩
  · obtain ⟨x, e1, r⟩ := R.slot j s hs
    refine ⟨x, e1, ?_⟩
    cases s with
    | no => exact True.intro
    | val d => obtain ⟨v, e2, r1⟩ := r; exact ⟨v, e2, r1.mono (off_mono za) fun _ _ h => h⟩
    | own c =>
      obtain ⟨y, e2, z, ob⟩ := r
      have hne : y ≠ a := fun q => R.sep a ⟨j, _, hs, rfl, by rw [← q, ← e2]; exact e1⟩ mA
      exact ⟨y, e2, z, ob.mono (off_mono za) (fun _ _ h => h) (upd_ne hne)⟩
  · by_cases e : x = a
    · rw [e, upd_same]; exact nofun
    · rw [upd_ne e]; exact R.sto.trk x hx
  · by_cases e : n = m
    · subst e
      rw [List.getElem?_set_self hlt] at h1
      cases h1
      rw [ha] at h2
      cases h2
      exact ⟨za, hb⟩
    · rw [List.getElem?_set_ne e] at h1
      obtain ⟨z, ob⟩ := R.sto.ob m c x h1 h2
      refine ⟨z, ob.mono (off_mono za) (fun _ _ h => h) (upd_ne fun q => ?_)⟩
      subst q
      exact e (nodup_at R.sto.nod ha h2)
  · by_cases e : x = a
    · rw [e, upd_same]; exact nofun
    · rw [upd_ne e]; exact R.zt x z
where
  nodup_at {l : List Addr} (h : l.Nodup) {i j : Nat} {x : Addr} (a : l[i]? = some x) (b : l[j]? = some x) : i = j := by
    obtain ⟨h1, e1⟩ := List.getElem?_eq_some_iff.mp a
    obtain ⟨h2, e2⟩ := List.getElem?_eq_some_iff.mp b
    exact (List.getElem_inj h).mp (e1.trans e2.symm)
/-- a name's own object becomes a datum; o: as it stands then -/
theorem Rl.fz (R : Rl En S Z A σ H) {i : Nat} {b : Ob} {a : Addr} {o : HO} (hi : S.r[i]? = some (.own b)) (ha : σ[i]? = some (some (.ref a))) (hb : Rp (fun x => Z x ∧ x ≠ a) A (upd H a o) b.frz (.ref a)) :
    Rl En { S with r := S.r.set i (.val b.frz) } (fun x => Z x ∧ x ≠ a) A σ (upd H a o) ∧ Step (sn S Z A σ H) (sn { S with r := S.r.set i (.val b.frz) } (fun x => Z x ∧ x ≠ a) A σ (upd H a o)) := by
  have hlt := (List.getElem?_eq_some_iff.mp hi).1
  have ow : Own S.r σ a := ⟨i, _, hi, rfl, ha⟩
  obtain ⟨za, ta⟩ := R.own ow
  have nA := R.sep a ow
  have ow' : ∀ x, Own (S.r.set i (.val b.frz)) σ x → Own S.r σ x ∧ x ≠ a := fun x ⟨j, s, h1, h2, h3⟩ => by
    by_cases e : i = j
    · subst e
      rw [List.getElem?_set_self hlt] at h1
      cases h1
      cases h2
    · rw [List.getElem?_set_ne e] at h1
      refine ⟨⟨j, s, h1, h2, h3⟩, fun q => ?_⟩
      subst q
      exact e (R.inj i j _ _ x hi rfl h1 h2 ha h3)
  have st : Step (sn S Z A σ H) (sn { S with r := S.r.set i (.val b.frz) } (fun x => Z x ∧ x ≠ a) A σ (upd H a o)) := by
    refine ⟨fun x u h n => ?_, ⟨[], by simp⟩, fun x h => .inl (h.imp id fun w => (ow' x w).1), fun x h => upd_liv h⟩
    have ne : x ≠ a := fun e => n (.inr (by rw [e]; exact ow))
    refine ⟨?_, fun z => z.1, fun z => ⟨z, ne⟩⟩
    show upd H a o x = some u
    rw [upd_ne ne]
    exact h
  have mo : ∀ c u, H c = some u → ¬ Z c → upd H a o c = some u ∧ ¬ (Z c ∧ c ≠ a) := fun c u h n => ⟨(off_mono (o := o) za c u h n).1, fun z => n z.1⟩
  refine ⟨⟨R.ent.trans st, by simpa using R.slen, fun j s hs => ?_, fun j k s t x h1 h2 h3 h4 h5 h6 => ?_, fun x h => R.sep x (ow' x h).1, ⟨R.sto.len, R.sto.nod, fun x hx => ?_, fun n c x h1 h2 => ?_⟩, fun x z => ?_, R.ew⟩, st⟩
  · by_cases e : i = j
    · subst e
      rw [List.getElem?_set_self hlt] at hs
      cases hs
      exact ⟨_, ha, _, rfl, hb⟩
    · rw [List.getElem?_set_ne e] at hs
      obtain ⟨x, e1, r⟩ := R.slot j s hs
      refine ⟨x, e1, ?_⟩
      cases s with
      | no => exact True.intro
      | val d => obtain ⟨v, e2, r1⟩ := r; exact ⟨v, e2, r1.mono mo fun _ _ h => h⟩
      | own c =>
        obtain ⟨y, e2, z, ob⟩ := r
        have hne : y ≠ a := fun q => by
          rw [e2, q] at e1
          exact e (R.inj i j _ _ a hi rfl hs rfl ha e1)
        exact ⟨y, e2, ⟨z, hne⟩, ob.mono mo (fun _ _ h => h) (upd_ne hne)⟩
  · have own_at : ∀ (j : Nat) (s : Sl), (S.r.set i (.val b.frz))[j]? = some s → isOwn s = true → S.r[j]? = some s := fun j s h1 h2 => by
      by_cases e : i = j
      · subst e
        rw [List.getElem?_set_self hlt] at h1
        cases h1
        cases h2
      · rw [List.getElem?_set_ne e] at h1; exact h1
    exact R.inj j k s t x (own_at j s h1 h2) h2 (own_at k t h3 h4) h4 h5 h6
  · rw [upd_ne (fun e => nA (by rw [← e]; exact hx))]
    exact R.sto.trk x hx
  · obtain ⟨z, ob⟩ := R.sto.ob n c x h1 h2
    have ne : x ≠ a := fun e => nA (by rw [← e]; exact List.mem_of_getElem? h2)
    exact ⟨⟨z, ne⟩, ob.mono mo (fun _ _ h => h) (upd_ne ne)⟩
  · rw [upd_ne z.2]; exact R.zt x z.1
/-- a new object that nobody else has becomes shared -/
theorem Rl.share (R : Rl En S Z A σ H) {p : Addr} {b : Ob} (zp : Z p) (nw : ¬ (sn S Z A σ H).W p) (hE : En.H p = none) (hb : ObH Z A H p b) :
    Rl En { S with st := S.st ++ [b] } Z (A ++ [p]) σ H := by
  have hA : ∀ (n : Nat) (a : Addr), A[n]? = some a → (A ++ [p])[n]? = some a := fun n a e => by
    rw [List.getElem?_append_left (List.getElem?_eq_some_iff.mp e).1]; exact e
  have mo : ∀ a o, H a = some o → ¬ Z a → H a = some o ∧ ¬ Z a := fun a o h n => ⟨h, n⟩
  obtain ⟨m0, e0⟩ := R.ent.pre
  have ent : Step En (sn { S with st := S.st ++ [b] } Z (A ++ [p]) σ H) := by
    refine ⟨R.ent.keep, ⟨m0 ++ [p], ?_⟩, fun x h => ?_, R.ent.liv⟩
    · show A ++ [p] = En.A ++ (m0 ++ [p])
      rw [show A = En.A ++ m0 from e0, List.append_assoc]
    · rcases h with h | h
      · rcases List.mem_append.mp h with h | h
        · exact R.ent.nw x (.inl h)
        · rw [List.mem_singleton.mp h]; exact .inr hE
      · exact R.ent.nw x (.inr h)
  refine ⟨ent, R.slen, fun i s hs => ?_, R.inj, fun a h q => ?_, ⟨by simpa using R.sto.len, ?_, fun a h => ?_, fun n c a h1 h2 => ?_⟩, R.zt, R.ew⟩
  · obtain ⟨x, e, r⟩ := R.slot i s hs
    refine ⟨x, e, ?_⟩
    cases s with
    | no => exact True.intro
    | val d => obtain ⟨v, e1, r1⟩ := r; exact ⟨v, e1, r1.mono mo hA⟩
    | own c => obtain ⟨a, e1, z, ob⟩ := r; exact ⟨a, e1, z, ob.mono mo hA rfl⟩
  · rcases List.mem_append.mp q with q | q
    · exact R.sep a h q
    · rw [List.mem_singleton.mp q] at h; exact nw (.inr h)
  · rw [List.nodup_append]
    refine ⟨R.sto.nod, by simp, fun x hx y hy e => ?_⟩
    rw [List.mem_singleton.mp hy] at e
    exact nw (.inl (by rw [← e]; exact hx))
  · rcases List.mem_append.mp h with h | h
    · exact R.sto.trk a h
    · rw [List.mem_singleton.mp h]; exact hb.there
  · by_cases hn : n < S.st.length
    · rw [List.getElem?_append_left hn] at h1
      rw [List.getElem?_append_left (by rw [R.sto.len]; exact hn)] at h2
      obtain ⟨z, ob⟩ := R.sto.ob n c a h1 h2
      exact ⟨z, ob.mono mo hA rfl⟩
    · have hle : S.st.length ≤ n := Nat.le_of_not_lt hn
      rw [List.getElem?_append_right hle] at h1
      rw [List.getElem?_append_right (by rw [R.sto.len]; exact hle), R.sto.len] at h2
      cases hd : n - S.st.length with
      | zero =>
        rw [hd] at h1 h2
        cases h1
        cases h2
        exact ⟨zp, hb.mono mo hA rfl⟩
      | succ k => rw [hd] at h1; cases h1
/-- a name gets a value -/
theorem Rl.setV (R : Rl En S Z A σ H) {i : Nat} {d : D} {v : V} (hi : i < S.r.length) (r : Rp Z A H d v) : Rl En { S with r := S.r.set i (.val d) } Z A (σ.set i (some v)) H := by
  have hσ : i < σ.length := by rw [← R.slen]; exact hi
  have ow' : ∀ x, Own (S.r.set i (.val d)) (σ.set i (some v)) x → Own S.r σ x := fun x ⟨j, s, h1, h2, h3⟩ => by
    by_cases e : i = j
    · subst e
      rw [List.getElem?_set_self hi] at h1
      cases h1
      cases h2
    · rw [List.getElem?_set_ne e] at h1 h3
      exact ⟨j, s, h1, h2, h3⟩
  refine ⟨⟨R.ent.keep, R.ent.pre, fun x h => R.ent.nw x (h.imp id (ow' x)), R.ent.liv⟩, by simpa using R.slen, fun j s hs => ?_, fun j k s t x h1 h2 h3 h4 h5 h6 => ?_, fun x h => R.sep x (ow' x h), R.sto, R.zt, R.ew⟩
  · by_cases e : i = j
    · subst e
      rw [List.getElem?_set_self hi] at hs
      cases hs
      exact ⟨some v, List.getElem?_set_self hσ, v, rfl, r⟩
    · rw [List.getElem?_set_ne e] at hs ⊢
      exact R.slot j s hs
  · have own_at : ∀ (j : Nat) (s : Sl), (S.r.set i (.val d))[j]? = some s → isOwn s = true → i ≠ j ∧ S.r[j]? = some s := fun j s h1 h2 => by
      by_cases e : i = j
      · subst e
        rw [List.getElem?_set_self hi] at h1
        cases h1
        cases h2
      · rw [List.getElem?_set_ne e] at h1; exact ⟨e, h1⟩
    obtain ⟨n1, g1⟩ := own_at j s h1 h2
    obtain ⟨n2, g2⟩ := own_at k t h3 h4
    rw [List.getElem?_set_ne n1] at h5
    rw [List.getElem?_set_ne n2] at h6
    exact R.inj j k s t x g1 h2 g2 h4 h5 h6
/-- a name gets a new object of its own -/
theorem Rl.setO (R : Rl En S Z A σ H) {i : Nat} {b : Ob} {p : Addr} (hi : i < S.r.length) (zp : Z p) (nw : ¬ (sn S Z A σ H).W p) (hE : En.H p = none) (hb : ObH Z A H p b) : Rl En { S with r := S.r.set i (.own b) } Z A (σ.set i (some (.ref p))) H := by
  have hσ : i < σ.length := by rw [← R.slen]; exact hi
  have ow' : ∀ x, Own (S.r.set i (.own b)) (σ.set i (some (.ref p))) x → Own S.r σ x ∨ x = p := fun x ⟨j, s, h1, h2, h3⟩ => by
    by_cases e : i = j
    · subst e
      rw [List.getElem?_set_self hσ] at h3
      cases h3
      exact .inr rfl
    · rw [List.getElem?_set_ne e] at h1 h3
      exact .inl ⟨j, s, h1, h2, h3⟩
  refine ⟨⟨R.ent.keep, R.ent.pre, fun x h => ?_, R.ent.liv⟩, by simpa using R.slen, fun j s hs => ?_, fun j k s t x h1 h2 h3 h4 h5 h6 => ?_, fun x h q => ?_, R.sto, R.zt, R.ew⟩
  · rcases h with h | h
    · exact R.ent.nw x (.inl h)
    · rcases ow' x h with h | h
      · exact R.ent.nw x (.inr h)
      · rw [h]; exact .inr hE
  · by_cases e : i = j
    · subst e
      rw [List.getElem?_set_self hi] at hs
      cases hs
      exact ⟨_, List.getElem?_set_self hσ, p, rfl, zp, hb⟩
    · rw [List.getElem?_set_ne e] at hs ⊢
      exact R.slot j s hs
  · by_cases ej : i = j
    · by_cases ek : i = k
      · rw [← ej, ← ek]
      · subst ej
        rw [List.getElem?_set_self hσ] at h5
        cases h5
        rw [List.getElem?_set_ne ek] at h3 h6
        exact absurd (.inr ⟨k, t, h3, h4, h6⟩) nw
    · rw [List.getElem?_set_ne ej] at h1 h5
      by_cases ek : i = k
      · subst ek
        rw [List.getElem?_set_self hσ] at h6
        cases h6
        exact absurd (.inr ⟨j, s, h1, h2, h5⟩) nw
      · rw [List.getElem?_set_ne ek] at h3 h6
        exact R.inj j k s t x h1 h2 h3 h4 h5 h6
  · rcases ow' x h with h | h
    · exact R.sep x h q
    · rw [h] at q; exact nw (.inl q)
/-- a fresh object was fresh at the entry -/
theorem Rl.freshE (R : Rl En S Z A σ H) {p : Addr} (hp : H p = none) : En.H p = none := R.ent.was hp
/-- a new object that nobody else has becomes a datum; o: as it stands then -/
theorem Rl.fzTmp {s0 : Sn} (R : Rl En S Z A σ H) {p : Addr} {o : HO} (nw : ¬ (sn S Z A σ H).W p) (st : Step s0 (sn S Z A σ H)) (h0 : s0.H p = none) (hE : En.H p = none) (zp : Z p) :
    Rl En S (fun x => Z x ∧ x ≠ p) A σ (upd H p o) ∧ Step s0 (sn S (fun x => Z x ∧ x ≠ p) A σ (upd H p o)) := by
  have go : ∀ t : Sn, Step t (sn S Z A σ H) → t.H p = none → Step t (sn S (fun x => Z x ∧ x ≠ p) A σ (upd H p o)) := fun t st h0 => by
    refine ⟨fun x u h n => ?_, st.pre, st.nw, fun x h => upd_liv (st.liv x h)⟩
    have ne : x ≠ p := fun e => by rw [e, h0] at h; cases h
    obtain ⟨a, b⟩ := st.keep x u h n
    refine ⟨?_, fun z => b.mp z.1, fun z => ⟨b.mpr z, ne⟩⟩
    show upd H p o x = some u
    rw [upd_ne ne]
    exact a
  have mo : ∀ c u, H c = some u → ¬ Z c → upd H p o c = some u ∧ ¬ (Z c ∧ c ≠ p) := fun c u h n => ⟨(off_mono (o := o) zp c u h n).1, fun z => n z.1⟩
  refine ⟨⟨go En R.ent hE, R.slen, fun i s hs => ?_, R.inj, R.sep, ⟨R.sto.len, R.sto.nod, fun x hx => upd_liv (R.sto.trk x hx), fun n c x h1 h2 => ?_⟩, fun x z => upd_liv (R.zt x z.1), R.ew⟩, go s0 st h0⟩
  · obtain ⟨x, e1, r⟩ := R.slot i s hs
    refine ⟨x, e1, ?_⟩
    cases s with
    | no => exact True.intro
    | val d => obtain ⟨v, e2, r1⟩ := r; exact ⟨v, e2, r1.mono mo fun _ _ h => h⟩
    | own c =>
      obtain ⟨y, e2, z, ob⟩ := r
      have hne : y ≠ p := fun q => nw (.inr ⟨i, _, hs, rfl, by rw [← q, ← e2]; exact e1⟩)
      exact ⟨y, e2, ⟨z, hne⟩, ob.mono mo (fun _ _ h => h) (upd_ne hne)⟩
  · obtain ⟨z, ob⟩ := R.sto.ob n c x h1 h2
    have ne : x ≠ p := fun e => nw (.inl (by rw [← e]; exact List.mem_of_getElem? h2))
    exact ⟨⟨z, ne⟩, ob.mono mo (fun _ _ h => h) (upd_ne ne)⟩
end
end Px
/-! Px3b: operations on data, as HandS's rules take them. -/
namespace Px
open PySem L2
variable [KS]

/-- what stands at an operand that is only read -/
def RpT (Z : Addr → Prop) (A : List Addr) (H : Hp) (d : D) (v : V) : Prop := match d with
  | .lst ds => ∃ a vs, v = .ref a ∧ H a = some (.lst vs) ∧ vs.length ≤ sizeLine ∧ Rps Z A H ds vs
  | .dic ks ds => ∃ (a : Addr) (kws : List (Key × V)), v = .ref a ∧ Rd H a (.dK kws) ∧ ks = kws.map (·.1) ∧ DOk kws ∧ Rps Z A H ds (kws.map (·.2))
  | d => Rp Z A H d v
section
variable {Z : Addr → Prop} {A : List Addr} {H : Hp}
theorem Rp.top {d : D} {v : V} (r : Rp Z A H d v) : RpT Z A H d v := by
  cases r with
  | lst h1 h2 hl h3 => exact ⟨_, _, rfl, h2, hl, h3⟩
  | dic h1 h2 h3 hl h4 => exact ⟨_, _, rfl, .inr ⟨_, h2⟩, h3, hl, h4⟩
  | non => exact .non
  | bl b => exact .bl b
  | int i => exact .int i
  | str h1 h2 => exact .str h1 h2
  | tup h1 h2 hl h3 => exact .tup h1 h2 hl h3
  | hdl h => exact .hdl h
  | scr h => exact .scr h
theorem ObH.top {a : Addr} {b : Ob} (h : ObH Z A H a b) : RpT Z A H b.frz (.ref a) := by
  cases b with
  | lst ds => obtain ⟨vs, h1, hl, h2⟩ := h; exact ⟨a, vs, rfl, h1, hl, h2⟩
  | dic kvs => obtain ⟨kws, h1, h2, hl, h3⟩ := h; exact ⟨a, kws, rfl, .inl h1, h2.symm, hl, h3⟩
theorem upd_self {a : Addr} {o : HO} (h : H a = some o) : upd H a o = H := by
  funext b
  by_cases e : b = a
  · rw [e, upd_same, h]
  · rw [upd_ne e]

mutual
theorem py_dp {K : PySem.W.Frag} : ∀ {d : D} {v : V}, Rp Z A H d v → d.pok = true → Dp K H v d.py ∧ PyData.canLay0 d.py = true
  | _, _, .non, _ => ⟨.non, by simp only [D.py, PyData.canLay0]⟩
  | _, _, .bl b, _ => ⟨.bl b, by simp only [D.py, PyData.canLay0]⟩
  | _, _, .int i, _ => ⟨.int i, by simp only [D.py, PyData.canLay0]⟩
  | _, _, .str h1 _, _ => ⟨.str _, by simp only [D.py, PyData.canLay0]; exact h1⟩
  | _, _, .tup _ h2 _ h3, p => by
    obtain ⟨a, b⟩ := py_dps (K := K) h3 (by simpa only [D.pok] using p)
    exact ⟨by simp only [D.py]; exact .tup (SqT.of h2) a, by simp only [D.py, PyData.canLay0]; exact b⟩
  | _, _, .lst _ h2 _ h3, p => by
    obtain ⟨a, b⟩ := py_dps (K := K) h3 (by simpa only [D.pok] using p)
    exact ⟨by simp only [D.py]; exact .lst (SqL.of h2) a, by simp only [D.py, PyData.canLay0]; exact b⟩
  | _, _, .dic _ _ _ _ _, p => by simp [D.pok] at p
  | _, _, .hdl _, p => by simp [D.pok] at p
  | _, _, .scr _, p => by simp [D.pok] at p
theorem py_dps {K : PySem.W.Frag} : ∀ {ds : List D} {vs : List V}, Rps Z A H ds vs → D.poks ds = true → DpAll K H vs (D.pys ds) ∧ PyData.canLayAll0 (D.pys ds) = true
  | _, _, .nil, _ => ⟨by simp only [D.pys]; exact .nil, by simp only [D.pys, PyData.canLayAll0]⟩
  | _, _, .cons r t, p => by
    have p' := Bool.and_eq_true_iff.mp (by simpa only [D.poks] using p)
    obtain ⟨a, b⟩ := py_dp (K := K) r p'.1
    obtain ⟨a2, b2⟩ := py_dps (K := K) t p'.2
    exact ⟨by simp only [D.pys]; exact .cons a a2, by simp only [D.pys, PyData.canLayAll0, b, b2, Bool.and_self]⟩
end
mutual
theorem py_dep : ∀ d : D, d.py.depth = d.dep
  | .non => by simp only [D.py, D.dep, PyData.depth]
  | .bl b => by simp only [D.py, D.dep, PyData.depth]
  | .int i => by simp only [D.py, D.dep, PyData.depth]
  | .str x => by simp only [D.py, D.dep, PyData.depth]
  | .tup ds => by simp only [D.py, D.dep, PyData.depth, py_deps ds]
  | .lst ds => by simp only [D.py, D.dep, PyData.depth, py_deps ds]
  | .dic _ _ => by simp only [D.py, D.dep, PyData.depth]
  | .hdl _ => by simp only [D.py, D.dep, PyData.depth]
  | .scr _ => by simp only [D.py, D.dep, PyData.depth]
theorem py_deps : ∀ ds : List D, PyData.depthAll (D.pys ds) = D.deps ds
  | [] => by simp only [D.pys, D.deps, PyData.depthAll]
  | d :: ds => by simp only [D.pys, D.deps, PyData.depthAll, py_dep d, py_deps ds]
end
theorem pys_map : ∀ ds : List D, D.pys ds = ds.map D.py
  | [] => by simp only [D.pys, List.map_nil]
  | d :: ds => by simp only [D.pys, List.map_cons, pys_map ds]
theorem top_dp {K : PySem.W.Frag} {d : D} {v : V} (r : RpT Z A H d v) (p : d.pok = true) : Dp K H v d.py ∧ PyData.canLay0 d.py = true := by
  cases d with
  | lst ds =>
    obtain ⟨a, vs, rfl, h, _, h3⟩ := r
    obtain ⟨x, y⟩ := py_dps (K := K) h3 (by simpa only [D.pok] using p)
    exact ⟨by simp only [D.py]; exact .lst (SqL.of h) x, by simp only [D.py, PyData.canLay0]; exact y⟩
  | dic ks ds => simp [D.pok] at p
  | non => exact py_dp (show Rp Z A H _ v from r) p
  | bl b => exact py_dp (show Rp Z A H _ v from r) p
  | int i => exact py_dp (show Rp Z A H _ v from r) p
  | str x => exact py_dp (show Rp Z A H _ v from r) p
  | tup ds => exact py_dp (show Rp Z A H _ v from r) p
  | hdl n => exact py_dp (show Rp Z A H _ v from r) p
  | scr ns => exact py_dp (show Rp Z A H _ v from r) p
end

section
variable {X : Cx}
/-- == of data -/
def rEqM (K : PySem.W.Frag) (neg : Bool) : R2 := fun x y H Q => ∃ d e, Dp K H x d ∧ Dp K H y e ∧ PyData.canLay0 d = true ∧ PyData.canLay0 e = true ∧ min d.depth e.depth ≤ 150 ∧ Q (.bl (if neg then !PyData.eqv d e else PyData.eqv d e)) H
theorem op_eqM (hu : X.A.units + 200 < cLine) : OpR X (compareOp .Eq) (rEqM X.K false) := by
  intro pins s σ H x y v u Q I rx ry h
  obtain ⟨d, e, hd, he, sd, se, hm, q⟩ := h
  obtain ⟨as, r1⟩ := Dp.reads I d x v hd rx
  obtain ⟨bs, r2⟩ := Dp.reads I e y u he ry
  exact SeqAt.compareEq_reads r1 r2 sd se (by omega) ⟨.bl _, H, I, rfl, q⟩
theorem op_neM (hu : X.A.units + 200 < cLine) : OpR X (compareOp .NotEq) (rEqM X.K true) := by
  intro pins s σ H x y v u Q I rx ry h
  obtain ⟨d, e, hd, he, sd, se, hm, q⟩ := h
  obtain ⟨as, r1⟩ := Dp.reads I d x v hd rx
  obtain ⟨bs, r2⟩ := Dp.reads I e y u he ry
  exact SeqAt.compareNe_reads r1 r2 sd se (by omega) ⟨.bl _, H, I, rfl, q⟩
/-- in a list or a tuple of data -/
def rInM (K : PySem.W.Frag) (neg : Bool) : R2 := fun x y H Q => ∃ d ds, Dp K H x d ∧ (Dp K H y (.list ds) ∨ Dp K H y (.tuple ds)) ∧ PyData.canLay0 d = true ∧ PyData.canLayAll0 ds = true ∧ min (PyData.depthAll ds) d.depth ≤ 150 ∧
  Q (.bl (if neg then !(ds.any fun z => PyData.eqv z d) else ds.any fun z => PyData.eqv z d)) H
theorem op_inM (hu : X.A.units + 200 < cLine) : OpR X (compareOp .In) (rInM X.K false) := by
  intro pins s σ H x y v u Q I rx ry h
  obtain ⟨d, ds, hd, he, sd, se, hm, q⟩ := h
  obtain ⟨as, r1⟩ := Dp.reads I d x v hd rx
  rcases he with he | he
  · obtain ⟨bs, r2⟩ := Dp.reads I (.list ds) y u he ry
    exact SeqAt.in_list_reads r2 r1 se sd (by omega) ⟨.bl _, H, I, rfl, q⟩
  · obtain ⟨bs, r2⟩ := Dp.reads I (.tuple ds) y u he ry
    exact SeqAt.in_tuple_reads r2 r1 se sd (by omega) ⟨.bl _, H, I, rfl, q⟩
theorem op_notInM (hu : X.A.units + 200 < cLine) : OpR X (compareOp .NotIn) (rInM X.K true) := by
  intro pins s σ H x y v u Q I rx ry h
  obtain ⟨d, ds, hd, he, sd, se, hm, q⟩ := h
  obtain ⟨as, r1⟩ := Dp.reads I d x v hd rx
  rcases he with he | he
  · obtain ⟨bs, r2⟩ := Dp.reads I (.list ds) y u he ry
    exact SeqAt.notIn_list_reads r2 r1 se sd (by omega) ⟨.bl _, H, I, rfl, q⟩
  · obtain ⟨bs, r2⟩ := Dp.reads I (.tuple ds) y u he ry
    exact SeqAt.notIn_tuple_reads r2 r1 se sd (by omega) ⟨.bl _, H, I, rfl, q⟩
/-- in a dict of int and text keys -/
def rInK (neg : Bool) : R2 := fun x y H Q => ∃ a o, y = .ref a ∧ DGet H a x o ∧ Q (.bl (if neg then !o.isSome else o.isSome)) H
theorem op_inK (hu : X.A.units + 200 < cLine) : OpR X (compareOp .In) (rInK false) := by
  intro pins s σ H x y v u Q I rx ry h
  obtain ⟨a, o, rfl, g, q⟩ := h
  cases ry
  exact d_in (by omega) I g rx fun s' I' => ⟨.bl _, H, I', rfl, q⟩
theorem op_notInK (hu : X.A.units + 200 < cLine) : OpR X (compareOp .NotIn) (rInK true) := by
  intro pins s σ H x y v u Q I rx ry h
  obtain ⟨a, o, rfl, g, q⟩ := h
  cases ry
  exact d_notIn (by omega) I g rx fun s' I' => ⟨.bl _, H, I', rfl, q⟩
end

/-! ### keys -/
theorem keyD_rel {Z : Addr → Prop} {A : List Addr} {H : Hp} {d : D} {v : V} {k : Key} (r : Rp Z A H d v) (h : keyD d = some k) : v = kV k := by
  cases r with
  | int i => cases h; rfl
  | str h1 h2 => cases h; rfl
  | _ => cases h
theorem keyD_relT {Z : Addr → Prop} {A : List Addr} {H : Hp} {d : D} {v : V} {k : Key} (r : RpT Z A H d v) (h : keyD d = some k) : v = kV k := by
  cases d with
  | int i => exact keyD_rel (show Rp Z A H _ v from r) h
  | str x => exact keyD_rel (show Rp Z A H _ v from r) h
  | _ => cases h
theorem valV_look {Z : Addr → Prop} {A : List Addr} {H : Hp} : ∀ {kws : List (Key × V)} {ds : List D} (k : Key), Rps Z A H ds (kws.map (·.2)) → match look (kws.map (·.1)) ds k, valV kws k with
    | some d, some v => Rp Z A H d v
    | none, none => True
    | _, _ => False
  | [], ds, k, r => by
    cases r
    exact True.intro
  | (j, v) :: kws, ds, k, r => by
    cases r with
    | cons r t =>
      rename_i d ds
      have ih := valV_look k t
      unfold look at ih ⊢
      by_cases e : j = k
      · rw [valV_pos (p := (j, v)) e]
        simp only [List.map_cons, List.zip_cons_cons]
        rw [List.find?_cons_of_pos (by simpa using e)]
        exact r
      · rw [valV_neg (p := (j, v)) e]
        simp only [List.map_cons, List.zip_cons_cons]
        rw [List.find?_cons_of_neg (by simpa using e)]
        exact ih
theorem look_isSome : ∀ {kws : List (Key × V)} (k : Key), ((kws.map (·.1)).any fun q => decide (q = k)) = (valV kws k).isSome
  | [], k => rfl
  | (j, v) :: kws, k => by
    rw [List.map_cons, List.any_cons, look_isSome (kws := kws) k]
    by_cases e : j = k
    · rw [valV_pos (p := (j, v)) e]
      simp [e]
    · rw [valV_neg (p := (j, v)) e]
      simp [e]

/-! ### comparisons -/
theorem occ_neg {z c : Str} : True := True.intro
theorem top_of {Z : Addr → Prop} {A : List Addr} {H : Hp} {d : D} {v : V} (r : RpT Z A H d v) (h1 : ∀ ds, d ≠ .lst ds) (h2 : ∀ ks ds, d ≠ .dic ks ds) : Rp Z A H d v := by
  cases d with
  | lst ds => exact absurd rfl (h1 ds)
  | dic ks ds => exact absurd rfl (h2 ks ds)
  | non => exact r
  | bl b => exact r
  | int i => exact r
  | str x => exact r
  | tup ds => exact r
  | hdl n => exact r
  | scr ns => exact r
theorem rp_non {Z : Addr → Prop} {A : List Addr} {H : Hp} {d : D} {v : V} (r : RpT Z A H d v) : decide (v = .non) = isNon d := by
  cases d with
  | lst ds => obtain ⟨a, vs, rfl, _⟩ := r; rfl
  | dic ks ds => obtain ⟨a, vs, rfl, _⟩ := r; rfl
  | non => cases (show Rp Z A H _ v from r); rfl
  | bl b => cases (show Rp Z A H _ v from r); rfl
  | int i => cases (show Rp Z A H _ v from r); rfl
  | str x => cases (show Rp Z A H _ v from r); rfl
  | tup ds => cases (show Rp Z A H _ v from r); rfl
  | hdl n => cases (show Rp Z A H _ v from r); rfl
  | scr ns => cases (show Rp Z A H _ v from r); rfl
theorem cop_rule {X : Cx} {op : CmpOp} {x y : D} {b : Bool} (hu : X.A.units + 200 < cLine) (h : cop op x y = some b) :
    ∃ r : R2, OpR X (compareOp op) r ∧ ∀ (Z : Addr → Prop) (A : List Addr) (H : Hp) (u v : V) (Q : VK), RpT Z A H x u → RpT Z A H y v → Q (.bl b) H → r u v H Q := by
  have eqc : ∀ {x y : D} {b : Bool}, eqD x y = some b → (x.pok = true ∧ y.pok = true) ∧ min x.dep y.dep ≤ 150 ∧ b = PyData.eqv x.py y.py := fun {x y b} h => by
    unfold eqD at h
    split at h
    · rename_i q
      simp only [Bool.and_eq_true, decide_eq_true_eq] at q
      exact ⟨q.1, q.2, (Option.some.inj h).symm⟩
    · cases h
  have inc : ∀ {x y : D} {b : Bool}, inD x y = some b → (∃ ds, (y = .lst ds ∨ y = .tup ds) ∧ D.poks ds = true ∧ x.pok = true ∧ min (D.deps ds) x.dep ≤ 150 ∧ b = ds.any fun e => PyData.eqv e.py x.py) ∨
      (∃ ks ds k, y = .dic ks ds ∧ keyD x = some k ∧ b = ks.any fun q => decide (q = k)) ∨ ∃ z q, y = .str z ∧ x = .str q ∧ b = !(Builtin.Str.occurrences z q 0 z.length 1).isEmpty := fun {x y b} h => by
    unfold inD at h
    have mm : ∀ {ds : List D}, memD x ds = some b → D.poks ds = true ∧ x.pok = true ∧ min (D.deps ds) x.dep ≤ 150 ∧ b = ds.any fun e => PyData.eqv e.py x.py := fun {ds} h => by
      unfold memD at h
      split at h
      · rename_i q
        simp only [Bool.and_eq_true, decide_eq_true_eq] at q
        exact ⟨q.1.1, q.1.2, q.2, (Option.some.inj h).symm⟩
      · cases h
    cases y with
    | lst ds => exact .inl ⟨ds, .inl rfl, mm h⟩
    | tup ds => exact .inl ⟨ds, .inr rfl, mm h⟩
    | dic ks ds =>
      obtain ⟨k, h1, h2⟩ := Option.map_eq_some_iff.mp h
      exact .inr (.inl ⟨ks, ds, k, rfl, h1, h2.symm⟩)
    | str z =>
      cases x with
      | str q => exact .inr (.inr ⟨z, q, rfl, rfl, (Option.some.inj h).symm⟩)
      | _ => cases h
    | _ => cases h
  have int2 : ∀ {p : Int → Int → Bool} {x y : D} {b : Bool}, (match x, y with | .int i, .int j => some (p i j) | _, _ => none) = some b → ∃ i j, x = .int i ∧ y = .int j ∧ b = p i j := fun {p x y b} h => by
    cases x with
    | int i => cases y with
      | int j => exact ⟨i, j, rfl, rfl, (Option.some.inj h).symm⟩
      | _ => cases h
    | _ => cases h
  cases op with
  | Eq =>
    obtain ⟨⟨p1, p2⟩, hm, rfl⟩ := eqc h
    refine ⟨_, op_eqM hu, fun Z A H u v Q ru rv q => ?_⟩
    obtain ⟨a1, b1⟩ := top_dp (K := X.K) ru p1
    obtain ⟨a2, b2⟩ := top_dp (K := X.K) rv p2
    exact ⟨_, _, a1, a2, b1, b2, by rw [py_dep, py_dep]; exact hm, q⟩
  | NotEq =>
    obtain ⟨b', h1, rfl⟩ := Option.map_eq_some_iff.mp h
    obtain ⟨⟨p1, p2⟩, hm, rfl⟩ := eqc h1
    refine ⟨_, op_neM hu, fun Z A H u v Q ru rv q => ?_⟩
    obtain ⟨a1, b1⟩ := top_dp (K := X.K) ru p1
    obtain ⟨a2, b2⟩ := top_dp (K := X.K) rv p2
    exact ⟨_, _, a1, a2, b1, b2, by rw [py_dep, py_dep]; exact hm, q⟩
  | Lt =>
    obtain ⟨i, j, rfl, rfl, rfl⟩ := int2 h
    refine ⟨_, op_lt, fun Z A H u v Q ru rv q => ?_⟩
    cases (show Rp Z A H _ u from ru)
    cases (show Rp Z A H _ v from rv)
    exact ⟨i, j, rfl, rfl, q⟩
  | LtE =>
    obtain ⟨i, j, rfl, rfl, rfl⟩ := int2 h
    refine ⟨_, op_le, fun Z A H u v Q ru rv q => ?_⟩
    cases (show Rp Z A H _ u from ru)
    cases (show Rp Z A H _ v from rv)
    exact ⟨i, j, rfl, rfl, q⟩
  | Gt =>
    obtain ⟨i, j, rfl, rfl, rfl⟩ := int2 (p := fun i j => decide (j < i)) h
    refine ⟨_, op_gt, fun Z A H u v Q ru rv q => ?_⟩
    cases (show Rp Z A H _ u from ru)
    cases (show Rp Z A H _ v from rv)
    exact ⟨i, j, rfl, rfl, q⟩
  | GtE =>
    obtain ⟨i, j, rfl, rfl, rfl⟩ := int2 (p := fun i j => decide (j ≤ i)) h
    refine ⟨_, op_ge, fun Z A H u v Q ru rv q => ?_⟩
    cases (show Rp Z A H _ u from ru)
    cases (show Rp Z A H _ v from rv)
    exact ⟨i, j, rfl, rfl, q⟩
  | Is =>
    cases y with
    | non =>
      have e := (Option.some.inj h).symm
      refine ⟨_, op_isN, fun Z A H u v Q ru rv q => ?_⟩
      cases (show Rp Z A H _ v from rv)
      refine ⟨rfl, ?_⟩
      rw [rp_non ru, ← e]
      exact q
    | _ => cases h
  | IsNot =>
    cases y with
    | non =>
      have e := (Option.some.inj h).symm
      refine ⟨_, op_notN, fun Z A H u v Q ru rv q => ?_⟩
      cases (show Rp Z A H _ v from rv)
      refine ⟨rfl, ?_⟩
      rw [rp_non ru, ← e]
      exact q
    | _ => cases h
  | In =>
    rcases inc h with ⟨ds, hy, p1, p2, hm, rfl⟩ | ⟨ks, ds, k, rfl, hk, rfl⟩ | ⟨z, q, rfl, rfl, rfl⟩
    · refine ⟨_, op_inM hu, fun Z A H u v Q ru rv q => ?_⟩
      obtain ⟨a1, b1⟩ := top_dp (K := X.K) ru p2
      have a2 : (Dp X.K H v (.list (D.pys ds)) ∨ Dp X.K H v (.tuple (D.pys ds))) ∧ PyData.canLayAll0 (D.pys ds) = true := by
        rcases hy with rfl | rfl
        · obtain ⟨a, vs, rfl, h1, _, h2⟩ := rv
          obtain ⟨x1, x2⟩ := py_dps (K := X.K) h2 p1
          exact ⟨.inl (.lst (SqL.of h1) x1), x2⟩
        · cases (show Rp Z A H _ v from rv) with
          | tup n1 h1 _ h2 =>
            obtain ⟨x1, x2⟩ := py_dps (K := X.K) h2 p1
            exact ⟨.inr (.tup (SqT.of h1) x1), x2⟩
      refine ⟨_, _, a1, a2.1, b1, a2.2, by rw [py_dep, py_deps]; exact hm, ?_⟩
      simp only [Bool.false_eq_true, if_false]
      rw [pys_map, List.any_map]
      exact q
    · refine ⟨_, op_inK hu, fun Z A H u v Q ru rv q => ?_⟩
      obtain ⟨a, kws, rfl, h1, rfl, _, h2⟩ := rv
      refine ⟨a, valV kws k, rfl, .inl ⟨kws, k, h1, keyD_relT ru hk, rfl⟩, ?_⟩
      simp only [Bool.false_eq_true, if_false]
      rw [← look_isSome]
      exact q
    · refine ⟨_, op_in_str, fun Z A H u v Q ru rv q => ?_⟩
      cases (show Rp Z A H _ u from ru)
      cases (show Rp Z A H _ v from rv)
      exact ⟨_, _, rfl, rfl, q⟩
  | NotIn =>
    obtain ⟨b', g1, rfl⟩ := Option.map_eq_some_iff.mp h
    rcases inc g1 with ⟨ds, hy, p1, p2, hm, rfl⟩ | ⟨ks, ds, k, rfl, hk, rfl⟩ | ⟨z, q, rfl, rfl, rfl⟩
    · refine ⟨_, op_notInM hu, fun Z A H u v Q ru rv q => ?_⟩
      obtain ⟨a1, b1⟩ := top_dp (K := X.K) ru p2
      have a2 : (Dp X.K H v (.list (D.pys ds)) ∨ Dp X.K H v (.tuple (D.pys ds))) ∧ PyData.canLayAll0 (D.pys ds) = true := by
        rcases hy with rfl | rfl
        · obtain ⟨a, vs, rfl, h1, _, h2⟩ := rv
          obtain ⟨x1, x2⟩ := py_dps (K := X.K) h2 p1
          exact ⟨.inl (.lst (SqL.of h1) x1), x2⟩
        · cases (show Rp Z A H _ v from rv) with
          | tup n1 h1 _ h2 =>
            obtain ⟨x1, x2⟩ := py_dps (K := X.K) h2 p1
            exact ⟨.inr (.tup (SqT.of h1) x1), x2⟩
      refine ⟨_, _, a1, a2.1, b1, a2.2, by rw [py_dep, py_deps]; exact hm, ?_⟩
      simp only [if_true]
      rw [pys_map, List.any_map]
      exact q
    · refine ⟨_, op_notInK hu, fun Z A H u v Q ru rv q => ?_⟩
      obtain ⟨a, kws, rfl, h1, rfl, _, h2⟩ := rv
      refine ⟨a, valV kws k, rfl, .inl ⟨kws, k, h1, keyD_relT ru hk, rfl⟩, ?_⟩
      simp only [if_true]
      rw [← look_isSome]
      exact q
    · refine ⟨_, op_notin_str, fun Z A H u v Q ru rv q => ?_⟩
      cases (show Rp Z A H _ u from ru)
      cases (show Rp Z A H _ v from rv)
      exact ⟨_, _, rfl, rfl, q⟩
end Px
/-! Px3t: a tuple times an int up to 1. -/
namespace Px
open PySem PySem.Spec PyProof.Rows L2

/-! ### a tuple times 1, 0 -/
theorem tup_times_one (l : Addr) (items : Array Value) (n : Nat) (dd : Option Addr) (sl : Array (Option Value)) (x : Int) (u : Tok) (e0 : (decide (x < -(2 ^ 63)) || decide (x ≥ 2 ^ 63)) = false) (e1 : (items.isEmpty || x == 1) = true) :
    Meets (Builtin.«tuple.__mul__» ⟨[.ref l, .int x u], []⟩) (fun _ R s => s.heap.get? l = some { cls := .type "tuple", dict := dd, data := .seq items n, slots := sl } ∧ R (.ok (.ret (Value.ref l))) s) :=
  .of_wp fun prog w A R s h => by
    obtain ⟨hp, g, d, tk, os⟩ := s
    obtain ⟨hl, h⟩ := h
    have f1 := AutoSeq1.idx_int
    wp_walk using wpAny_loadPart' hl
    refine wpAny_ite_false (decide_eq_false (by rw [e0]; exact Bool.false_ne_true)) ?_
    wp_walk using wpAny_loadPart' hl
    exact ⟨_, rfl, h⟩
theorem tup_times_none (l : Addr) (items : Array Value) (n : Nat) (dd : Option Addr) (sl : Array (Option Value)) (x : Int) (u : Tok) (e0 : (decide (x < -(2 ^ 63)) || decide (x ≥ 2 ^ 63)) = false) (e1 : (items.isEmpty || x == 1) = false) (e2 : (decide (x ≤ 0) || items.isEmpty) = true) :
    Meets (Builtin.«tuple.__mul__» ⟨[.ref l, .int x u], []⟩) (fun _ R s => s.heap.get? l = some { cls := .type "tuple", dict := dd, data := .seq items n, slots := sl } ∧
      R (.ok (.ret (Value.ref s.heap.objs.size))) { s with heap := s.heap.push { cls := Value.type "tuple", data := Data.seq #[] }, toks := s.toks }) :=
  .of_wp fun prog w A R s h => by
    obtain ⟨hp, g, d, tk, os⟩ := s
    obtain ⟨hl, h⟩ := h
    have f1 := AutoSeq1.idx_int
    wp_walk using wpAny_loadPart' hl
    refine wpAny_ite_false (decide_eq_false (by rw [e0]; exact Bool.false_ne_true)) ?_
    wp_walk using wpAny_loadPart' hl
    exact ⟨_, rfl, h⟩
/-- a tuple times an int up to 1 -/
def rTimes (K : PySem.W.Frag) : R2 := fun x y H Q => ∃ l k xs, x = .ref l ∧ y = .int k ∧ H l = some (.tup xs) ∧ k ≤ 1 ∧ -(2 ^ 62) < k ∧ (xs = [] ∨ k = 1 → Q (.ref l) H) ∧ (xs ≠ [] → k ≤ 0 → ∀ p, H p = none → Q (.ref p) (upd H p (.tup [])))
theorem op_times {X : Cx} : OpR X (binaryOp .Mult) (rTimes X.K) := by
  intro pins s σ H x y v u Q I rx ry h
  obtain ⟨l, k, xs, rfl, rfl, hT, hk, hk2, q1, q2⟩ := h
  cases rx
  obtain ⟨t, rfl⟩ := ry
  obtain ⟨its, r, ⟨⟨cls, dd, data, sl⟩, ho, hc, n, hd⟩, hs⟩ := I.tuple (SqT.of hT)
  simp only at hc hd
  subst hc hd
  have hE : its.toArray.isEmpty = xs.isEmpty := by cases r <;> simp
  have c0 : (decide (k < -(2 ^ 63)) || decide (k ≥ 2 ^ 63)) = false := by
    rw [decide_eq_false (by omega), decide_eq_false (by omega)] <;> rfl
  refine wpAny_binaryOp_repeat_ref (T := "tuple") (U := "int") (by decide) ⟨_, ho, rfl⟩ (fun s' => typeIs_int s' k t) noFill_tuple_mul F.fills_int_mul F.slot_int_rmul repeat_tuple F.slot_int_index.lookup
    (call_meets F.slot_int_rmul (typeIs_int s k t) F.entry_int_rmul (F.args_int_rmul_2 _ _) (int_rmul_tuple k t l its.toArray n dd sl) ⟨ho, rfl, ⟨_, ho, rfl⟩, ?_⟩)
  by_cases hc1 : xs = [] ∨ k = 1
  · have e1 : (its.toArray.isEmpty || k == 1) = true := by
      rw [hE]
      rcases hc1 with z | z
      · rw [z]; rfl
      · rw [z]; simp
    exact call_meets F.slot_tuple_mul ⟨_, ho, rfl⟩ F.entry_tuple_mul (F.args_tuple_mul_2 _ _) (tup_times_one l its.toArray n dd sl k t c0 e1) ⟨ho, ⟨.ref l, H, I, rfl, q1 hc1⟩⟩
  · have hx : xs ≠ [] := fun z => hc1 (.inl z)
    have hk1 : k ≠ 1 := fun z => hc1 (.inr z)
    have e0 : xs.isEmpty = false := by cases xs with | nil => exact absurd rfl hx | cons _ _ => rfl
    have e1 : (its.toArray.isEmpty || k == 1) = false := by rw [hE, e0, Bool.false_or]; exact beq_eq_false_iff_ne.mpr hk1
    have e2 : (decide (k ≤ 0) || its.toArray.isEmpty) = true := by rw [decide_eq_true (show k ≤ 0 by omega)]; rfl
    refine call_meets F.slot_tuple_mul ⟨_, ho, rfl⟩ F.entry_tuple_mul (F.args_tuple_mul_2 _ _) (tup_times_none l its.toArray n dd sl k t c0 e1 e2) ⟨ho, ?_⟩
    refine ⟨.ref s.heap.objs.size, _, I.laid (t' := s.toks) (o := .tup []) (fun b ob q => Heap.get?_push_of_some _ q) (Nat.le_refl _) ?_, rfl, q2 hx (by omega) _ (I.hok.fresh (Nat.le_refl _))⟩
    exact ⟨Nat.zero_le _, [], .nil, IsTup.new _ _⟩
end Px
/-! Px3u: enumerate over a tuple. -/
namespace Px
open PySem PySem.Spec PyProof.Rows L2
theorem meets_enumerate_tup (t : Addr) (items : Array Value) :
    Meets (Builtin.«enumerate.__new__» ⟨[.type "enumerate", .ref t], []⟩) (fun _ R s => s.heap.IsTuple t items ∧ R (.ok (.ret (.ref (s.heap.push { cls := .type "tuple_iterator", data := .fields #[.ref t, .int 0 0] }).objs.size)))
        { s with heap := (s.heap.push { cls := .type "tuple_iterator", data := .fields #[.ref t, .int 0 0] }).push { cls := .type "enumerate", data := .fields #[.none, .bool false, .ref s.heap.objs.size, rawInt 0, .none, .none] } }) :=
  .of_wp fun prog w A R s h => by
    obtain ⟨hp, g, d, tk, os⟩ := s
    obtain ⟨h1, h⟩ := h
    have hsub := sub_enumerate
    have q1 : ∀ {A' : Around} {E : Value → Shared → Prop} {Q : Value → Shared → Prop}, Q (.ref hp.objs.size) ⟨hp.push { cls := .type "tuple_iterator", data := .fields #[.ref t, .int 0 0] }, g, d, tk, os⟩ → wpAny (model prog w) A' (pyIter (.ref t)) Q E ⟨hp, g, d, tk, os⟩ :=
      fun q => wpAny_pyIter_tuple h1 q
    wp_walk using q1
    refine wpAny_stack_any fun st => wpAny_pure ?_
    split
    · rename_i c _ _ _ _ _
      cases (c == Value.type "enumerate")
      · wp_walk using q1
        exact ⟨_, rfl, h⟩
      · wp_walk using q1
        exact ⟨_, rfl, h⟩
    · wp_walk using q1
      exact ⟨_, rfl, h⟩
section
variable {prog : Program} {w : World} {A : Around} {E : Value → Shared → Prop} {s : Shared}
theorem call_enumerate_tup {t : Addr} {items : Array Value} {Q : Value → Shared → Prop} (hL : s.heap.IsTuple t items)
    (h : ∀ h', IsEnum h' (s.heap.objs.size + 1) s.heap.objs.size 0 .none → h'.IsTupleIter s.heap.objs.size t 0 → h'.objs.size = s.heap.objs.size + 2 →
      (∀ b o, s.heap.get? b = some o → h'.get? b = some o) → Q (.ref (s.heap.objs.size + 1)) { s with heap := h' }) :
    wpAny (model prog w) A (call (.type "enumerate") [.ref t]) Q E s := by
  refine callType_new F.called_enumerate (by decide) (F.typeCall_enumerate_1 _) (F.newCall_enumerate_1 _) (fun obj => F.args_object_init_2 obj _) F.entry_enumerate_new
    (meets_enumerate_tup t items) ⟨hL, ?_⟩
  have hz : (s.heap.push { cls := .type "tuple_iterator", data := .fields #[.ref t, .int 0 0] }).objs.size = s.heap.objs.size + 1 := Heap.size_push ..
  show _ ∧ _
  rw [hz]
  have he : IsEnum ((s.heap.push { cls := .type "tuple_iterator", data := .fields #[.ref t, .int 0 0] }).push
      { cls := .type "enumerate", data := .fields #[.none, .bool false, .ref s.heap.objs.size, rawInt 0, .none, .none] }) (s.heap.objs.size + 1) s.heap.objs.size 0 .none := by
    have := Heap.get?_push_size (s.heap.push { cls := .type "tuple_iterator", data := .fields #[.ref t, .int 0 0] })
      (o := { cls := .type "enumerate", data := .fields #[.none, .bool false, .ref s.heap.objs.size, rawInt 0, .none, .none] }) rfl
    rw [hz] at this; exact this
  refine ⟨⟨_, he, rfl⟩, h _ he ⟨_, Heap.get?_push_of_some _ (Heap.get?_push_size _ rfl), rfl, rfl⟩ (by rw [Heap.size_push, hz]) fun b o x => Heap.get?_push_of_some _ (Heap.get?_push_of_some _ x)⟩
end
/-- the tuple at a, each item in a new pair -/
def Iet (K : PySem.W.Frag) (a : Addr) : L2.It :=
  ⟨fun i H => ∃ (xs : List V) (x : V), SqT K H a xs ∧ xs[i]? = some x, fun i H v H' => ∃ T x, v = .ref T ∧ H T = none ∧ H' = upd H T (.tup [.int (i : Nat), x]) ∧ ∀ xs, SqT K H a xs → xs[i]? = some x, fun i H => ∃ xs : List V, SqT K H a xs ∧ xs.length ≤ i⟩
theorem turn_enumT {P : Program} {w : World} {K : PySem.W.Frag} {elts : List Expr} {kk : Nat} {tpos : Pos} (a e it : Addr) (hea : e ≠ a) (hia : it ≠ a) :
    Turn P w K (.Tuple elts kk tpos) (Iet K a) [e, it] e (fun i h => (∃ old, IsEnum h e it ((i : Nat) : Int) old) ∧ h.IsTupleIter it a i ∧ e ≠ it) where
  mem := by simp
  obj := fun i h st b hb => by
    obtain ⟨⟨old, he⟩, ⟨o, ho, hc, hd⟩, _⟩ := st
    have e' : b = e ∨ b = it := by simpa using hb
    rcases e' with z | z
    · rw [z]; exact ⟨_, he, fun v q => nomatch q⟩
    · rw [z]; exact ⟨o, ho, fun v q => by rw [hd] at q; cases q⟩
  keep := fun i h h' st k => let ⟨⟨old, he⟩, hi, hne⟩ := st; ⟨⟨old, k e (by simp) _ he⟩, hi.at fun o q => k it (by simp) o q, hne⟩
  item := by
    intro X hP hw hK hc i pins s σ H E I hf st hg
    subst hP hw hK
    obtain ⟨⟨old, he⟩, hit, hne⟩ := st
    obtain ⟨xs, x, hq, hx⟩ := hg
    obtain ⟨its, rv, p, hz⟩ := I.tuple hq
    obtain ⟨u, hu, ru⟩ := rv.get hx
    have hel : e < s.heap.objs.size := Heap.lt_size he
    have hil : it < s.heap.objs.size := by obtain ⟨_, q, _⟩ := hit; exact Heap.lt_size q
    have hlt : i < its.toArray.size := by
      obtain ⟨h1, _⟩ := List.getElem?_eq_some_iff.mp hu
      simpa using h1
    have D := Draws.tuple (prog := X.prog) (w := X.w) (A := X.A.in1) (I.ok.hd hc) it a (Ne.symm hia) its.toArray
    refine wpAny_pyNext_enum_itemD D he ⟨hit, p⟩ hlt hne (by simp [hne, hea]) fun u' h' tk hP ho hst hT hsz hk => ?_
    have hu' : its.toArray[i]? = some u' := hP
    have eu : u' = u := by
      have h2 : its[i]? = some u' := by simpa using hu'
      rw [hu] at h2
      exact (Option.some.inj h2).symm
    subst eu
    refine ⟨_, rfl, wpAny_letOwnedTupleGo_enum (s := { s with heap := h', toks := tk + 1 }) ho fun h'' he' sb => ?_⟩
    have hT2 : h''.get? s.heap.objs.size = some { cls := .type "tuple", data := .seq #[.int i tk, u'] } := (sb.2 _ (Nat.ne_of_gt hel)).trans hT
    have new : ObjOk X.prog X.w (upd H s.heap.objs.size (.tup [.int (i : Nat), x])) h'' s.heap.objs.size (.tup [.int (i : Nat), x]) :=
      ⟨by show 2 ≤ sizeLine; decide, [.int i tk, u'], .cons ⟨_, rfl⟩ (.cons ru .nil), ⟨_, hT2, rfl, _, rfl⟩⟩
    have I1 : Inv X pins σ (upd H s.heap.objs.size (.tup [.int (i : Nat), x])) { s with heap := h'', toks := tk + 1 } :=
      I.turnedNew (ch := [e, it]) (fun b ob hb q => (sb.2 b (fun z => hb (by simp [z]))).trans (hk b ob (fun z => hb (by simp [z])) (fun z => hb (by simp [z])) q)) hf (Nat.le_refl _) new
    refine ⟨.ref s.heap.objs.size, _, I1, rfl, ⟨_, x, rfl, I.hok.fresh (Nat.le_refl _), rfl, fun ys hy => by rw [I.tuple_inj hy hq]; exact hx⟩, ⟨⟨u', ?_⟩, hst.1.at fun o q => (sb.2 it (Ne.symm hne)).trans q, hne⟩, fun b hb => ?_⟩
    · have e1 : ((i + 1 : Nat) : Int) = (i : Int) + 1 := by omega
      rw [e1]; exact he'
    · have hb' : b < s.heap.objs.size := by
        have e' : b = e ∨ b = it := by simpa using hb
        rcases e' with z | z
        · rw [z]; exact hel
        · rw [z]; exact hil
      rw [upd_ne (Nat.ne_of_lt hb')]
      exact (hf b hb).1
  done := by
    intro X hP hw hK hc i pins s σ H E I hf st hg
    subst hP hw hK
    obtain ⟨⟨old, he⟩, hit, hne⟩ := st
    obtain ⟨xs, hq, hx⟩ := hg
    obtain ⟨its, rv, p, hz⟩ := I.tuple hq
    obtain ⟨f0, f1, f2, f3, f4, f5⟩ := hf it (by simp)
    have hl := rv.length
    have D := Draws.tuple (prog := X.prog) (w := X.w) (A := X.A.in1) (I.ok.hd hc) it a (Ne.symm hia) its.toArray
    have hTT : s.TypeIs (.ref e) "enumerate" := ⟨_, he, rfl⟩
    unfold pyNext
    refine wpAny_bind (wpAny_attempt (wpAny_callSpecial?_slot (name := Str.ofString "__next__") hTT F.slot_enumerate_next
      (wpAny_call_entry F.slot_enumerate_next hTT F.entry_enumerate_next ?_ (F.args_enumerate_next_1 _))))
    show wpAny _ _ (field (.ref e) 2 >>= _) _ _ _
    refine wpAny_bind (wpAny_field he rfl (x := .ref it) rfl ?_)
    have hno : its.toArray[i]? = none := by simp; omega
    refine wpAny_bind (wpAny_nextOf_tuple_end (I.ok.hd hc) hit p hno fun h' x he' hx' => ?_)
    obtain ⟨o, ho, hc'⟩ := hx'
    refine wpAny_bind (wpAny_isInstance (T := "StopIteration") (b := true) ⟨o, ho, hc'⟩ isSubtype_stop ?_)
    exact wpAny_pure ⟨rfl, I.turned (t' := s.toks) (fun b o hb q => he' b o hb q) f0 f1 f3 f4 f5⟩
  self := fun A i s Q E st h => let ⟨⟨_, he⟩, _⟩ := st; wpAny_pyIter_enum he h
def iEnumT (K : PySem.W.Frag) (ta : TA) : TI := fun σ H R => ta σ H fun vs H1 => ∃ a xs, vs = [.ref a] ∧ SqT K H1 a xs ∧ R (Iet K a) H1
theorem pi_enumT {X : Cx} {e : Expr} {ta : TA} {p pos tpos : Pos} {elts : List Expr} {kk : Nat} (hg : Gl X "enumerate") (hm : X.mg "enumerate" = none) (ha : PA X [e] ta) (hs : starEach [e] X.env = [(false, eval e X.env)] := by rfl) :
    PI X (.Tuple elts kk tpos) (.Call (.Name "enumerate" p) [e] [] pos) (iEnumT X.K ta) := by
  refine ⟨fun pins s σ H R I h => ?_⟩
  refine Call_ (ld_blt I hg hm boot_enumerate (PyProof.Rows.callWith_type1 (thn (ha.run pos pins s σ H _ I h) fun us s1 ⟨vs, H1, I1, r1, q1⟩ => ?_) hs rfl))
  obtain ⟨a, xs, ex, hq, q⟩ := q1
  subst ex
  cases r1 with
  | cons r rr =>
    cases rr
    cases r
    obtain ⟨its, rv, p', hz⟩ := I1.tuple hq
    obtain ⟨oa, hoa, _⟩ := id p'
    have hal : a < s1.heap.objs.size := Heap.lt_size hoa
    refine call_enumerate_tup p' fun h' he hit hsz hk => wpAny_pyIter_enum he ?_
    have I2 : Inv X pins σ H1 { s1 with heap := h' } := I1.kept (t' := s1.toks) hk
    refine ⟨s1.heap.objs.size + 1, [s1.heap.objs.size + 1, s1.heap.objs.size], _, _, H1, rfl, I2, turn_enumT a (s1.heap.objs.size + 1) s1.heap.objs.size (Nat.ne_of_gt (Nat.lt_succ_of_lt hal)) (Nat.ne_of_gt hal), ⟨⟨.none, he⟩, hit, Nat.succ_ne_self _⟩, fun b hb => ?_, q⟩
    have e' : b = s1.heap.objs.size + 1 ∨ b = s1.heap.objs.size := by simpa using hb
    have hle : s1.heap.objs.size ≤ b := by
      rcases e' with z | z
      · rw [z]; exact Nat.le_add_right _ _
      · rw [z]; exact Nat.le_refl _
    exact I1.fpOk hle (I1.hok.fresh hle)
end Px
/-! Px3d: readings of the small tree; names, constants, operators, tests. -/
namespace Px
open PySem PySem.Spec L2
variable [KS]

/-! ### readings -/
def PoE (En : Sn) (S : ES) (Z : Addr → Prop) (A : List Addr) (σ : St) (H : Hp) (d : D) (S' : ES) (Q : VK) : Prop :=
  ∀ (v : V) (Z' : Addr → Prop) (A' : List Addr) (H' : Hp), Step (sn S Z A σ H) (sn S' Z' A' σ H') → Rl En S' Z' A' σ H' → Rp Z' A' H' d v → Q v H'
def PoL (En : Sn) (S : ES) (Z : Addr → Prop) (A : List Addr) (σ : St) (H : Hp) (b : Ob) (S' : ES) (Q : VK) : Prop :=
  ∀ (p : Addr) (Z' : Addr → Prop) (A' : List Addr) (H' : Hp), Step (sn S Z A σ H) (sn S' Z' A' σ H') → Rl En S' Z' A' σ H' → Z' p → ¬ (sn S' Z' A' σ H').W p → H p = none → ObH Z' A' H' p b → Q (.ref p) H'
def PoEs (En : Sn) (S : ES) (Z : Addr → Prop) (A : List Addr) (σ : St) (H : Hp) (ds : List D) (S' : ES) (Q : List V → Hp → Prop) : Prop :=
  ∀ (vs : List V) (Z' : Addr → Prop) (A' : List Addr) (H' : Hp), Step (sn S Z A σ H) (sn S' Z' A' σ H') → Rl En S' Z' A' σ H' → Rps Z' A' H' ds vs → Q vs H'
def PoT (En : Sn) (S : ES) (Z : Addr → Prop) (A : List Addr) (σ : St) (H : Hp) (b : Bool) (S' : ES) (Q : Bool → Hp → Prop) : Prop :=
  ∀ (Z' : Addr → Prop) (A' : List Addr) (H' : Hp), Step (sn S Z A σ H) (sn S' Z' A' σ H') → Rl En S' Z' A' σ H' → Q b H'
/-- a read operand's value -/
def RPv (En : Sn) (S : ES) (Z : Addr → Prop) (A : List Addr) (σ : St) (H : Hp) (x : Pv) (v : V) : Prop := match x with
  | .d d => Rp Z A H d v
  | .s i => σ[i]? = some (some v)
  | .l ds => ∃ p, v = .ref p ∧ Z p ∧ ¬ (sn S Z A σ H).W p ∧ En.H p = none ∧ ObH Z A H p (.lst ds)
  | .k kvs => ∃ p, v = .ref p ∧ Z p ∧ ¬ (sn S Z A σ H).W p ∧ En.H p = none ∧ ObH Z A H p (.dic kvs)
def PoP (En : Sn) (S : ES) (Z : Addr → Prop) (A : List Addr) (σ : St) (H : Hp) (x : Pv) (S' : ES) (Q : VK) : Prop :=
  ∀ (v : V) (Z' : Addr → Prop) (A' : List Addr) (H' : Hp), Step (sn S Z A σ H) (sn S' Z' A' σ H') → Rl En S' Z' A' σ H' → RPv En S' Z' A' σ H' x v → Q v H'
def PoO (En : Sn) (S : ES) (Z : Addr → Prop) (A : List Addr) (σ : St) (H : Hp) (o : Option Int) (S' : ES) (Q : Option Int → Hp → Prop) : Prop :=
  ∀ (Z' : Addr → Prop) (A' : List Addr) (H' : Hp), Step (sn S Z A σ H) (sn S' Z' A' σ H') → Rl En S' Z' A' σ H' → Q o H'
section
variable (En : Sn) (c : CallF)
def tE (e : E) : TE := fun σ H Q => ∃ S Z A d S', ev c e S = some (d, S') ∧ Rl En S Z A σ H ∧ PoE En S Z A σ H d S' Q
def tL (l : L) : TE := fun σ H Q => ∃ S Z A ds S', evL c l S = some (ds, S') ∧ Rl En S Z A σ H ∧ PoL En S Z A σ H (.lst ds) S' Q
def tD (l : Dt) : TE := fun σ H Q => ∃ S Z A kvs S', evD c l S = some (kvs, S') ∧ Rl En S Z A σ H ∧ PoL En S Z A σ H (.dic kvs) S' Q
def tEs (es : Es) : TA := fun σ H Q => ∃ S Z A ds S', evs c es S = some (ds, S') ∧ Rl En S Z A σ H ∧ PoEs En S Z A σ H ds S' Q
def tP (p : P) : TE := fun σ H Q => ∃ S Z A x S', evP c p S = some (x, S') ∧ Rl En S Z A σ H ∧ PoP En S Z A σ H x S' Q
def tT (t : T) : TT := fun σ H Q => ∃ S Z A b S', evT c t S = some (b, S') ∧ Rl En S Z A σ H ∧ PoT En S Z A σ H b S' Q
def tO (o : O) : TO := fun σ H Q => ∃ S Z A i S', evO c o S = some (i, S') ∧ Rl En S Z A σ H ∧ PoO En S Z A σ H i S' Q
end

section
variable {En : Sn} {S S1 S2 : ES} {Z Z1 Z2 : Addr → Prop} {A A1 A2 : List Addr} {σ : St} {H H1 H2 : Hp} {d : D} {Q : VK}
/-- behind a first part -/
theorem PoE.after (st : Step (sn S Z A σ H) (sn S1 Z1 A1 σ H1)) (q : PoE En S Z A σ H d S2 Q) : PoE En S1 Z1 A1 σ H1 d S2 Q := fun v Z' A' H' s R r => q v Z' A' H' (st.trans s) R r
theorem PoE.now (R : Rl En S Z A σ H) (q : PoE En S Z A σ H d S Q) {v : V} (r : Rp Z A H d v) : Q v H := q v Z A H (Step.refl _) R r
/-- the result is a new object -/
theorem PoE.new (R : Rl En S Z A σ H) (q : PoE En S Z A σ H d S Q) {p : Addr} {o : HO} (hp : H p = none) (r : ¬ Z p → (∀ d v, Rp Z A H d v → Rp Z A (upd H p o) d v) → (∀ ds vs, Rps Z A H ds vs → Rps Z A (upd H p o) ds vs) → Rp Z A (upd H p o) d (.ref p)) : Q (.ref p) (upd H p o) := by
  obtain ⟨R', st, nz⟩ := R.newF (o := o) hp
  exact q _ _ _ _ st R' (r nz (fun d v h => h.step st R.wz) fun ds vs h => h.step st R.wz)
theorem PoL.new {b : Ob} (R : Rl En S Z A σ H) (q : PoL En S Z A σ H b S Q) {p : Addr} {o : HO} (hp : H p = none)
    (r : (∀ ds vs, Rps Z A H ds vs → Rps (fun a => Z a ∨ a = p) A (upd H p o) ds vs) → ObH (fun a => Z a ∨ a = p) A (upd H p o) p b) : Q (.ref p) (upd H p o) := by
  obtain ⟨R', st, nw⟩ := R.newT (o := o) hp
  refine q _ _ _ _ st R' (.inr rfl) (fun w => nw ?_) hp (r fun ds vs h => h.step st R.wz)
  rcases w with w | w
  · exact .inl w
  · exact .inr w
theorem PoL.after {b : Ob} (st : Step (sn S Z A σ H) (sn S1 Z1 A1 σ H1)) (q : PoL En S Z A σ H b S2 Q) : PoL En S1 Z1 A1 σ H1 b S2 Q := fun p Z' A' H' s R z nw f ob => q p Z' A' H' (st.trans s) R z nw (st.was f) ob
theorem RPv.step {x : Pv} {v : V} (R : Rl En S Z A σ H) (st : Step (sn S Z A σ H) (sn S1 Z1 A1 σ H1)) (r : RPv En S Z A σ H x v) : RPv En S1 Z1 A1 σ H1 x v := by
  have tmp : ∀ {p : Addr} {b : Ob}, Z p → ¬ (sn S Z A σ H).W p → ObH Z A H p b → Z1 p ∧ ¬ (sn S1 Z1 A1 σ H1).W p ∧ ObH Z1 A1 H1 p b := fun {p b} z nw ob => by
    have ht := ob.there
    cases q : H p with
    | none => exact absurd q ht
    | some o =>
      obtain ⟨e, hz⟩ := st.keep p o q nw
      refine ⟨hz.mpr z, fun w => ?_, ob.mono (fun a u h n => ?_) st.get (e.trans q.symm)⟩
      · rcases st.nw p w with w | w
        · exact nw w
        · exact ht w
      · obtain ⟨h1, h2⟩ := st.keep a u h (fun w => n (R.wz a w))
        exact ⟨h1, fun z => n (h2.mp z)⟩
  cases x with
  | d d => exact Rp.step st R.wz r
  | s i => exact r
  | l ds => obtain ⟨p, rfl, z, nw, f, ob⟩ := r; obtain ⟨a, b, c⟩ := tmp z nw ob; exact ⟨p, rfl, a, b, f, c⟩
  | k kvs => obtain ⟨p, rfl, z, nw, f, ob⟩ := r; obtain ⟨a, b, c⟩ := tmp z nw ob; exact ⟨p, rfl, a, b, f, c⟩
/-- what is read there -/
theorem deref_top (R : Rl En S Z A σ H) {d : D} {v : V} (r : Rp Z A H d v) : RpT Z A H (deref S.st d) v := by
  cases r with
  | @hdl n a h =>
    unfold deref
    simp only
    have hl : n < S.st.length := by rw [← R.sto.len]; exact (List.getElem?_eq_some_iff.mp h).1
    rw [List.getElem?_eq_getElem hl]
    exact (R.sto.ob n _ a (List.getElem?_eq_getElem hl) h).2.top
  | non => exact Rp.top .non
  | bl b => exact Rp.top (.bl b)
  | int i => exact Rp.top (.int i)
  | str h1 h2 => exact Rp.top (.str h1 h2)
  | tup h1 h2 h3 h4 => exact Rp.top (.tup h1 h2 h3 h4)
  | lst h1 h2 h3 h4 => exact Rp.top (.lst h1 h2 h3 h4)
  | dic h1 h2 h3 h4 h5 => exact Rp.top (.dic h1 h2 h3 h4 h5)
  | scr h => exact Rp.top (.scr h)
theorem rd_top {x : Pv} {v : V} {d : D} (R : Rl En S Z A σ H) (r : RPv En S Z A σ H x v) (h : rdP x S = some d) : RpT Z A H d v := by
  cases x with
  | d e => cases h; exact deref_top R r
  | s i =>
    have h1 : (match S.r[i]? with
      | some (.val d) => some (deref S.st d)
      | some (.own b) => some b.frz
      | _ => none) = some d := h
    have r1 : σ[i]? = some (some v) := r
    cases e : S.r[i]? with
    | none => rw [e] at h1; cases h1
    | some s =>
      rw [e] at h1
      cases s with
      | no => cases h1
      | val e2 =>
        cases h1
        obtain ⟨v', e3, r3⟩ := R.val e
        rw [r1] at e3
        cases e3
        exact deref_top R r3
      | own b =>
        cases h1
        obtain ⟨a, e3, _, ob, _⟩ := R.ownAt e
        rw [r1] at e3
        cases e3
        exact ob.top
  | l ds => cases h; obtain ⟨p, rfl, _, _, _, ob⟩ := r; exact ob.top
  | k kvs => cases h; obtain ⟨p, rfl, _, _, _, ob⟩ := r; exact ob.top
end

/-! ### the context -/
/-- what a def promises by its evaluator -/
def spF (K : PySem.W.Frag) (f : List D → Sto → Option (D × Sto)) : Sp := fun vs H Q _ => ∃ ds st r st' Z A, f ds st = some (r, st') ∧ Rps Z A H ds vs ∧ Srl Z A st H ∧ (∀ a, Z a → H a ≠ none) ∧
  ∀ (v : V) (Z' : Addr → Prop) (A' : List Addr) (H' : Hp), Step (snR Z A H) (snR Z' A' H') → Srl Z' A' st' H' → (∀ a, Z' a → H' a ≠ none) → Rp Z' A' H' r v → Q v H'
structure Cok (X : Cx) (C : Ctx) (c : CallF) : Prop where
  sc : X.env.scope = C.sc
  N : X.N = C.N
  nd : C.N.Nodup
  calm : X.calm = true
  fn : X.fn = C.fz
  free : ∀ x, C.fr.any (fun y => decide (y = x)) = true → X.mg x = none
  un : X.A.units + 200 < cLine
  xe : X.xe = fun _ _ => False
  ks : ∀ a ns, KS.at' a ns → ∀ H : Hp, SqL X.K H a (ns.map V.int)
  known : ∀ f ds st r, c f ds st = some r → ∃ a fd ps k, X.mg f = some (.ref a) ∧ PySem.W.keepIn X.K (.ref a) = true ∧ Binds X.K fd ps [] ∧ FnOk X.prog X.w X.K X.mg X.base CX0 k a fd ps (spF X.K (c f)) ∧ Room k X.A
section
variable {X : Cx} {C : Ctx} {c : CallF}
theorem Cok.vis (ok : Cok X C c) {i : Nat} {x : Str} (h : varB C i x = true) : X.N[i]? = some x ∧ Vis X.env.scope x ∧ (x == ("__debug__" : Str)) = false ∧ (x == ("__classdict__" : Str)) = false := by
  unfold varB at h
  simp only [Bool.and_eq_true, decide_eq_true_eq] at h
  obtain ⟨⟨⟨h1, h2⟩, h3⟩, h4⟩ := h
  refine ⟨by rw [ok.N]; exact h1, ?_, beq_eq_false_iff_ne.mpr h3, beq_eq_false_iff_ne.mpr h4⟩
  rw [ok.sc]
  unfold visB at h2
  split at h2
  · exact .inl (by assumption)
  · exact .inr (.inl (by assumption))
  · exact .inr (.inr (by assumption))
  · cases h2
theorem Cok.pv (ok : Cok X C c) {i : Nat} {x : Str} {pos : Pos} (h : varB C i x = true) : PE X (.Name x pos) (tVar i) := by
  obtain ⟨h1, h2, h3, h4⟩ := ok.vis h
  exact pe_var h1 h2 h3 h4
theorem Cok.gl (ok : Cok X C c) {x : Str} (h : bltB C x = true) : Gl X x ∧ X.mg x = none := by
  unfold bltB at h
  simp only [Bool.and_eq_true, decide_eq_true_eq] at h
  refine ⟨?_, ok.free x h.1⟩
  show X.env.scope.names.lookup x = some .globalImplicit
  rw [ok.sc]
  exact h.2
theorem Cok.glb (ok : Cok X C c) {x : Str} (h : glbB C.sc x = true) : Gl X x ∧ (x == ("__debug__" : Str)) = false := by
  unfold glbB at h
  simp only [Bool.and_eq_true, decide_eq_true_eq] at h
  refine ⟨?_, beq_eq_false_iff_ne.mpr h.2⟩
  show X.env.scope.names.lookup x = some .globalImplicit
  rw [ok.sc]
  exact h.1
theorem Cok.loc (ok : Cok X C c) {i : Nat} {x : Str} (h : locB C i x = true) : X.N[i]? = some x ∧ Loc X.env.scope x ∧ (X.fn x = true ∨ X.env.scope.names.lookup x = some .local) := by
  unfold locB at h
  simp only [Bool.and_eq_true, decide_eq_true_eq] at h
  obtain ⟨h1, h2⟩ := h
  refine ⟨by rw [ok.N]; exact h1, ?_⟩
  rw [ok.sc, ok.fn]
  split at h2
  · exact ⟨.inl (by assumption), .inr (by assumption)⟩
  · exact ⟨.inr (by assumption), .inl h2⟩
  · cases h2
theorem Cok.ndN (ok : Cok X C c) : X.N.Nodup := by rw [ok.N]; exact ok.nd
theorem star_ne {e : Expr} {es : List Expr} {env : Env} (h : noStar e = true) : starEach (e :: es) env = (false, eval e env) :: starEach es env := by
  cases e <;> first | rfl | cases h
end

section
variable {X : Cx} {C : Ctx} {c : CallF} {En : Sn} {pos : Pos}
theorem mE {X : Cx} {e : Expr} {t t' : TE} (h : PE X e t) (m : ∀ σ H Q, t' σ H Q → t σ H Q) : PE X e t' := ⟨fun pins s σ H Q I q => h.run pins s σ H Q I (m σ H Q q)⟩
theorem mT {X : Cx} {e : Expr} {t t' : TT} (h : PT X e t) (m : ∀ σ H Q, t' σ H Q → t σ H Q) : PT X e t' := ⟨fun pins s σ H Q I q => h.run pins s σ H Q I (m σ H Q q)⟩
/-! ### names and constants -/
theorem k_var (ok : Cok X C c) {i : Nat} {x : Str} (h : varB C i x = true) : PE X (.Name x pos) (tE En c (.var i)) := by
  refine ⟨fun pins s σ H Q I hq => ?_⟩
  obtain ⟨S, Z, A, d, S', e, R, q⟩ := hq
  have hv := ok.pv (pos := pos) h
  unfold ev at e
  cases hi : S.r[i]? with
  | none => rw [hi] at e; cases e
  | some sl =>
    rw [hi] at e
    cases sl with
    | no => cases e
    | val d' =>
      cases e
      obtain ⟨v, h1, r⟩ := R.val hi
      exact hv.run pins s σ H Q I ⟨v, h1, q.now R r⟩
    | own b =>
      cases e
      obtain ⟨a, h1, za, ob, nA⟩ := R.ownAt hi
      cases b with
      | lst ds =>
        obtain ⟨vs, h2, hl, h3⟩ := id ob
        have ne : ∀ {b u}, H b = some u → ¬ Z b → H b = some u ∧ ¬ (Z b ∧ b ≠ a) := fun {b u} h n => ⟨h, fun z => n z.1⟩
        obtain ⟨R', st⟩ := R.fz (o := .lst vs) hi h1 (.lst (fun z => z.2 rfl) upd_same hl (by rw [upd_self h2]; exact h3.mono (fun b u h n => ne h n) fun _ _ h => h))
        rw [upd_self h2] at R' st
        exact hv.run pins s σ H Q I ⟨_, h1, q _ _ _ _ st R' (.lst (fun z => z.2 rfl) h2 hl (h3.mono (fun b u h n => ne h n) fun _ _ h => h))⟩
      | dic kvs =>
        obtain ⟨kws, h2, hk, hl, h3⟩ := id ob
        obtain ⟨od, I'⟩ := I.lock h2 True.intro
        have r3 : Rps (fun x => Z x ∧ x ≠ a) A (upd H a (.frz od (.dK kws))) (kvs.map (·.2)) (kws.map (·.2)) := h3.mono (fun b u h n => ⟨(off_mono za b u h n).1, fun z => n z.1⟩) fun _ _ h => h
        have r4 : Rp (fun x => Z x ∧ x ≠ a) A (upd H a (.frz od (.dK kws))) (Ob.dic kvs).frz (.ref a) := .dic (fun z => z.2 rfl) upd_same hk.symm hl r3
        obtain ⟨R', st⟩ := R.fz (o := .frz od (.dK kws)) hi h1 r4
        exact hv.run pins s σ _ Q I' ⟨_, h1, q _ _ _ _ st R' r4⟩
theorem k_int {i : Int} {k : Nat} : PE X (.Constant (.int i) k pos) (tE En c (.int i)) := mE pe_int fun σ H Q h => by
  obtain ⟨S, Z, A, d, S', e, R, q⟩ := h
  unfold ev at e
  cases e
  exact q.now R (.int i)
theorem k_nint {i j : Int} {k : Nat} {pos' : Pos} (hj : i = -j) : PE X (.UnaryOp .USub (.Constant (.int j) k pos') pos) (tE En c (.int i)) := mE (pe_un un_neg pe_int) fun σ H Q h => by
  obtain ⟨S, Z, A, d, S', e, R, q⟩ := h
  unfold ev at e
  cases e
  exact ⟨j, rfl, by show Q (.int (-j)) H; rw [← hj]; exact q.now R (.int i)⟩
theorem k_str {x : Str} {k : Nat} (h1 : PyData.strOk x = true) (h2 : x.length ≤ 1000) : PE X (.Constant (.str x) k pos) (tE En c (.str x)) := mE pe_str fun σ H Q h => by
  obtain ⟨S, Z, A, d, S', e, R, q⟩ := h
  unfold ev at e
  cases e
  exact q.now R (.str h1 (Nat.le_trans h2 (by decide)))
theorem k_non {k : Nat} : PE X (.Constant .none k pos) (tE En c .non) := mE pe_non fun σ H Q h => by
  obtain ⟨S, Z, A, d, S', e, R, q⟩ := h
  unfold ev at e
  cases e
  exact q.now R .non
theorem k_bl {b : Bool} {k : Nat} : PE X (.Constant (.bool b) k pos) (tE En c (.bl b)) := mE pe_bl fun σ H Q h => by
  obtain ⟨S, Z, A, d, S', e, R, q⟩ := h
  unfold ev at e
  cases e
  exact q.now R (.bl b)
theorem k_neverE {e : Expr} : PE X e (tE En c .never) := ⟨fun pins s σ H Q I h => by
  obtain ⟨S, Z, A, d, S', e, R, q⟩ := h
  unfold ev at e
  cases e⟩

/-! ### operators -/
theorem strOk_app {a b : Str} (h1 : PyData.strOk a = true) (h2 : PyData.strOk b = true) : PyData.strOk (a ++ b) = true := by
  unfold PyData.strOk at *
  show (a.cps ++ b.cps).all _ = true
  rw [Array.all_append, h1, h2]
  rfl
theorem bop_rule {op : BOp} {o : Operator} {x y z : D} (ho : opB op o = true) (h : bop op x y = some z) : ∃ r : R2, OpR X (binaryOp o) r ∧
    ∀ (S : ES) (Z : Addr → Prop) (A : List Addr) (σ : St) (H : Hp) (u v : V) (Q : VK), Rl En S Z A σ H → Rp Z A H x u → Rp Z A H y v → PoE En S Z A σ H z S Q → r u v H Q := by
  have two : ∀ {f : Int → Int → Option D} {x y : D}, (match x, y with | .int i, .int j => f i j | _, _ => none) = some z → ∃ i j, x = .int i ∧ y = .int j ∧ f i j = some z := fun {f x y} h => by
    cases x with
    | int i => cases y with
      | int j => exact ⟨i, j, rfl, rfl, h⟩
      | _ => cases h
    | _ => cases h
  cases op with
  | add =>
    cases o <;> first | cases ho | skip
    cases x with
    | int i => cases y with
      | int j =>
        cases h
        refine ⟨_, op_add, fun S Z A σ H u v Q R ru rv q => ?_⟩
        cases ru
        cases rv
        exact ⟨i, j, rfl, rfl, q.now R (.int _)⟩
      | _ => cases h
    | str a => cases y with
      | str b =>
        have h1 : (if a.length + b.length ≤ sizeLine then some (D.str (a ++ b)) else none) = some z := h
        split at h1
        · rename_i hl
          cases h1
          refine ⟨_, op_add_str, fun S Z A σ H u v Q R ru rv q => ?_⟩
          cases ru with
          | str a1 a2 =>
            cases rv with
            | str b1 b2 => exact ⟨a, b, rfl, rfl, hl, q.now R (.str (strOk_app a1 b1) (by rw [Str.length_append]; exact hl))⟩
        · cases h1
      | _ => cases h
    | tup ds => cases y with
      | tup es =>
        have h1 : (if ds.length + es.length ≤ sizeLine then some (D.tup (ds ++ es)) else none) = some z := h
        split at h1
        · rename_i hl
          cases h1
          refine ⟨_, op_catA, fun S Z A σ H u v Q R ru rv q => ?_⟩
          cases ru with
          | @tup a vs _ a1 a2 a3 a4 =>
            cases rv with
            | @tup b ws _ b1 b2 b3 b4 =>
              have l1 := a4.length
              have l2 := b4.length
              refine ⟨a, b, vs, ws, rfl, rfl, SqT.of a2, SqT.of b2, by omega, fun e => ?_, fun n e => ?_, fun n m p hp => ?_⟩
              · subst e
                cases a4
                exact q.now R (.tup b1 b2 b3 b4)
              · subst e
                cases b4
                rw [List.append_nil] at q
                exact q.now R (.tup a1 a2 a3 a4)
              · exact q.new R hp fun nz _ ms => .tup nz upd_same (by rw [List.length_append]; omega) ((ms _ _ a4).append (ms _ _ b4))
        · cases h1
      | _ => cases h
    | _ => cases h
  | sub =>
    cases o <;> first | cases ho | skip
    obtain ⟨i, j, rfl, rfl, e⟩ := two (f := fun i j => some (.int (i - j))) h
    cases e
    refine ⟨_, op_sub, fun S Z A σ H u v Q R ru rv q => ?_⟩
    cases ru
    cases rv
    exact ⟨i, j, rfl, rfl, q.now R (.int _)⟩
  | mul =>
    cases o <;> first | cases ho | skip
    cases x with
    | int i => cases y with
      | int j =>
        have h1 : (if (-(2 ^ 64) < i ∧ i < 2 ^ 64) ∨ (-(2 ^ 64) < j ∧ j < 2 ^ 64) then some (D.int (i * j)) else none) = some z := h
        split at h1
        · rename_i hc
          cases h1
          refine ⟨_, op_mul, fun S Z A σ H u v Q R ru rv q => ?_⟩
          cases ru
          cases rv
          exact ⟨i, j, rfl, rfl, hc, q.now R (.int _)⟩
        · cases h1
      | _ => cases h
    | tup ds => cases y with
      | int k =>
        have h1 : (if -(2 ^ 62) < k ∧ k ≤ 1 then some (D.tup (if k = 1 then ds else [])) else none) = some z := h
        split at h1
        · rename_i hc
          cases h1
          refine ⟨_, op_times, fun S Z A σ H u v Q R ru rv q => ?_⟩
          cases ru with
          | @tup a vs _ a1 a2 a3 a4 =>
            cases rv
            refine ⟨a, k, vs, rfl, rfl, a2, hc.2, hc.1, fun e => ?_, fun n hk p hp => ?_⟩
            · by_cases h1 : k = 1
              · rw [if_pos h1] at q
                exact q.now R (.tup a1 a2 a3 a4)
              · rcases e with e | e
                · subst e
                  cases a4
                  rw [if_neg h1] at q
                  exact q.now R (.tup a1 a2 a3 .nil)
                · exact absurd e h1
            · rw [if_neg (by omega)] at q
              exact q.new R hp fun nz _ ms => .tup nz upd_same (Nat.zero_le _) .nil
        · cases h1
      | _ => cases h
    | _ => cases h
  | fdiv =>
    cases o <;> first | cases ho | skip
    obtain ⟨i, j, rfl, rfl, e⟩ := two (f := fun i j => if 0 < j ∧ j < 1073741824 then some (.int (i / j)) else none) h
    split at e
    · rename_i hc
      cases e
      refine ⟨_, op_fdiv, fun S Z A σ H u v Q R ru rv q => ?_⟩
      cases ru
      cases rv
      exact ⟨i, j, rfl, rfl, hc, q.now R (.int _)⟩
    · cases e
  | mod =>
    cases o <;> first | cases ho | skip
    obtain ⟨i, j, rfl, rfl, e⟩ := two (f := fun i j => if 0 < j then some (.int (i % j)) else none) h
    split at e
    · rename_i hc
      cases e
      refine ⟨_, op_mod, fun S Z A σ H u v Q R ru rv q => ?_⟩
      cases ru
      cases rv
      exact ⟨i, j, rfl, rfl, hc, q.now R (.int _)⟩
    · cases e
theorem k_bin {op : BOp} {o : Operator} {a b : E} {x y : Expr} (ho : opB op o = true) (ha : PE X x (tE En c a)) (hb : PE X y (tE En c b)) : PE X (.BinOp x o y pos) (tE En c (.bin op a b)) := by
  refine ⟨fun pins s σ H Q I h => ?_⟩
  obtain ⟨S, Z, A, d, S', e, R, q⟩ := h
  simp only [ev, Option.bind_eq_bind, Option.bind_eq_some_iff, Option.some.injEq, Prod.mk.injEq, Prod.exists] at e
  obtain ⟨d1, S1, e1, d2, S2, e2, z, e3, rfl, rfl⟩ := e
  obtain ⟨r, hr, hq⟩ := bop_rule (X := X) (En := En) ho e3
  refine (pe_op hr ha hb).run pins s σ H Q I ⟨S, Z, A, d1, S1, e1, R, fun v1 Z1 A1 H1 st1 R1 r1 => ⟨S1, Z1, A1, d2, S2, e2, R1, fun v2 Z2 A2 H2 st2 R2 r2 => ?_⟩⟩
  exact hq S2 Z2 A2 σ H2 v1 v2 Q R2 (r1.step st2 R1.wz) r2 (q.after (st1.trans st2))
theorem k_cmp (ok : Cok X C c) {op : CmpOp} {p q : P} {x y : Expr} (hm : behindInMarks op y = false) (hp : PE X x (tP En c p)) (hq : PE X y (tP En c q)) : PE X (.Compare x [op] [y] pos) (tE En c (.cmp op p q)) := by
  refine ⟨fun pins s σ H Q I h => ?_⟩
  obtain ⟨S, Z, A, d, S', e, R, k⟩ := h
  simp only [ev, Option.bind_eq_bind, Option.bind_eq_some_iff, Option.some.injEq, Prod.mk.injEq, Prod.exists] at e
  obtain ⟨x1, S1, e1, x2, S2, e2, d1, f1, d2, f2, b, e3, rfl, rfl⟩ := e
  obtain ⟨r, hr, hr2⟩ := cop_rule (X := X) ok.un e3
  refine (pe_cmpR hr hp hq hm).run pins s σ H Q I ⟨S, Z, A, x1, S1, e1, R, fun v1 Z1 A1 H1 st1 R1 r1 => ⟨S1, Z1, A1, x2, S2, e2, R1, fun v2 Z2 A2 H2 st2 R2 r2 => ?_⟩⟩
  exact hr2 Z2 A2 H2 v1 v2 Q (rd_top R2 (r1.step R1 st2) f1) (rd_top R2 r2 f2) (k _ _ _ _ (st1.trans st2) R2 (.bl b))
theorem k_cmpT (ok : Cok X C c) {op : CmpOp} {p q : P} {x y : Expr} (hm : behindInMarks op y = false) (hp : PE X x (tP En c p)) (hq : PE X y (tP En c q)) : PT X (.Compare x [op] [y] pos) (tT En c (.cmp op p q)) := by
  refine ⟨fun pins s σ H Q I h => ?_⟩
  obtain ⟨S, Z, A, d, S', e, R, k⟩ := h
  simp only [evT, Option.bind_eq_bind, Option.bind_eq_some_iff, Option.some.injEq, Prod.mk.injEq, Prod.exists] at e
  obtain ⟨x1, S1, e1, x2, S2, e2, d1, f1, d2, f2, b, e3, rfl, rfl⟩ := e
  obtain ⟨r, hr, hr2⟩ := cop_rule (X := X) ok.un e3
  refine (pt_cmpR hr hp hq hm).run pins s σ H Q I ⟨S, Z, A, x1, S1, e1, R, fun v1 Z1 A1 H1 st1 R1 r1 => ⟨S1, Z1, A1, x2, S2, e2, R1, fun v2 Z2 A2 H2 st2 R2 r2 => ?_⟩⟩
  exact hr2 Z2 A2 H2 v1 v2 _ (rd_top R2 (r1.step R1 st2) f1) (rd_top R2 r2 f2) ⟨b, rfl, k _ _ _ (st1.trans st2) R2⟩
end
end Px
/-! Px3e: the other expressions without blocks. -/
namespace Px
open PySem PySem.Spec L2
variable [KS]
section
variable {X : Cx} {C : Ctx} {c : CallF} {En : Sn} {pos pos1 pos2 : Pos} {K : PySem.W.Frag}

/-! ### chains, and, or, not, if -/
theorem cop_rp {op : CmpOp} {x y : D} {b : Bool} (hu : X.A.units + 200 < cLine) (h : cop op x y = some b) :
    ∃ r : R2, OpR X (compareOp op) r ∧ ∀ (Z : Addr → Prop) (A : List Addr) (H : Hp) (u v : V) (Q : VK), Rp Z A H x u → Rp Z A H y v → Q (.bl b) H → r u v H Q := by
  obtain ⟨r, h1, h2⟩ := cop_rule hu h
  exact ⟨r, h1, fun Z A H u v Q ru rv q => h2 Z A H u v Q ru.top rv.top q⟩
theorem k_chn (ok : Cok X C c) {op op2 : CmpOp} {a b e : E} {x y z : Expr} (hm : lastMarks [op, op2] [y, z] = false) (ha : PE X x (tE En c a)) (hb : PE X y (tE En c b)) (he : PE X z (tE En c e)) :
    PE X (.Compare x [op, op2] [y, z] pos) (tE En c (.chn op op2 a b e)) := by
  refine ⟨fun pins s σ H Q I h => ?_⟩
  obtain ⟨S, Z, A, d, S', ee, R, k⟩ := h
  simp only [ev, Option.bind_eq_bind, Option.bind_eq_some_iff, Prod.exists] at ee
  obtain ⟨d1, S1, e1, d2, S2, e2, k1, e3, ee⟩ := ee
  obtain ⟨r, hr, hr2⟩ := cop_rp (X := X) ok.un e3
  cases k1 with
  | false =>
    simp only [Bool.false_eq_true, if_false, Option.some.injEq, Prod.mk.injEq] at ee
    obtain ⟨rfl, rfl⟩ := ee
    have h2 : OpR X (compareOp op2) (fun _ _ _ _ => False) := fun _ _ _ _ _ _ _ _ _ _ _ _ q => q.elim
    refine (pe_chain hr h2 ha hb he hm).run pins s σ H Q I ⟨S, Z, A, d1, S1, e1, R, fun v1 Z1 A1 H1 st1 R1 r1 => ⟨S1, Z1, A1, d2, S2, e2, R1, fun v2 Z2 A2 H2 st2 R2 r2 => ?_⟩⟩
    exact hr2 Z2 A2 H2 v1 v2 _ (r1.step st2 R1.wz) r2 ⟨false, rfl, by
      rw [if_neg Bool.false_ne_true]
      exact k _ _ _ _ (st1.trans st2) R2 (.bl false)⟩
  | true =>
    simp only [if_true, Option.bind_eq_some_iff, Prod.exists, Option.some.injEq, Prod.mk.injEq] at ee
    obtain ⟨d3, S3, e4, k2, e5, rfl, rfl⟩ := ee
    obtain ⟨r', hr', hr2'⟩ := cop_rp (X := X) ok.un e5
    refine (pe_chain hr hr' ha hb he hm).run pins s σ H Q I ⟨S, Z, A, d1, S1, e1, R, fun v1 Z1 A1 H1 st1 R1 r1 => ⟨S1, Z1, A1, d2, S2, e2, R1, fun v2 Z2 A2 H2 st2 R2 r2 => ?_⟩⟩
    refine hr2 Z2 A2 H2 v1 v2 _ (r1.step st2 R1.wz) r2 ⟨true, rfl, ?_⟩
    try dsimp only
    rw [if_pos rfl]
    exact ⟨S2, Z2, A2, d3, S3, e4, R2, fun v3 Z3 A3 H3 st3 R3 r3 => hr2' Z3 A3 H3 v2 v3 Q (r2.step st3 R2.wz) r3 (k _ _ _ _ ((st1.trans st2).trans st3) R3 (.bl k2))⟩
theorem k_chnT (ok : Cok X C c) {op op2 : CmpOp} {a b e : E} {x y z : Expr} (hm : lastMarks [op, op2] [y, z] = false) (ha : PE X x (tE En c a)) (hb : PE X y (tE En c b)) (he : PE X z (tE En c e)) :
    PT X (.Compare x [op, op2] [y, z] pos) (tT En c (.chn op op2 a b e)) := by
  refine ⟨fun pins s σ H Q I h => ?_⟩
  obtain ⟨S, Z, A, d, S', ee, R, k⟩ := h
  simp only [evT, Option.bind_eq_bind, Option.bind_eq_some_iff, Prod.exists] at ee
  obtain ⟨d1, S1, e1, d2, S2, e2, k1, e3, ee⟩ := ee
  obtain ⟨r, hr, hr2⟩ := cop_rp (X := X) ok.un e3
  cases k1 with
  | false =>
    simp only [Bool.false_eq_true, if_false, Option.some.injEq, Prod.mk.injEq] at ee
    obtain ⟨rfl, rfl⟩ := ee
    have h2 : OpR X (compareOp op2) (fun _ _ _ _ => False) := fun _ _ _ _ _ _ _ _ _ _ _ _ q => q.elim
    refine (pt_chain hr h2 ha hb he hm).run pins s σ H Q I ⟨S, Z, A, d1, S1, e1, R, fun v1 Z1 A1 H1 st1 R1 r1 => ⟨S1, Z1, A1, d2, S2, e2, R1, fun v2 Z2 A2 H2 st2 R2 r2 => ?_⟩⟩
    exact hr2 Z2 A2 H2 v1 v2 _ (r1.step st2 R1.wz) r2 ⟨false, rfl, by
      rw [if_neg Bool.false_ne_true]
      exact ⟨false, rfl, k _ _ _ (st1.trans st2) R2⟩⟩
  | true =>
    simp only [if_true, Option.bind_eq_some_iff, Prod.exists, Option.some.injEq, Prod.mk.injEq] at ee
    obtain ⟨d3, S3, e4, k2, e5, rfl, rfl⟩ := ee
    obtain ⟨r', hr', hr2'⟩ := cop_rp (X := X) ok.un e5
    refine (pt_chain hr hr' ha hb he hm).run pins s σ H Q I ⟨S, Z, A, d1, S1, e1, R, fun v1 Z1 A1 H1 st1 R1 r1 => ⟨S1, Z1, A1, d2, S2, e2, R1, fun v2 Z2 A2 H2 st2 R2 r2 => ?_⟩⟩
    refine hr2 Z2 A2 H2 v1 v2 _ (r1.step st2 R1.wz) r2 ⟨true, rfl, ?_⟩
    try dsimp only
    rw [if_pos rfl]
    exact ⟨S2, Z2, A2, d3, S3, e4, R2, fun v3 Z3 A3 H3 st3 R3 r3 => hr2' Z3 A3 H3 v2 v3 _ (r2.step st3 R2.wz) r3 ⟨k2, rfl, k _ _ _ ((st1.trans st2).trans st3) R3⟩⟩
theorem k_and {a b : E} {x y : Expr} {rest : List Expr} (ha : PE X x (tE En c a)) (hb : PE X (.BoolOp .And (y :: rest) pos) (tE En c b)) : PE X (.BoolOp .And (x :: y :: rest) pos) (tE En c (.andE a b)) := by
  refine mE (pe_and ha hb) fun σ H Q h => ?_
  obtain ⟨S, Z, A, d, S', e, R, q⟩ := h
  simp only [ev] at e
  split at e
  · rename_i S1 e1
    refine ⟨S, Z, A, _, S1, e1, R, fun v1 Z1 A1 H1 st1 R1 r1 => ?_⟩
    cases r1
    refine ⟨true, rfl, ?_⟩
    try dsimp only
    rw [if_pos rfl]
    exact ⟨S1, Z1, A1, d, S', e, R1, q.after st1⟩
  · rename_i S1 e1
    cases e
    refine ⟨S, Z, A, _, _, e1, R, fun v1 Z1 A1 H1 st1 R1 r1 => ?_⟩
    have r1' := r1
    cases r1
    refine ⟨false, rfl, ?_⟩
    try dsimp only
    rw [if_neg Bool.false_ne_true]
    exact q _ _ _ _ st1 R1 r1'
  · cases e
theorem k_or {a b : E} {x y : Expr} {rest : List Expr} (ha : PE X x (tE En c a)) (hb : PE X (.BoolOp .Or (y :: rest) pos) (tE En c b)) : PE X (.BoolOp .Or (x :: y :: rest) pos) (tE En c (.orE a b)) := by
  refine mE (pe_or ha hb) fun σ H Q h => ?_
  obtain ⟨S, Z, A, d, S', e, R, q⟩ := h
  simp only [ev] at e
  split at e
  · rename_i S1 e1
    cases e
    refine ⟨S, Z, A, _, _, e1, R, fun v1 Z1 A1 H1 st1 R1 r1 => ?_⟩
    have r1' := r1
    cases r1
    refine ⟨true, rfl, ?_⟩
    try dsimp only
    rw [if_pos rfl]
    exact q _ _ _ _ st1 R1 r1'
  · rename_i S1 e1
    refine ⟨S, Z, A, _, S1, e1, R, fun v1 Z1 A1 H1 st1 R1 r1 => ?_⟩
    cases r1
    refine ⟨false, rfl, ?_⟩
    try dsimp only
    rw [if_neg Bool.false_ne_true]
    exact ⟨S1, Z1, A1, d, S', e, R1, q.after st1⟩
  · cases e
theorem k_one {op : BoolOp} {a : E} {x : Expr} (ha : PE X x (tE En c a)) : PE X (.BoolOp op [x] pos) (tE En c (.oneE a)) := by
  refine mE (pe_one ha) fun σ H Q h => ?_
  obtain ⟨S, Z, A, d, S', e, R, q⟩ := h
  simp only [ev] at e
  exact ⟨S, Z, A, d, S', e, R, q⟩
theorem k_not {a : E} {x : Expr} (ha : PE X x (tE En c a)) : PE X (.UnaryOp .Not x pos) (tE En c (.notE a)) := by
  refine mE (pe_not ha) fun σ H Q h => ?_
  obtain ⟨S, Z, A, d, S', e, R, q⟩ := h
  simp only [ev] at e
  split at e
  · rename_i b S1 e1
    cases e
    refine ⟨S, Z, A, _, _, e1, R, fun v1 Z1 A1 H1 st1 R1 r1 => ?_⟩
    cases r1
    exact ⟨b, rfl, q _ _ _ _ st1 R1 (.bl _)⟩
  · cases e
theorem k_ifx {t : T} {a b : E} {u x y : Expr} (ht : PT X u (tT En c t)) (ha : PE X x (tE En c a)) (hb : PE X y (tE En c b)) : PE X (.IfExp u x y pos) (tE En c (.ifx t a b)) := by
  refine mE (pe_ifExp ht ha hb) fun σ H Q h => ?_
  obtain ⟨S, Z, A, d, S', e, R, q⟩ := h
  simp only [ev] at e
  split at e
  · rename_i S1 e1
    refine ⟨S, Z, A, _, S1, e1, R, fun Z1 A1 H1 st1 R1 => ?_⟩
    try dsimp only
    rw [if_pos rfl]
    exact ⟨S1, Z1, A1, d, S', e, R1, q.after st1⟩
  · rename_i S1 e1
    refine ⟨S, Z, A, _, S1, e1, R, fun Z1 A1 H1 st1 R1 => ?_⟩
    try dsimp only
    rw [if_neg Bool.false_ne_true]
    exact ⟨S1, Z1, A1, d, S', e, R1, q.after st1⟩
  · cases e

/-! ### tests -/
theorem k_val {e : E} {x : Expr} (hp : plainT x = true) (he : PE X x (tE En c e)) : PT X x (tT En c (.val e)) := by
  refine mT (pt_val he (by intro w; cases x <;> first | rfl | cases hp | (rename_i op _ _; cases op <;> first | rfl | cases hp))) fun σ H Q h => ?_
  obtain ⟨S, Z, A, d, S', ee, R, q⟩ := h
  simp only [evT] at ee
  split at ee
  · rename_i b S1 e1
    cases ee
    refine ⟨S, Z, A, _, _, e1, R, fun v1 Z1 A1 H1 st1 R1 r1 => ?_⟩
    cases r1
    exact ⟨_, rfl, q _ _ _ st1 R1⟩
  · cases ee
theorem isEmpty_rps {Z : Addr → Prop} {A : List Addr} {H : Hp} {ds : List D} {vs : List V} (r : Rps Z A H ds vs) : ds.isEmpty = vs.isEmpty := by
  cases r <;> rfl
theorem tru_rule {d : D} {b : Bool} (h : tru d = some b) {Z : Addr → Prop} {A : List Addr} {H : Hp} {v : V} (r : RpT Z A H d v) : TruV K v H b ∨ ∃ a kws, v = .ref a ∧ Rd H a (.dK kws) ∧ b = !kws.isEmpty := by
  cases d with
  | non => cases h; cases (show Rp Z A H _ v from r); exact .inl rfl
  | bl k => cases h; cases (show Rp Z A H _ v from r); exact .inl rfl
  | int i => cases h; cases (show Rp Z A H _ v from r); exact .inl rfl
  | str x =>
    cases h
    cases (show Rp Z A H _ v from r) with
    | str h1 h2 =>
      refine .inl ⟨h2, ?_⟩
      by_cases e : x.length = 0
      · rw [e]; rfl
      · have e2 : ¬ (x.length : Int) = 0 := by omega
        rw [bne_iff_ne.mpr e, bne_iff_ne.mpr e2]
  | tup ds => cases h; cases (show Rp Z A H _ v from r) with | tup h1 h2 h3 h4 => exact .inl (.inr (.inl ⟨_, SqT.of h2, by rw [isEmpty_rps h4]⟩))
  | lst ds => cases h; obtain ⟨a, vs, rfl, h2, h3, h4⟩ := r; exact .inl (.inl ⟨_, SqL.of h2, by rw [isEmpty_rps h4]⟩)
  | dic ks ds => cases h; obtain ⟨a, kws, rfl, h2, rfl, h3, h4⟩ := r; exact .inr ⟨a, kws, rfl, h2, by cases kws <;> rfl⟩
  | _ => cases h
/-- a value's truth, a locked dict's too -/
theorem pt_tru {a : Expr} {ta : TE} (ha : PE X a ta) (he : ∀ whole, isTrue a X.env whole = (do let v ← whole; standAt a.pos; holding [v] (truthy v))) :
    PT X a (fun σ H Q => ta σ H fun x H' => ∃ k, (TruV X.K x H' k ∨ ∃ b kws, x = .ref b ∧ Rd H' b (.dK kws) ∧ k = !kws.isEmpty) ∧ Q k H') := by
  refine ⟨fun pins s σ H Q I h => ?_⟩
  refine PyProof.Rows.isTrue_plain (thn (ha.run pins s σ H _ I h) fun v s1 ⟨x, H1, I1, r1, q1⟩ => ?_) (he _)
  obtain ⟨k, hk, q⟩ := q1
  rcases hk with hk | ⟨b, kws, rfl, hd, rfl⟩
  · exact tru_ok pins s1 σ H1 x v Q I1 r1 ⟨k, hk, q⟩
  · cases r1
    exact d_truth I1 hd fun s' I' => ⟨H1, I', q⟩
theorem k_tru {p : P} {x : Expr} (hp : plainT x = true) (he : PE X x (tP En c p)) : PT X x (tT En c (.tru p)) := by
  refine mT (pt_tru he (by intro w; cases x <;> first | rfl | cases hp | (rename_i op _ _; cases op <;> first | rfl | cases hp))) fun σ H Q h => ?_
  obtain ⟨S, Z, A, b, S', ee, R, q⟩ := h
  simp only [evT, Option.bind_eq_bind, Option.bind_eq_some_iff, Prod.exists, Option.some.injEq, Prod.mk.injEq] at ee
  obtain ⟨y, S1, e1, d, e2, b', e3, rfl, rfl⟩ := ee
  exact ⟨S, Z, A, y, _, e1, R, fun v1 Z1 A1 H1 st1 R1 r1 => ⟨_, tru_rule e3 (rd_top R1 r1 e2), q _ _ _ st1 R1⟩⟩
theorem k_andT {t u : T} {x y : Expr} {rest : List Expr} (ht : PT X x (tT En c t)) (hu : PW X (.BoolOp .And (y :: rest) pos) (tT En c u)) : PW X (.BoolOp .And (x :: y :: rest) pos) (tT En c (.andT t u)) := by
  refine ⟨fun wh pins s σ H Q I h => (pw_and ht hu).run wh pins s σ H Q I ?_⟩
  obtain ⟨S, Z, A, d, S', e, R, q⟩ := h
  simp only [evT] at e
  split at e
  · rename_i S1 e1
    refine ⟨S, Z, A, _, S1, e1, R, fun Z1 A1 H1 st1 R1 => ?_⟩
    try dsimp only
    rw [if_pos rfl]
    exact ⟨S1, Z1, A1, d, S', e, R1, fun Z2 A2 H2 st2 R2 => q _ _ _ (st1.trans st2) R2⟩
  · rename_i S1 e1
    cases e
    refine ⟨S, Z, A, _, _, e1, R, fun Z1 A1 H1 st1 R1 => ?_⟩
    try dsimp only
    rw [if_neg Bool.false_ne_true]
    exact q _ _ _ st1 R1
  · cases e
theorem k_orT {t u : T} {x y : Expr} {rest : List Expr} (ht : PT X x (tT En c t)) (hu : PW X (.BoolOp .Or (y :: rest) pos) (tT En c u)) : PW X (.BoolOp .Or (x :: y :: rest) pos) (tT En c (.orT t u)) := by
  refine ⟨fun wh pins s σ H Q I h => (pw_or ht hu).run wh pins s σ H Q I ?_⟩
  obtain ⟨S, Z, A, d, S', e, R, q⟩ := h
  simp only [evT] at e
  split at e
  · rename_i S1 e1
    cases e
    refine ⟨S, Z, A, _, _, e1, R, fun Z1 A1 H1 st1 R1 => ?_⟩
    try dsimp only
    rw [if_pos rfl]
    exact q _ _ _ st1 R1
  · rename_i S1 e1
    refine ⟨S, Z, A, _, S1, e1, R, fun Z1 A1 H1 st1 R1 => ?_⟩
    try dsimp only
    rw [if_neg Bool.false_ne_true]
    exact ⟨S1, Z1, A1, d, S', e, R1, fun Z2 A2 H2 st2 R2 => q _ _ _ (st1.trans st2) R2⟩
  · cases e
theorem k_oneT {op : BoolOp} {t : T} {x : Expr} (ht : PT X x (tT En c t)) : PW X (.BoolOp op [x] pos) (tT En c (.oneT t)) := by
  have h1 : PW X (.BoolOp op [x] pos) (tT En c t) := by
    cases op with
    | And => exact pw_and1 ht
    | Or => exact pw_or1 ht
  refine ⟨fun wh pins s σ H Q I h => h1.run wh pins s σ H Q I ?_⟩
  obtain ⟨S, Z, A, d, S', e, R, q⟩ := h
  simp only [evT] at e
  exact ⟨S, Z, A, d, S', e, R, q⟩
theorem k_notT {t : T} {x : Expr} (ht : PT X x (tT En c t)) : PT X (.UnaryOp .Not x pos) (tT En c (.notT t)) := by
  refine mT (pt_not ht) fun σ H Q h => ?_
  obtain ⟨S, Z, A, d, S', e, R, q⟩ := h
  simp only [evT] at e
  split at e
  · rename_i b S1 e1
    cases e
    exact ⟨S, Z, A, _, _, e1, R, fun Z1 A1 H1 st1 R1 => q _ _ _ st1 R1⟩
  · cases e

/-! ### lists of expressions, displays, calls -/
theorem k_nilA : PA X [] (tEs En c .nil) := ⟨fun pos pins s σ H Q I h => pa_nil.run pos pins s σ H Q I (by
  obtain ⟨S, Z, A, d, S', e, R, q⟩ := h
  simp only [evs] at e
  cases e
  exact q _ _ _ _ (Step.refl _) R .nil)⟩
theorem k_consA {e : E} {es : Es} {x : Expr} {xs : List Expr} (hs : noStar x = true) (h1 : PE X x (tE En c e)) (h2 : PA X xs (tEs En c es)) : PA X (x :: xs) (tEs En c (.cons e es)) := ⟨fun pos pins s σ H Q I h => (pa_cons h1 h2 (star_ne hs)).run pos pins s σ H Q I (by
  obtain ⟨S, Z, A, d, S', ee, R, q⟩ := h
  simp only [evs, Option.bind_eq_bind, Option.bind_eq_some_iff, Prod.exists, Option.some.injEq, Prod.mk.injEq] at ee
  obtain ⟨d1, S1, e1, ds, S2, e2, rfl, rfl⟩ := ee
  exact ⟨S, Z, A, d1, S1, e1, R, fun v1 Z1 A1 H1 st1 R1 r1 => ⟨S1, Z1, A1, ds, _, e2, R1, fun vs Z2 A2 H2 st2 R2 r2 => q _ _ _ _ (st1.trans st2) R2 (.cons (r1.step st2 R1.wz) r2)⟩⟩)⟩
theorem evs_len : ∀ {es : Es} {xs : List Expr} {S : ES} {ds : List D} {S' : ES}, chkEs C es xs = true → evs c es S = some (ds, S') → ds.length = xs.length
  | .nil, [], S, ds, S', _, h => by simp only [evs] at h; cases h; rfl
  | .nil, _ :: _, _, _, _, h, _ => by simp [chkEs] at h
  | .cons _ _, [], _, _, _, h, _ => by simp [chkEs] at h
  | .cons e es, x :: xs, S, ds, S', h, h2 => by
    simp only [chkEs, Bool.and_eq_true] at h
    simp only [evs, Option.bind_eq_bind, Option.bind_eq_some_iff, Prod.exists, Option.some.injEq, Prod.mk.injEq] at h2
    obtain ⟨d1, S1, e1, ds, S2, e2, rfl, rfl⟩ := h2
    exact congrArg Nat.succ (evs_len h.2 e2)
theorem k_tup {es : Es} {xs : List Expr} {k : Nat} (hl : xs.length ≤ 1000) (hc : chkEs C es xs = true) (h : PA X xs (tEs En c es)) : PE X (.Tuple xs k pos) (tE En c (.tup es)) := by
  refine mE (pe_tup h) fun σ H Q hq => ?_
  obtain ⟨S, Z, A, d, S', e, R, q⟩ := hq
  simp only [ev, Option.bind_eq_bind, Option.bind_eq_some_iff, Prod.exists, Option.some.injEq, Prod.mk.injEq] at e
  obtain ⟨ds, S1, e1, rfl, rfl⟩ := e
  have hn := evs_len hc e1
  refine ⟨S, Z, A, ds, _, e1, R, fun vs Z1 A1 H1 st1 R1 r1 => ?_⟩
  have hv : vs.length ≤ sizeLine := by
    have := r1.length
    have := sizeLine_eq
    omega
  exact ⟨hv, fun p hp => (q.after st1).new R1 hp fun nz _ ms => .tup nz upd_same hv (ms _ _ r1)⟩
theorem k_disp {es : Es} {xs : List Expr} (hl : xs.length ≤ 1000) (hc : chkEs C es xs = true) (h : PA X xs (tEs En c es)) : PE X (.List xs pos) (tL En c (.disp es)) := by
  refine mE (pe_lst h) fun σ H Q hq => ?_
  obtain ⟨S, Z, A, ds, S', e, R, q⟩ := hq
  simp only [evL] at e
  have hn := evs_len hc e
  refine ⟨S, Z, A, ds, _, e, R, fun vs Z1 A1 H1 st1 R1 r1 => ?_⟩
  have hv : vs.length ≤ sizeLine := by
    have := r1.length
    have := sizeLine_eq
    omega
  have q1 := q.after st1
  exact ⟨hv, fun p hp => q1.new R1 hp fun ms => ⟨vs, upd_same, hv, ms _ _ r1⟩⟩
theorem stars_plain : ∀ {es : Es} {xs : List Expr} {env : Env}, chkEs C es xs = true → (backTo pos (starEach xs env)).any (·.1) = false
  | .nil, [], env, _ => rfl
  | .nil, _ :: _, _, h => by simp [chkEs] at h
  | .cons _ _, [], _, h => by simp [chkEs] at h
  | .cons e es, x :: xs, env, h => by
    simp only [chkEs, Bool.and_eq_true] at h
    rw [star_ne h.1.1]
    show (false || (backTo pos (starEach xs env)).any (·.1)) = false
    rw [stars_plain h.2]
    rfl
/-- the state behind a call -/
theorem Rl.called {S : ES} {Z Z' : Addr → Prop} {A A' : List Addr} {σ : St} {H H' : Hp} {st' : Sto} (R : Rl En S Z A σ H) (h : Step (snR Z A H) (snR Z' A' H')) (hs : Srl Z' A' st' H') (zt : ∀ a, Z' a → H' a ≠ none) :
    Rl En { S with st := st' } Z' A' σ H' ∧ Step (sn S Z A σ H) (sn { S with st := st' } Z' A' σ H') := by
  have st : Step (sn S Z A σ H) (sn { S with st := st' } Z' A' σ H') := by
    refine ⟨fun a o e n => h.keep a o e fun w => n (.inl w), h.pre, fun a w => ?_, h.liv⟩
    rcases w with w | w
    · rcases h.nw a w with w | w
      · exact .inl (.inl w)
      · exact .inr w
    · exact .inl (.inr w)
  have ownK : ∀ a, Own S.r σ a → H' a = H a ∧ (Z' a ↔ Z a) := fun a w => by
    have ht := (R.own w).2
    cases q : H a with
    | none => exact absurd q ht
    | some o => exact h.keep a o q (R.sep a w)
  have mo : ∀ a o, H a = some o → ¬ Z a → H' a = some o ∧ ¬ Z' a := fun a o e n => by
    obtain ⟨h1, h2⟩ := h.keep a o e fun w => n (R.sto.liv w).1
    exact ⟨h1, fun z => n (h2.mp z)⟩
  refine ⟨⟨R.ent.trans st, R.slen, fun i s e => ?_, R.inj, fun a w m => ?_, hs, zt, R.ew⟩, st⟩
  · obtain ⟨x, e1, r⟩ := R.slot i s e
    refine ⟨x, e1, ?_⟩
    cases s with
    | no => exact True.intro
    | val d => obtain ⟨v, e2, r1⟩ := r; exact ⟨v, e2, r1.mono mo h.get⟩
    | own b =>
      obtain ⟨a, e2, z, ob⟩ := r
      obtain ⟨k1, k2⟩ := ownK a ⟨i, _, e, rfl, by rw [← e2]; exact e1⟩
      exact ⟨a, e2, k2.mpr z, ob.mono mo h.get k1⟩
  · rcases h.nw a m with w2 | w2
    · exact R.sep a w w2
    · exact (R.own w).2 w2
theorem k_call (ok : Cok X C c) {f : Str} {es : Es} {xs : List Expr} (hg : glbB C.sc f = true) (hc : chkEs C es xs = true) (h : PA X xs (tEs En c es)) : PE X (.Call (.Name f pos1) xs [] pos) (tE En c (.call f es)) := by
  refine ⟨fun pins s σ H Q I hq => ?_⟩
  obtain ⟨S, Z, A, d, S', e, R, q⟩ := hq
  simp only [ev, Option.bind_eq_bind, Option.bind_eq_some_iff, Prod.exists, Option.some.injEq, Prod.mk.injEq] at e
  obtain ⟨ds, S1, e1, r, st', e2, rfl, rfl⟩ := e
  obtain ⟨a, fd, ps, k, hm, hk, hb, F, hr⟩ := ok.known f ds S1.st _ e2
  obtain ⟨g1, g2⟩ := ok.glb hg
  have fin : ∀ {vs : List V} {Z1 : Addr → Prop} {A1 : List Addr} {H1 : Hp}, Step (sn S Z A σ H) (sn S1 Z1 A1 σ H1) → Rl En S1 Z1 A1 σ H1 → Rps Z1 A1 H1 ds vs → spF X.K (c f) (vs ++ []) H1 Q E0 := fun {vs Z1 A1 H1} st1 R1 r1 => by
    rw [List.append_nil]
    refine ⟨ds, S1.st, r, st', Z1, A1, e2, r1, R1.sto, R1.zt, fun v Z2 A2 H2 s2 o2 t2 r2 => ?_⟩
    obtain ⟨R2, st2⟩ := R1.called s2 o2 t2
    exact q _ _ _ _ (st1.trans st2) R2 r2
  cases xs with
  | nil =>
    cases es with
    | cons _ _ => simp [chkEs] at hc
    | nil =>
      refine (pe_call0 F hr g1 hm hk hb .nil pass0 g2).run pins s σ H Q I ?_
      simp only [evs] at e1
      cases e1
      exact fin (Step.refl _) R .nil
  | cons x xs =>
    cases es with
    | nil => simp [chkEs] at hc
    | cons e0 es =>
      simp only [chkEs, Bool.and_eq_true] at hc
      refine (pe_call F hr g1 hm hk hb .nil pass0 h g2 (star_ne hc.1.1) (stars_plain hc.2)).run pins s σ H Q I ?_
      exact ⟨S, Z, A, ds, S1, e1, R, fun vs Z1 A1 H1 st1 R1 r1 => fin st1 R1 r1⟩
end
end Px
/-! Px3f: subscripts, slices, built-in calls, freezing, pops, shared objects. -/
namespace Px
open PySem PySem.Spec PyProof.Rows L2
variable [KS]
section
variable {X : Cx} {C : Ctx} {c : CallF} {En : Sn} {pos pos1 pos2 pos3 : Pos} {K : PySem.W.Frag}
theorem mO {x : Option Expr} {t t' : TO} (h : PO X x t) (m : ∀ σ H Q, t' σ H Q → t σ H Q) : PO X x t' := ⟨fun pins s σ H Q I q => h.run pins s σ H Q I (m σ H Q q)⟩

/-! ### subscripts -/
theorem plain_ix {x : Expr} (h : notSl x = true) : PlainIx x := by
  intro o i
  cases x <;> first | rfl | cases h
theorem Rps.atI {Z : Addr → Prop} {A : List Addr} {H : Hp} {ds : List D} {vs : List V} {i : Int} {d : D} (r : Rps Z A H ds vs) (h : L2.atI ds i = some d) : ∃ v, L2.atI vs i = some v ∧ Rp Z A H d v := by
  unfold L2.atI at h ⊢
  rw [← r.length]
  cases q : ixN ds.length i with
  | none => rw [q] at h; cases h
  | some j =>
    rw [q] at h
    exact r.get h
theorem strOk_one {x : Str} {c : Nat} (h : PyData.strOk x = true) (hc : c ∈ x.cps.toList) : PyData.strOk ⟨#[c]⟩ = true := by
  unfold PyData.strOk at *
  have h2 := Array.all_eq_true'.mp h c (by simpa using hc)
  simpa using h2
theorem atI_mem {α : Type} {xs : List α} {i : Int} {v : α} (h : L2.atI xs i = some v) : v ∈ xs := by
  obtain ⟨j, _, h2, _⟩ := atI_get h
  exact List.mem_of_getElem? h2
theorem ix_rule {x i z : D} (hx : ∀ ks ds, x ≠ .dic ks ds) (h : idxD x i = some z) {Z : Addr → Prop} {A : List Addr} {H : Hp} {u v : V} (ru : RpT Z A H x u) (rv : Rp Z A H i v) {Q : VK} (q : ∀ w, Rp Z A H z w → Q w H) : rIx K u v H Q := by
  cases x with
  | tup ds =>
    cases i with
    | int k =>
      cases (show Rp Z A H _ u from ru) with
      | tup h1 h2 h3 h4 =>
        cases rv
        obtain ⟨w, e, r⟩ := h4.atI (show L2.atI ds k = some z from h)
        exact .inr (.inl ⟨_, _, k, w, rfl, rfl, SqT.of h2, e, q w r⟩)
    | _ => cases h
  | lst ds =>
    cases i with
    | int k =>
      obtain ⟨a, vs, rfl, h2, h3, h4⟩ := ru
      cases rv
      obtain ⟨w, e, r⟩ := h4.atI (show L2.atI ds k = some z from h)
      exact .inl ⟨a, vs, k, w, rfl, rfl, SqL.of h2, e, q w r⟩
    | _ => cases h
  | str y =>
    cases i with
    | int k =>
      obtain ⟨w, e, rfl⟩ := Option.map_eq_some_iff.mp (show (L2.atI y.cps.toList k).map (fun c => D.str ⟨#[c]⟩) = some z from h)
      cases (show Rp Z A H _ u from ru) with
      | str h1 h2 =>
        cases rv
        exact .inr (.inr ⟨y, k, w, rfl, rfl, h2, e, q _ (.str (strOk_one h1 (atI_mem e)) (by show (1 : Nat) ≤ sizeLine; rw [sizeLine_eq]; decide))⟩)
    | _ => cases h
  | dic ks ds => exact absurd rfl (hx ks ds)
  | non => cases h
  | bl b => cases h
  | int j => cases h
  | hdl n => cases h
  | scr ns => cases h
theorem k_idx (ok : Cok X C c) {p : P} {i : E} {x y : Expr} (hs : notSl y = true) (hp : PE X x (tP En c p)) (hi : PE X y (tE En c i)) : PE X (.Subscript x y pos) (tE En c (.idx p i)) := by
  refine ⟨fun pins s σ H Q I h => ?_⟩
  obtain ⟨S, Z, A, d, S', e, R, k⟩ := h
  simp only [ev, Option.bind_eq_bind, Option.bind_eq_some_iff, Option.some.injEq, Prod.mk.injEq, Prod.exists] at e
  obtain ⟨x1, S1, e1, x2, S2, e2, d1, f1, d2, f2, rfl, rfl⟩ := e
  by_cases hd : ∃ ks ds, d1 = .dic ks ds
  · obtain ⟨ks, ds, rfl⟩ := hd
    have hu := ok.un
    refine (pe_dget (by omega) hp hi (plain_ix hs)).run pins s σ H Q I ⟨S, Z, A, x1, S1, e1, R, fun v1 Z1 A1 H1 st1 R1 r1 => ⟨S1, Z1, A1, x2, S2, e2, R1, fun v2 Z2 A2 H2 st2 R2 r2 => ?_⟩⟩
    obtain ⟨a, kws, rfl, h1, rfl, h3, h4⟩ := rd_top R2 (r1.step R1 st2) f1
    have f3 : (match keyD x2 with | some k => look (kws.map (·.1)) ds k | none => none) = some d2 := f2
    cases hk : keyD x2 with
    | none => rw [hk] at f3; cases f3
    | some kk =>
      rw [hk] at f3
      have hv := valV_look kk h4
      have f4 : look (kws.map (·.1)) ds kk = some d2 := f3
      rw [f4] at hv
      cases hw : valV kws kk with
      | none => rw [hw] at hv; exact hv.elim
      | some w =>
        rw [hw] at hv
        exact ⟨a, w, rfl, .inl ⟨kws, kk, h1, keyD_rel r2 hk, hw.symm⟩, k _ _ _ _ (st1.trans st2) R2 hv⟩
  · refine (pe_ix ix_seq hp hi (plain_ix hs)).run pins s σ H Q I ⟨S, Z, A, x1, S1, e1, R, fun v1 Z1 A1 H1 st1 R1 r1 => ⟨S1, Z1, A1, x2, S2, e2, R1, fun v2 Z2 A2 H2 st2 R2 r2 => ?_⟩⟩
    exact ix_rule (fun ks ds e => hd ⟨ks, ds, e⟩) f2 (rd_top R2 (r1.step R1 st2) f1) r2 fun w rw => k _ _ _ _ (st1.trans st2) R2 rw

/-! ### slices -/
theorem k_oNo : PO X none (tO En c .no) := mO po_none fun σ H Q h => by
  obtain ⟨S, Z, A, o, S', e, R, q⟩ := h
  simp only [evO] at e
  cases e
  exact q _ _ _ (Step.refl _) R
theorem k_oE {e : E} {x : Expr} (h : PE X x (tE En c e)) : PO X (some x) (tO En c (.e e)) := mO (po_some h) fun σ H Q h => by
  obtain ⟨S, Z, A, o, S', ee, R, q⟩ := h
  simp only [evO] at ee
  split at ee
  · rename_i i S1 e1
    cases ee
    refine ⟨S, Z, A, _, _, e1, R, fun v1 Z1 A1 H1 st1 R1 r1 => ?_⟩
    cases r1
    exact ⟨i, rfl, q _ _ _ st1 R1⟩
  · cases ee
theorem Rps.cut {Z : Addr → Prop} {A : List Addr} {H : Hp} {ds : List D} {vs : List V} (lo hi : Option Int) (r : Rps Z A H ds vs) : Rps Z A H (cutD ds lo hi) (cutV vs lo hi) := by
  unfold cutD cutV
  rw [r.length]
  exact (r.drop _).take _
theorem cut_whole {ds : List D} {lo hi : Option Int} (h : HT.sIx ds.length 0 lo = 0 ∧ HT.sIx ds.length ds.length hi = ds.length) : cutD ds lo hi = ds := by
  unfold cutD
  rw [h.1, h.2]
  simp
theorem k_slT {p : P} {lo hi : O} {x : Expr} {l h : Option Expr} (hp : PE X x (tP En c p)) (hl : PO X l (tO En c lo)) (hh : PO X h (tO En c hi)) : PE X (.Subscript x (.Slice l h none pos2) pos) (tE En c (.slT p lo hi)) := by
  refine mE (pe_slice sl_tupA hp hl hh) fun σ H Q w => ?_
  obtain ⟨S, Z, A, d, S', e, R, k⟩ := w
  simp only [ev, Option.bind_eq_bind, Option.bind_eq_some_iff, Prod.exists] at e
  obtain ⟨x1, S1, e1, i, S2, e2, j, S3, e3, e⟩ := e
  refine ⟨S, Z, A, x1, S1, e1, R, fun v1 Z1 A1 H1 st1 R1 r1 => ⟨S1, Z1, A1, i, S2, e2, R1, fun Z2 A2 H2 st2 R2 => ⟨S2, Z2, A2, j, S3, e3, R2, fun Z3 A3 H3 st3 R3 => ?_⟩⟩⟩
  split at e
  · rename_i ds f1
    cases e
    have r3 := rd_top R3 (r1.step R1 (st2.trans st3)) f1
    cases (show Rp Z3 A3 H3 (.tup ds) v1 from r3) with
    | @tup a vs _ a1 a2 a3 a4 =>
      have st := (st1.trans st2).trans st3
      refine ⟨a, vs, rfl, SqT.of a2, fun hw => ?_, fun hw n hn => ?_⟩
      · rw [← a4.length] at hw
        rw [cut_whole hw] at k
        exact k _ _ _ _ st R3 (.tup a1 a2 a3 a4)
      · exact (k.after st).new R3 hn fun nz _ ms => .tup nz upd_same (Nat.le_trans (cutV_length vs i j) a3) ((ms _ _ a4).cut i j)
  · cases e
theorem k_sl {p : P} {lo hi : O} {x : Expr} {l h : Option Expr} (hp : PE X x (tP En c p)) (hl : PO X l (tO En c lo)) (hh : PO X h (tO En c hi)) : PE X (.Subscript x (.Slice l h none pos2) pos) (tL En c (.sl p lo hi)) := by
  refine mE (pe_slice sl_list hp hl hh) fun σ H Q w => ?_
  obtain ⟨S, Z, A, d, S', e, R, k⟩ := w
  simp only [evL, Option.bind_eq_bind, Option.bind_eq_some_iff, Prod.exists] at e
  obtain ⟨x1, S1, e1, i, S2, e2, j, S3, e3, e⟩ := e
  refine ⟨S, Z, A, x1, S1, e1, R, fun v1 Z1 A1 H1 st1 R1 r1 => ⟨S1, Z1, A1, i, S2, e2, R1, fun Z2 A2 H2 st2 R2 => ⟨S2, Z2, A2, j, S3, e3, R2, fun Z3 A3 H3 st3 R3 => ?_⟩⟩⟩
  split at e
  · rename_i ds f1
    cases e
    obtain ⟨a, vs, rfl, a2, a3, a4⟩ := rd_top R3 (r1.step R1 (st2.trans st3)) f1
    refine ⟨a, vs, rfl, SqL.of a2, fun n hn => ?_⟩
    exact (k.after ((st1.trans st2).trans st3)).new R3 hn fun ms => ⟨_, upd_same, Nat.le_trans (cutV_length vs i j) a3, (ms _ _ a4).cut i j⟩
  · cases e

/-! ### calls of built-ins -/
def rLen (K : PySem.W.Frag) : List V → Hp → VK → Prop := fun xs H Q => (∃ p ys, xs = [.ref p] ∧ (SqL K H p ys ∨ SqT K H p ys) ∧ Q (.int ys.length) H) ∨ (∃ z, xs = [.str z] ∧ z.length ≤ sizeLine ∧ Q (.int z.length) H) ∨ ∃ p kws, xs = [.ref p] ∧ Rd H p (.dK kws) ∧ Q (.int kws.length) H
theorem call_lenA : CallR X (.builtin "len") (rLen X.K) := by
  refine CallR.or call_len_seq (CallR.or call_len_str ?_)
  intro pins s σ H xs us Q I r h
  obtain ⟨a, kws, rfl, ha, q⟩ := h
  obtain ⟨u, rfl, ru⟩ := vals1 r
  cases ru
  exact d_len I ha fun t s' I' => ⟨.int kws.length, H, I', ⟨t, rfl⟩, q⟩
theorem len_rule {d : D} {n : Int} (h : lenD d = some n) {Z : Addr → Prop} {A : List Addr} {H : Hp} {v : V} (r : RpT Z A H d v) {Q : VK} (q : Q (.int n) H) : rLen K [v] H Q := by
  cases d with
  | str x =>
    cases h
    cases (show Rp Z A H _ v from r) with
    | str h1 h2 => exact .inr (.inl ⟨x, rfl, h2, q⟩)
  | tup ds =>
    cases h
    cases (show Rp Z A H _ v from r) with
    | tup h1 h2 h3 h4 => rw [h4.length] at q; exact .inl ⟨_, _, rfl, .inr (SqT.of h2), q⟩
  | lst ds =>
    cases h
    obtain ⟨a, vs, rfl, h2, h3, h4⟩ := r
    rw [h4.length] at q
    exact .inl ⟨a, vs, rfl, .inl (SqL.of h2), q⟩
  | dic ks ds =>
    cases h
    obtain ⟨a, kws, rfl, h2, rfl, h3, h4⟩ := r
    rw [List.length_map] at q
    exact .inr (.inr ⟨a, kws, rfl, h2, q⟩)
  | _ => cases h
/-- one operand that is only read -/
theorem tP1 {p : P} {x : Expr} (hn : noStar x = true) (hp : PE X x (tP En c p)) : PA X [x] (fun σ H Q => tP En c p σ H fun v H1 => Q [v] H1) := pa_cons hp pa_nil (star_ne hn)
theorem tE1 {e : E} {x : Expr} (hn : noStar x = true) (hp : PE X x (tE En c e)) : PA X [x] (fun σ H Q => tE En c e σ H fun v H1 => Q [v] H1) := pa_cons hp pa_nil (star_ne hn)
theorem k_len (ok : Cok X C c) {p : P} {x : Expr} (hb : bltB C "len" = true) (hn : noStar x = true) (hp : PE X x (tP En c p)) : PE X (.Call (.Name "len" pos1) [x] [] pos) (tE En c (.len p)) := by
  obtain ⟨g, m⟩ := ok.gl hb
  refine mE (pe_callB call_lenA g m boot_len (tP1 hn hp) (he := star_ne hn)) fun σ H Q w => ?_
  obtain ⟨S, Z, A, d, S', e, R, k⟩ := w
  simp only [ev, Option.bind_eq_bind, Option.bind_eq_some_iff, Option.some.injEq, Prod.mk.injEq, Prod.exists] at e
  obtain ⟨x1, S1, e1, d1, f1, n, f2, rfl, rfl⟩ := e
  exact ⟨S, Z, A, x1, S1, e1, R, fun v1 Z1 A1 H1 st1 R1 r1 => len_rule f2 (rd_top R1 r1 f1) (k _ _ _ _ st1 R1 (.int n))⟩
theorem k_toInt (ok : Cok X C c) {a : E} {x : Expr} (hb : bltB C "int" = true) (hn : noStar x = true) (ha : PE X x (tE En c a)) : PE X (.Call (.Name "int" pos1) [x] [] pos) (tE En c (.toInt a)) := by
  obtain ⟨g, m⟩ := ok.gl hb
  refine mE (pe_callTy call_int1 g m boot_int (tE1 hn ha) (he := star_ne hn)) fun σ H Q w => ?_
  obtain ⟨S, Z, A, d, S', e, R, k⟩ := w
  simp only [ev] at e
  split at e
  · rename_i i S1 e1
    cases e
    refine ⟨S, Z, A, _, _, e1, R, fun v1 Z1 A1 H1 st1 R1 r1 => ?_⟩
    cases r1
    exact .inl ⟨i, rfl, k _ _ _ _ st1 R1 (.int i)⟩
  · rename_i b S1 e1
    cases e
    refine ⟨S, Z, A, _, _, e1, R, fun v1 Z1 A1 H1 st1 R1 r1 => ?_⟩
    cases r1
    exact .inr ⟨b, rfl, k _ _ _ _ st1 R1 (.int _)⟩
  · cases e
theorem strOk_of (x : String) : PyData.strOk (Str.ofString x) = true := by
  rw [Str.ofString_eq_toList]
  unfold PyData.strOk
  rw [Array.all_eq_true']
  intro k hk
  have hk : k ∈ x.toList.map Char.toNat := by simpa using hk
  obtain ⟨ch, _, rfl⟩ := List.mem_map.mp hk
  have := ch.valid
  simp only [decide_eq_true_eq]
  rcases this with h | h
  · show ch.val.toNat < _
    have : ch.val.toNat < 0xd800 := h
    omega
  · show ch.val.toNat < _
    exact h.2
theorem k_toStr (ok : Cok X C c) {a : E} {x : Expr} (hb : bltB C "str" = true) (hn : noStar x = true) (ha : PE X x (tE En c a)) : PE X (.Call (.Name "str" pos1) [x] [] pos) (tE En c (.toStr a)) := by
  obtain ⟨g, m⟩ := ok.gl hb
  refine mE (pe_callTy call_str_int g m boot_str (tE1 hn ha) (he := star_ne hn)) fun σ H Q w => ?_
  obtain ⟨S, Z, A, d, S', e, R, k⟩ := w
  simp only [ev] at e
  split at e
  · rename_i i S1 e1
    split at e
    · rename_i hz
      cases e
      refine ⟨S, Z, A, _, _, e1, R, fun v1 Z1 A1 H1 st1 R1 r1 => ?_⟩
      cases r1
      exact ⟨i, rfl, hz, k _ _ _ _ st1 R1 (.str (strOk_of _) (int_text_fits hz))⟩
    · cases e
  · cases e
theorem k_absI (ok : Cok X C c) {a : E} {x : Expr} (hb : bltB C "abs" = true) (hn : noStar x = true) (ha : PE X x (tE En c a)) : PE X (.Call (.Name "abs" pos1) [x] [] pos) (tE En c (.absI a)) := by
  obtain ⟨g, m⟩ := ok.gl hb
  refine mE (pe_callB call_abs g m boot_abs (tE1 hn ha) (he := star_ne hn)) fun σ H Q w => ?_
  obtain ⟨S, Z, A, d, S', e, R, k⟩ := w
  simp only [ev] at e
  split at e
  · rename_i i S1 e1
    cases e
    refine ⟨S, Z, A, _, _, e1, R, fun v1 Z1 A1 H1 st1 R1 r1 => ?_⟩
    cases r1
    exact ⟨i, rfl, k _ _ _ _ st1 R1 (.int _)⟩
  · cases e
theorem k_max2 (ok : Cok X C c) {a b : E} {x y : Expr} (hb : bltB C "max" = true) (hn : noStar x = true) (hn2 : noStar y = true) (ha : PE X x (tE En c a)) (hb2 : PE X y (tE En c b)) : PE X (.Call (.Name "max" pos1) [x, y] [] pos) (tE En c (.max2 a b)) := by
  obtain ⟨g, m⟩ := ok.gl hb
  refine mE (pe_callB (call_max2 ok.calm) g m boot_max (pa_cons ha (pa_cons hb2 pa_nil (star_ne hn2)) (star_ne hn)) (he := star_ne hn) (hpl := by rw [star_ne hn2]; rfl)) fun σ H Q w => ?_
  obtain ⟨S, Z, A, d, S', e, R, k⟩ := w
  simp only [ev, Option.bind_eq_bind, Option.bind_eq_some_iff, Prod.exists] at e
  obtain ⟨d1, S1, e1, d2, S2, e2, e⟩ := e
  split at e
  · rename_i i j
    cases e
    refine ⟨S, Z, A, _, S1, e1, R, fun v1 Z1 A1 H1 st1 R1 r1 => ⟨S1, Z1, A1, _, _, e2, R1, fun v2 Z2 A2 H2 st2 R2 r2 => ?_⟩⟩
    cases r1
    cases r2
    exact ⟨i, j, rfl, k _ _ _ _ (st1.trans st2) R2 (.int _)⟩
  · cases e
theorem k_tupOf (ok : Cok X C c) {p : P} {x : Expr} (hb : bltB C "tuple" = true) (hn : noStar x = true) (hp : PE X x (tP En c p)) : PE X (.Call (.Name "tuple" pos1) [x] [] pos) (tE En c (.tupOf p)) := by
  obtain ⟨g, m⟩ := ok.gl hb
  refine mE (pe_callTy call_tuple_of g m boot_tuple (tP1 hn hp) (he := star_ne hn)) fun σ H Q w => ?_
  obtain ⟨S, Z, A, d, S', e, R, k⟩ := w
  simp only [ev, Option.bind_eq_bind, Option.bind_eq_some_iff, Prod.exists] at e
  obtain ⟨x1, S1, e1, e⟩ := e
  refine ⟨S, Z, A, x1, S1, e1, R, fun v1 Z1 A1 H1 st1 R1 r1 => ?_⟩
  split at e
  · rename_i ds f1
    cases e
    have r3 := rd_top R1 r1 f1
    cases (show Rp Z1 A1 H1 (.tup ds) v1 from r3) with
    | tup a1 a2 a3 a4 => exact ⟨_, _, rfl, .inr ⟨SqT.of a2, k _ _ _ _ st1 R1 r3⟩⟩
  · rename_i ds f1
    cases e
    obtain ⟨a, vs, rfl, a2, a3, a4⟩ := rd_top R1 r1 f1
    exact ⟨a, vs, rfl, .inl ⟨SqL.of a2, fun n hn => (k.after st1).new R1 hn fun nz _ ms => .tup nz upd_same a3 (ms _ _ a4)⟩⟩
  · cases e
theorem k_ofP (ok : Cok X C c) {p : P} {x : Expr} (hb : bltB C "list" = true) (hn : noStar x = true) (hp : PE X x (tP En c p)) : PE X (.Call (.Name "list" pos1) [x] [] pos) (tL En c (.ofP p)) := by
  obtain ⟨g, m⟩ := ok.gl hb
  refine mE (pe_callTy call_list_of g m boot_list (tP1 hn hp) (he := star_ne hn)) fun σ H Q w => ?_
  obtain ⟨S, Z, A, d, S', e, R, k⟩ := w
  simp only [evL, Option.bind_eq_bind, Option.bind_eq_some_iff, Prod.exists] at e
  obtain ⟨x1, S1, e1, e⟩ := e
  refine ⟨S, Z, A, x1, S1, e1, R, fun v1 Z1 A1 H1 st1 R1 r1 => ?_⟩
  split at e
  · rename_i ds f1
    cases e
    cases (show Rp Z1 A1 H1 (.tup _) v1 from rd_top R1 r1 f1) with
    | tup a1 a2 a3 a4 => exact ⟨_, _, rfl, .inr (SqT.of a2), fun n hn => (k.after st1).new R1 hn fun ms => ⟨_, upd_same, a3, ms _ _ a4⟩⟩
  · rename_i ds f1
    cases e
    obtain ⟨a, vs, rfl, a2, a3, a4⟩ := rd_top R1 r1 f1
    exact ⟨a, vs, rfl, .inl (SqL.of a2), fun n hn => (k.after st1).new R1 hn fun ms => ⟨_, upd_same, a3, ms _ _ a4⟩⟩
  · cases e
theorem bools_rel {Z : Addr → Prop} {A : List Addr} {H : Hp} : ∀ {ds : List D} {vs : List V} {bs : List Bool}, Rps Z A H ds vs → boolsD ds = some bs → vs = bs.map V.bl
  | _, _, bs, .nil, h => by cases h; rfl
  | _, _, bs, .cons (d := d) (ds := ds) r t, h => by
    cases d with
    | bl b =>
      obtain ⟨bs', h1, rfl⟩ := Option.map_eq_some_iff.mp (show (boolsD ds).map (b :: ·) = some bs from h)
      cases r
      rw [bools_rel t h1]
      rfl
    | _ => cases h
theorem k_allL (ok : Cok X C c) {p : P} {x : Expr} (hb : bltB C "all" = true) (hn : noStar x = true) (hp : PE X x (tP En c p)) : PE X (.Call (.Name "all" pos1) [x] [] pos) (tE En c (.allL p)) := by
  obtain ⟨g, m⟩ := ok.gl hb
  refine mE (pe_callB (cr_all ok.calm) g m boot_all (tP1 hn hp) (he := star_ne hn)) fun σ H Q w => ?_
  obtain ⟨S, Z, A, d, S', e, R, k⟩ := w
  simp only [ev, Option.bind_eq_bind, Option.bind_eq_some_iff, Prod.exists] at e
  obtain ⟨x1, S1, e1, e⟩ := e
  refine ⟨S, Z, A, x1, S1, e1, R, fun v1 Z1 A1 H1 st1 R1 r1 => ?_⟩
  split at e
  · rename_i ds f1
    obtain ⟨bs, f2, e⟩ := Option.map_eq_some_iff.mp e
    cases e
    obtain ⟨a, vs, rfl, a2, a3, a4⟩ := rd_top R1 r1 f1
    have := bools_rel a4 f2
    subst this
    exact ⟨a, bs, rfl, SqL.of a2, k _ _ _ _ st1 R1 (.bl _)⟩
  · cases e
/-! ### isinstance -/
theorem isi_rule {d : D} {ty : String} {b : Bool} (hty : ["str", "tuple", "int", "bool", "list", "dict"].contains ty = true) (h : isIn d ty = some b) {Z : Addr → Prop} {A : List Addr} {H : Hp} {v : V} (r : RpT Z A H d v) : ∃ T, TyX K H v (.type T) ∧ kitB T ty = some b := by
  have ht : ty = "str" ∨ ty = "tuple" ∨ ty = "int" ∨ ty = "bool" ∨ ty = "list" ∨ ty = "dict" := by simpa using hty
  have tab : ∀ {T : String}, (some (T == ty || (ty == "int" && T == "bool")) = some b) → (T = "NoneType" ∨ T = "bool" ∨ T = "int" ∨ T = "str" ∨ T = "tuple" ∨ T = "list" ∨ T = "dict") → kitB T ty = some b := by
    intro T hb hT
    rw [← hb]
    rcases ht with rfl | rfl | rfl | rfl | rfl | rfl <;> rcases hT with rfl | rfl | rfl | rfl | rfl | rfl | rfl <;> decide +kernel
  cases d with
  | non => cases (show Rp Z A H _ v from r); exact ⟨_, .base .non, tab h (by simp)⟩
  | bl k => cases (show Rp Z A H _ v from r); exact ⟨_, .base (.bl k), tab h (by simp)⟩
  | int i => cases (show Rp Z A H _ v from r); exact ⟨_, .base (.int i), tab h (by simp)⟩
  | str x => cases (show Rp Z A H _ v from r); exact ⟨_, .base (.str x), tab h (by simp)⟩
  | tup ds => cases (show Rp Z A H _ v from r) with | tup h1 h2 h3 h4 => exact ⟨_, .base (.tup h2), tab h (by simp)⟩
  | lst ds => obtain ⟨a, vs, rfl, h2, h3, h4⟩ := r; exact ⟨_, .base (.lst h2), tab h (by simp)⟩
  | dic ks ds =>
    obtain ⟨a, kws, rfl, h2, rfl, h3, h4⟩ := r
    rcases h2 with h2 | ⟨o, h2⟩
    · exact ⟨_, .base (.dK h2), tab h (by simp)⟩
    · exact ⟨_, .fDict h2, tab h (by simp)⟩
  | hdl n => cases h
  | scr ns => cases h
theorem boot_ty {ty : String} (hty : ["str", "tuple", "int", "bool", "list", "dict"].contains ty = true) : bootBuiltins (Str.ofString ty) = some (.type ty) ∧ Str.ofString ty ≠ ("__name__" : Str) ∧ (Str.ofString ty == ("__debug__" : Str)) = false := by
  have ht : ty = "str" ∨ ty = "tuple" ∨ ty = "int" ∨ ty = "bool" ∨ ty = "list" ∨ ty = "dict" := by simpa using hty
  rcases ht with rfl | rfl | rfl | rfl | rfl | rfl <;> refine ⟨by decide +kernel, by decide +kernel, by decide +kernel⟩
theorem k_isI (ok : Cok X C c) {p : P} {ty : String} {x : Expr} (hb : bltB C "isinstance" = true) (hn : noStar x = true) (hty : ["str", "tuple", "int", "bool", "list", "dict"].contains ty = true) (ht : bltB C (Str.ofString ty) = true) (hp : PE X x (tP En c p)) :
    PE X (.Call (.Name "isinstance" pos1) [x, .Name (Str.ofString ty) pos2] [] pos) (tE En c (.isI p ty)) := by
  obtain ⟨g, m⟩ := ok.gl hb
  obtain ⟨g2, m2⟩ := ok.gl ht
  obtain ⟨b1, b2, b3⟩ := boot_ty hty
  have hT : PE X (.Name (Str.ofString ty) pos2) (tC (.ty ty)) := pe_bltn g2 m2 b1 rfl b2 b3
  refine mE (pe_callB call_isi g m boot_isinstance (pa_cons hp (pa_cons hT pa_nil (star_ne rfl)) (star_ne hn)) (he := star_ne hn)) fun σ H Q w => ?_
  obtain ⟨S, Z, A, d, S', e, R, k⟩ := w
  simp only [ev, Option.bind_eq_bind, Option.bind_eq_some_iff, Option.some.injEq, Prod.mk.injEq, Prod.exists] at e
  obtain ⟨x1, S1, e1, d1, f1, b, f2, rfl, rfl⟩ := e
  refine ⟨S, Z, A, x1, S1, e1, R, fun v1 Z1 A1 H1 st1 R1 r1 => ?_⟩
  obtain ⟨T, t1, t2⟩ := isi_rule (K := X.K) hty f2 (rd_top R1 r1 f1)
  exact ⟨v1, .ty ty, _, _, b, rfl, .ty ty, t1, kit_ty t2, k _ _ _ _ st1 R1 (.bl b)⟩

/-! ### d.get(k, x) -/
theorem dic_is {S : ES} {Z : Addr → Prop} {A : List Addr} {σ : L2.St} {H : Hp} {x : Pv} {v : V} (R : Rl En S Z A σ H) (r : RPv En S Z A σ H x v) (h : isDi x S = true) : ∃ a kws, v = .ref a ∧ Rd H a (.dK kws) := by
  unfold isDi at h
  split at h
  · rename_i ks ds f
    obtain ⟨a, kws, rfl, h1, _⟩ := rd_top R r f
    exact ⟨a, kws, rfl, h1⟩
  · cases h
theorem k_get2 (ok : Cok X C c) {p : P} {k d : E} {o x y : Expr} (hl : (pos1.endLine == pos.line) = true) (ho : isName o = true) (hn : noStar x = true) (hn2 : noStar y = true) (hp : PE X o (tP En c p)) (hk : PE X x (tE En c k)) (hd : PE X y (tE En c d)) :
    PE X (.Call (.Attribute o "get" pos1) [x, y] [] pos) (tE En c (.get2 p k d)) := by
  have hu := ok.un
  have m : M2 X o "get" pos1 x y pos := by
    have q : starEach [x, y] X.env = [(false, eval x X.env), (false, eval y X.env)] := by rw [star_ne hn, star_ne hn2]; rfl
    have hb : attributeBase o "get" X.env (eval o X.env) = eval o X.env := by cases o <;> first | rfl | cases ho
    exact ⟨hb, by rw [q]; rfl, hl, by rw [q]; rfl⟩
  refine mE (pe_dget2 (by omega) hp hk hd m) fun σ H Q w => ?_
  obtain ⟨S, Z, A, dd, S', e, R, q⟩ := w
  simp only [ev] at e
  split at e
  · cases e
  · rename_i x1 S1 e1
    split at e
    · rename_i hi
      split at e
      · cases e
      · rename_i kd S2 e2
        split at e
        · cases e
        · rename_i d3 S3 e3
          split at e
          · rename_i ks ds f1
            split at e
            · rename_i kk hkk
              cases e
              refine ⟨S, Z, A, x1, S1, e1, R, fun v1 Z1 A1 H1 st1 R1 r1 => ?_⟩
              obtain ⟨a, kws, rfl, hr⟩ := dic_is R1 r1 hi
              refine ⟨a, rfl, .inl ⟨kws, hr⟩, S1, Z1, A1, kd, S2, e2, R1, fun v2 Z2 A2 H2 st2 R2 r2 => ⟨S2, Z2, A2, d3, _, e3, R2, fun v3 Z3 A3 H3 st3 R3 r3 => ?_⟩⟩
              obtain ⟨a', kws', ea, h1, rfl, h3, h4⟩ := rd_top R3 (r1.step R1 (st2.trans st3)) f1
              cases ea
              refine ⟨valV kws' kk, .inl ⟨kws', kk, h1, keyD_rel r2 hkk, rfl⟩, q _ _ _ _ ((st1.trans st2).trans st3) R3 ?_⟩
              have hv := valV_look kk h4
              cases hw : valV kws' kk with
              | none =>
                rw [hw] at hv
                cases hq : look (kws'.map (·.1)) ds kk with
                | none => exact r3
                | some w => rw [hq] at hv; exact hv.elim
              | some w =>
                rw [hw] at hv
                cases hq : look (kws'.map (·.1)) ds kk with
                | none => rw [hq] at hv; exact hv.elim
                | some w2 => rw [hq] at hv; exact hv
            · cases e
          · cases e
    · cases e
end
end Px
/-! Px3z: list(zip(a, b)) over two lists, two tuples. -/
namespace Px
open PySem PySem.Spec PyProof.Rows L2
/-- a source of items: a tuple (t) or a list, its iterator at it -/
def SIt (t : Bool) (h : Heap) (it l : Addr) (k : Nat) : Prop := if t then h.IsTupleIter it l k else h.IsListIter it l k
def SSq (t : Bool) (h : Heap) (l : Addr) (xs : Array Value) : Prop := if t then h.IsTuple l xs else h.IsList l xs
section
variable {t : Bool} {h h' : Heap} {it l : Addr} {k : Nat} {xs : Array Value}
theorem SIt.at (x : SIt t h it l k) (e : ∀ o, h.get? it = some o → h'.get? it = some o) : SIt t h' it l k := by
  cases t with
  | true => exact Heap.IsTupleIter.at x e
  | false => exact Heap.IsListIter.at x e
theorem SSq.at (x : SSq t h l xs) (e : ∀ o, h.get? l = some o → h'.get? l = some o) : SSq t h' l xs := by
  cases t with
  | true => exact Heap.IsTuple.at x e
  | false => exact Heap.IsList.at x e
theorem SIt.ob (x : SIt t h it l k) : ∃ o, h.get? it = some o := by
  cases t with
  | true => obtain ⟨o, e, _⟩ := x; exact ⟨o, e⟩
  | false => obtain ⟨o, e, _⟩ := x; exact ⟨o, e⟩
theorem SSq.ob (x : SSq t h l xs) : ∃ o, h.get? l = some o := by
  cases t with
  | true => obtain ⟨o, e, _⟩ := x; exact ⟨o, e⟩
  | false => obtain ⟨o, e, _⟩ := x; exact ⟨o, e⟩
end
section
variable {prog : Program} {w : World} {A : Around} {E : Value → Shared → Prop} {s : Shared} {t : Bool}
theorem nextS_item {it l : Addr} {k : Nat} {xs : Array Value} {x : Value} {Q : Value → Shared → Prop} (hit : SIt t s.heap it l k) (hl : SSq t s.heap l xs) (hx : xs[k]? = some x)
    (hQ : ∀ h', SIt t h' it l (k + 1) → Heap.SameBut it s.heap h' → Q x { s with heap := h' }) : wpAny (model prog w) A (Builtin.SmallTypes.nextOf (.ref it)) Q E s := by
  cases t with
  | true => exact wpAny_nextOf_tuple_item hit hl hx hQ
  | false => exact wpAny_nextOf_list_item hit hl hx hQ
theorem nextS_end {it l : Addr} {k : Nat} {xs : Array Value} {Q : Value → Shared → Prop} (hh : A.handled = none) (hit : SIt t s.heap it l k) (hl : SSq t s.heap l xs) (hx : xs[k]? = none)
    (hE : ∀ h' e, Heap.ExtBut it s.heap h' → (∃ o, h'.get? e = some o ∧ o.cls = .type "StopIteration") → E (.ref e) { s with heap := h' }) : wpAny (model prog w) A (Builtin.SmallTypes.nextOf (.ref it)) Q E s := by
  cases t with
  | true => exact wpAny_nextOf_tuple_end hh hit hl hx hE
  | false => exact wpAny_nextOf_list_end hh hit hl hx hE
/-- what stands of a zip that has given k pairs: nothing out, or the first pair is out -/
structure ZSt (t : Bool) (h : Heap) (z TI TO i1 i2 l1 l2 : Addr) (xs ys : Array Value) (S : Addr) (k : Nat) : Prop where
  ti : IsPair h TI (.ref i1) (.ref i2)
  a : SIt t h i1 l1 k
  b : SIt t h i2 l2 k
  la : SSq t h l1 xs
  lb : SSq t h l2 ys
  z : (IsZip h z TI TO .none ∧ ∃ a b, IsPair h TO a b) ∨ ∃ T f oT, IsZipHeld h z TI TO T f ∧ h.get? T = some oT ∧ T ≠ z ∧ T ≠ i1 ∧ T ≠ i2 ∧ T ≠ S
theorem ZSt.ty {z TI TO i1 i2 l1 l2 S : Addr} {xs ys : Array Value} {k : Nat} (x : ZSt t s.heap z TI TO i1 i2 l1 l2 xs ys S k) : s.TypeIs (.ref z) "zip" := by
  rcases x.z with ⟨hz, _⟩ | ⟨T, f, oT, hz, _⟩
  · exact ⟨_, hz, rfl⟩
  · exact ⟨_, hz, rfl⟩
theorem ZSt.keep {h h' : Heap} {z TI TO i1 i2 l1 l2 S : Addr} {xs ys : Array Value} {k : Nat} (x : ZSt t h z TI TO i1 i2 l1 l2 xs ys S k) (nz : z ≠ S) (nTI : TI ≠ S) (nTO : TO ≠ S) (n1 : i1 ≠ S) (n2 : i2 ≠ S) (m1 : l1 ≠ S) (m2 : l2 ≠ S)
    (e : ∀ c o, c ≠ S → h.get? c = some o → h'.get? c = some o) : ZSt t h' z TI TO i1 i2 l1 l2 xs ys S k := by
  refine ⟨e _ _ nTI x.ti, x.a.at fun o q => e _ o n1 q, x.b.at fun o q => e _ o n2 q, x.la.at fun o q => e _ o m1 q, x.lb.at fun o q => e _ o m2 q, ?_⟩
  rcases x.z with ⟨hz, a, b, hTO⟩ | ⟨T, f, oT, hz, hT, r1, r2, r3, r4⟩
  · exact .inl ⟨e _ _ nz hz, a, b, e _ _ nTO hTO⟩
  · exact .inr ⟨T, f, oT, e _ _ nz hz, e _ _ r4 hT, r1, r2, r3, r4⟩

/-! ### one turn -/
theorem heldS_item {z TI TO T i1 i2 l1 l2 : Addr} {f : Bool} {oT : Obj} {k : Nat} {xs ys : Array Value} {x y : Value} {Q : Value → Shared → Prop} (D : ZipApart z TI TO i1 i2 l1 l2) (hz : IsZipHeld s.heap z TI TO T f) (hT : s.heap.get? T = some oT) (hTI : IsPair s.heap TI (.ref i1) (.ref i2))
    (h1 : SIt t s.heap i1 l1 k) (h2 : SIt t s.heap i2 l2 k) (hl1 : SSq t s.heap l1 xs) (hl2 : SSq t s.heap l2 ys) (hx : xs[k]? = some x) (hy : ys[k]? = some y)
    (hQ : ∀ h', IsZipHeld h' z TI TO T true → SIt t h' i1 l1 (k + 1) → SIt t h' i2 l2 (k + 1) → IsPair h' s.heap.objs.size x y →
      (∀ c o, c ≠ z → c ≠ i1 → c ≠ i2 → s.heap.get? c = some o → h'.get? c = some o) → Q (.ref s.heap.objs.size) { s with heap := h' }) :
    wpAny (model prog w) A (Builtin.«zip.__next__» ⟨[.ref z], []⟩) (fun fin s' => ∃ v, fin = .done (.ret v) ∧ Q v s') E s := by
  show wpAny _ _ (field (.ref z) 2 >>= _) _ _ _
  refine wpAny_bind (wpAny_field hz rfl (x := .bool false) rfl ?_)
  show wpAny _ _ (field (.ref z) 3 >>= _) _ _ _
  refine wpAny_bind (wpAny_field hz rfl (x := .ref TI) rfl ?_)
  refine wpAny_bind (wpAny_seqItems hTI rfl ?_)
  show wpAny _ _ (Builtin.SmallTypes.ownedTupleIsFree (.ref z) >>= _) _ _ _
  refine wpAny_bind (wpAny_tupleHeld_zip hz hT fun h₁ hz₁ hs₁ => ?_)
  simp only [Bool.false_eq_true, if_false]
  refine wpAny_bind ?_
  rw [← Array.forIn_toList]
  simp only [List.forIn_cons, List.forIn_nil]
  refine wpAny_bind (wpAny_bind (wpAny_holding ?_))
  show wpAny _ _ (Builtin.SmallTypes.nextOf (.ref i1) >>= _) _ _ _
  have e1 : ∀ c o, c ≠ z → s.heap.get? c = some o → h₁.get? c = some o := fun c o n e => hs₁.extBut _ _ n e
  refine wpAny_bind (nextS_item (s := { s with heap := h₁ }) (h1.at fun o e => e1 _ o D.i1z e) (hl1.at fun o e => e1 _ o D.l1z e) hx fun h₂ g₁ hs₂ => wpAny_pure (wpAny_pure ?_))
  have e2 : ∀ c o, c ≠ z → c ≠ i1 → s.heap.get? c = some o → h₂.get? c = some o := fun c o n m e => hs₂.extBut _ _ m (e1 c o n e)
  refine wpAny_bind (wpAny_bind (wpAny_holding ?_))
  show wpAny _ _ (Builtin.SmallTypes.nextOf (.ref i2) >>= _) _ _ _
  refine wpAny_bind (nextS_item (s := { s with heap := h₂ }) (h2.at fun o e => e2 _ o D.i2z D.i12.symm e) (hl2.at fun o e => e2 _ o D.l2z D.l2i1 e) hy fun h₃ g₂ hs₃ => wpAny_pure (wpAny_pure (wpAny_pure ?_)))
  show wpAny _ _ (newTuple [x, y] >>= _) _ _ _
  refine wpAny_bind (wpAny_newTuple (wpAny_pure ⟨_, rfl, ?_⟩))
  have hsz : h₃.objs.size = s.heap.objs.size := by rw [hs₃.1, hs₂.1, hs₁.1]
  have e3 : ∀ c o, c ≠ z → c ≠ i1 → c ≠ i2 → s.heap.get? c = some o → h₃.get? c = some o := fun c o n m r e => hs₃.extBut _ _ r (e2 c o n m e)
  have hz₃ : IsZipHeld h₃ z TI TO T true := hs₃.extBut _ _ D.i2z.symm (hs₂.extBut _ _ D.i1z.symm hz₁)
  have g₁' : SIt t h₃ i1 l1 (k + 1) := g₁.at fun o e => hs₃.extBut _ _ D.i12 e
  show Q (.ref h₃.objs.size) _
  have hp : IsPair (h₃.push { cls := .type "tuple", data := .seq #[x, y] }) h₃.objs.size x y := Heap.get?_push_size _ rfl
  rw [hsz] at hp ⊢
  exact hQ _ (Heap.get?_push_of_some _ hz₃) (g₁'.at fun o e => Heap.get?_push_of_some _ e) (g₂.at fun o e => Heap.get?_push_of_some _ e) hp fun c o n m r e => Heap.get?_push_of_some _ (e3 c o n m r e)
theorem heldS_end {z TI TO T i1 i2 l1 l2 : Addr} {f : Bool} {oT : Obj} {k : Nat} {xs ys : Array Value} {Q : Fin → Shared → Prop} (hh : A.handled = none) (D : ZipApart z TI TO i1 i2 l1 l2) (hz : IsZipHeld s.heap z TI TO T f) (hT : s.heap.get? T = some oT) (hTI : IsPair s.heap TI (.ref i1) (.ref i2))
    (h1 : SIt t s.heap i1 l1 k) (h2 : SIt t s.heap i2 l2 k) (hl1 : SSq t s.heap l1 xs) (hl2 : SSq t s.heap l2 ys) (hend : xs[k]? = none ∨ ys[k]? = none)
    (hE : ∀ h' e, (∀ c o, c ≠ z → c ≠ i1 → c ≠ i2 → s.heap.get? c = some o → h'.get? c = some o) → (∃ o, h'.get? e = some o ∧ o.cls = .type "StopIteration") → E (.ref e) { s with heap := h' }) :
    wpAny (model prog w) A (Builtin.«zip.__next__» ⟨[.ref z], []⟩) Q E s := by
  show wpAny _ _ (field (.ref z) 2 >>= _) _ _ _
  refine wpAny_bind (wpAny_field hz rfl (x := .bool false) rfl ?_)
  show wpAny _ _ (field (.ref z) 3 >>= _) _ _ _
  refine wpAny_bind (wpAny_field hz rfl (x := .ref TI) rfl ?_)
  refine wpAny_bind (wpAny_seqItems hTI rfl ?_)
  show wpAny _ _ (Builtin.SmallTypes.ownedTupleIsFree (.ref z) >>= _) _ _ _
  refine wpAny_bind (wpAny_tupleHeld_zip hz hT fun h₁ hz₁ hs₁ => ?_)
  simp only [Bool.false_eq_true, if_false]
  refine wpAny_bind ?_
  rw [← Array.forIn_toList]
  simp only [List.forIn_cons, List.forIn_nil]
  refine wpAny_bind (wpAny_bind (wpAny_holding ?_))
  show wpAny _ _ (Builtin.SmallTypes.nextOf (.ref i1) >>= _) _ _ _
  have e1 : ∀ c o, c ≠ z → s.heap.get? c = some o → h₁.get? c = some o := fun c o n e => hs₁.extBut _ _ n e
  cases hx : xs[k]? with
  | none =>
    exact wpAny_bind (nextS_end (s := { s with heap := h₁ }) hh (h1.at fun o e => e1 _ o D.i1z e) (hl1.at fun o e => e1 _ o D.l1z e) hx fun h₂ e hs₂ he => hE h₂ e (fun c o n m _ q => hs₂ _ _ m (e1 c o n q)) he)
  | some x =>
    have hy : ys[k]? = none := hend.resolve_left fun q => by rw [hx] at q; cases q
    refine wpAny_bind (nextS_item (s := { s with heap := h₁ }) (h1.at fun o e => e1 _ o D.i1z e) (hl1.at fun o e => e1 _ o D.l1z e) hx fun h₂ g₁ hs₂ => wpAny_pure (wpAny_pure ?_))
    have e2 : ∀ c o, c ≠ z → c ≠ i1 → s.heap.get? c = some o → h₂.get? c = some o := fun c o n m e => hs₂.extBut _ _ m (e1 c o n e)
    refine wpAny_bind (wpAny_bind (wpAny_holding ?_))
    show wpAny _ _ (Builtin.SmallTypes.nextOf (.ref i2) >>= _) _ _ _
    exact wpAny_bind (nextS_end (s := { s with heap := h₂ }) hh (h2.at fun o e => e2 _ o D.i2z D.i12.symm e) (hl2.at fun o e => e2 _ o D.l2z D.l2i1 e) hy fun h₃ e hs₃ he => hE h₃ e (fun c o n m r q => hs₃ _ _ r (e2 c o n m q)) he)
/-- the next pair -/
theorem zipS_item {z TI TO i1 i2 l1 l2 S : Addr} {k : Nat} {xs ys : Array Value} {x y : Value} {Q : Option Value → Shared → Prop} (D : ZipApart z TI TO i1 i2 l1 l2) (st : ZSt t s.heap z TI TO i1 i2 l1 l2 xs ys S k) (hS : S < s.heap.objs.size) (hx : xs[k]? = some x) (hy : ys[k]? = some y)
    (hQ : ∀ h', ZSt t h' z TI TO i1 i2 l1 l2 xs ys S (k + 1) → IsPair h' s.heap.objs.size x y → (∀ c o, c ≠ z → c ≠ TO → c ≠ i1 → c ≠ i2 → s.heap.get? c = some o → h'.get? c = some o) → Q (some (.ref s.heap.objs.size)) { s with heap := h' }) :
    wpAny (model prog w) A (pyNext (.ref z)) Q E s := by
  obtain ⟨hTI, h1, h2, hl1, hl2, hz⟩ := st
  have lt : ∀ {c o}, s.heap.get? c = some o → s.heap.objs.size ≠ c := fun e => Nat.ne_of_gt (Heap.lt_size e)
  obtain ⟨_, w1⟩ := h1.ob
  obtain ⟨_, w2⟩ := h2.ob
  rcases hz with ⟨hz, a, b, hTO⟩ | ⟨T, f, oT, hz, hT, r1, r2, r3, r4⟩
  · have go : ∀ h', IsZip h' z TI TO (rawInt s.heap.objs.size) → SIt t h' i1 l1 (k + 1) → SIt t h' i2 l2 (k + 1) → IsPair h' s.heap.objs.size x y →
        (∀ c o, c ≠ z → c ≠ TO → c ≠ i1 → c ≠ i2 → s.heap.get? c = some o → h'.get? c = some o) → Q (some (.ref s.heap.objs.size)) { s with heap := h' } := fun h' a1 a3 a4 a5 hk =>
      hQ h' ⟨hk _ _ D.TIz D.TITO D.TIi1 D.TIi2 hTI, a3, a4, hl1.at fun o e => hk _ o D.l1z D.l1TO D.l1i1 D.l1i2 e, hl2.at fun o e => hk _ o D.l2z D.l2TO D.l2i1 D.l2i2 e, .inr ⟨s.heap.objs.size, false, _, a1, a5, lt hz, lt w1, lt w2, Nat.ne_of_gt hS⟩⟩ a5 hk
    cases t with
    | true => exact RZ.pyNext_zipT_item D hz hTI hTO h1 h2 hl1 hl2 hx hy fun h' a1 a2 a3 a4 a5 a6 hk => go h' a1 a3 a4 a5 hk
    | false => exact wpAny_pyNext_zip_item D hz hTI hTO h1 h2 hl1 hl2 hx hy fun h' a1 a2 a3 a4 a5 a6 hk => go h' a1 a3 a4 a5 hk
  · have hTy : s.TypeIs (.ref z) "zip" := ⟨_, hz, rfl⟩
    unfold pyNext
    refine wpAny_bind (wpAny_attempt (wpAny_callSpecial?_slot (name := Str.ofString "__next__") hTy F.slot_zip_next (wpAny_call_entry F.slot_zip_next hTy F.entry_zip_next ?_ (F.args_zip_next_1 _))))
    refine heldS_item D hz hT hTI h1 h2 hl1 hl2 hx hy fun h' a1 a3 a4 a5 hk => wpAny_pure (hQ h' ?_ a5 fun c o n1 _ n3 n4 e => hk c o n1 n3 n4 e)
    exact ⟨hk _ _ D.TIz D.TIi1 D.TIi2 hTI, a3, a4, hl1.at fun o e => hk _ o D.l1z D.l1i1 D.l1i2 e, hl2.at fun o e => hk _ o D.l2z D.l2i1 D.l2i2 e, .inr ⟨T, true, oT, a1, hk _ _ r1 r2 r3 hT, r1, r2, r3, r4⟩⟩
theorem zipS_end {z TI TO i1 i2 l1 l2 S : Addr} {k : Nat} {xs ys : Array Value} {Q : Option Value → Shared → Prop} (hh : A.handled = none) (D : ZipApart z TI TO i1 i2 l1 l2) (st : ZSt t s.heap z TI TO i1 i2 l1 l2 xs ys S k) (hend : xs[k]? = none ∨ ys[k]? = none)
    (hQ : ∀ h', (∀ c o, c ≠ z → c ≠ TO → c ≠ i1 → c ≠ i2 → s.heap.get? c = some o → h'.get? c = some o) → Q none { s with heap := h' }) : wpAny (model prog w) A (pyNext (.ref z)) Q E s := by
  obtain ⟨hTI, h1, h2, hl1, hl2, hz⟩ := st
  rcases hz with ⟨hz, a, b, hTO⟩ | ⟨T, f, oT, hz, hT, r1, r2, r3, r4⟩
  · cases t with
    | true => exact RZ.pyNext_zipT_end hh D hz hTI hTO h1 h2 hl1 hl2 hend hQ
    | false => exact wpAny_pyNext_zip_end hh D hz hTI hTO h1 h2 hl1 hl2 hend hQ
  · have hTy : s.TypeIs (.ref z) "zip" := ⟨_, hz, rfl⟩
    unfold pyNext
    refine wpAny_bind (wpAny_attempt (wpAny_callSpecial?_slot (name := Str.ofString "__next__") hTy F.slot_zip_next (wpAny_call_entry F.slot_zip_next hTy F.entry_zip_next ?_ (F.args_zip_next_1 _))))
    refine heldS_end hh D hz hT hTI h1 h2 hl1 hl2 hend fun h' e hk he => ?_
    obtain ⟨o, ho, hc⟩ := he
    exact wpAny_bind (wpAny_isInstance (T := "StopIteration") (b := true) ⟨o, ho, hc⟩ isSubtype_stop (wpAny_pure (hQ _ fun c o n1 _ n3 n4 e => hk c o n1 n3 n4 e)))
end

/-! ### the loop that fills the list -/
/-- the pairs so far: at as, above lo -/
structure ZG (ps : List (Value × Value)) (lo : Addr) (h : Heap) (as : List Addr) : Prop where
  rise : as.Pairwise (· < ·)
  above : ∀ a ∈ as, lo < a
  pairs : ∀ (j : Nat) (a : Addr), as[j]? = some a → ∃ x y, ps[j]? = some (x, y) ∧ IsPair h a x y
section
variable {prog : Program} {w : World} {A : Around} {s : Shared} {R : Result → Shared → Prop} {t : Bool}
theorem zs_loop {z TI TO i1 i2 l1 l2 S : Addr} {xs ys : Array Value} {lo : Addr} (hh : A.handled = none) (D : ZipApart z TI TO i1 i2 l1 l2) (nz : z ≠ S) (nTI : TI ≠ S) (nTO : TO ≠ S) (n1 : i1 ≠ S) (n2 : i2 ≠ S) (m1 : l1 ≠ S) (m2 : l2 ≠ S) (hn : (xs.toList.zip ys.toList).length ≤ sizeLine) (res : Value) {h₁ : Heap}
    (lS : S ≤ lo) (lz : z ≤ lo) (lTO : TO ≤ lo) (li1 : i1 ≤ lo) (li2 : i2 ≤ lo)
    (hR : ∀ h' tk acc c as, (∀ b o, b ≠ S → b ≠ z → b ≠ TO → b ≠ i1 → b ≠ i2 → h₁.get? b = some o → h'.get? b = some o) → h'.get? S = some { cls := .type "list", dict := none, data := .seq acc c, slots := #[] } → as.length = (xs.toList.zip ys.toList).length → ZG (xs.toList.zip ys.toList) lo h' as →
      acc.toList = as.map Value.ref → R (.ok (.ret res)) { s with heap := h', toks := tk }) :
    ∀ (k i : Nat) (h : Heap) (tk c : Nat) (acc : Array Value) (as : List Addr), (xs.toList.zip ys.toList).length - i = k → i ≤ (xs.toList.zip ys.toList).length → ZSt t h z TI TO i1 i2 l1 l2 xs ys S i →
      (∀ b o, b ≠ S → b ≠ z → b ≠ TO → b ≠ i1 → b ≠ i2 → h₁.get? b = some o → h.get? b = some o) →
      h.get? S = some { cls := .type "list", dict := none, data := .seq acc c, slots := #[] } → acc.toList = as.map Value.ref → as.length = i → ZG (xs.toList.zip ys.toList) lo h as → lo < h.objs.size →
      codeAny (model prog w) A (.builtin "list.extend.loop" ⟨[.ref S, .ref z, res], []⟩) R { s with heap := h, toks := tk } := by
  have gt : ∀ {a b : Addr}, a ≤ lo → lo < b → b ≠ a := fun h1 h2 => Nat.ne_of_gt (Nat.lt_of_le_of_lt h1 h2)
  intro k
  induction k with
  | zero =>
    intro i h tk c acc as hk hi hst hkeep hS hacc hal hG hlo
    have hin : i = (xs.toList.zip ys.toList).length := by omega
    refine codeAny_builtin PySem.F.entry_extend_loop ?_
    rw [Around.under_plainId PySem.F.plain_extend_loop _]
    show wpAny _ A.in1 (pyNext (.ref z) >>= _) _ _ _
    have hend : xs[i]? = none ∨ ys[i]? = none := by
      rw [List.length_zip, Array.length_toList, Array.length_toList] at hin
      rcases Nat.le_total xs.size ys.size with q | q
      · exact .inl (Array.getElem?_eq_none (by omega))
      · exact .inr (Array.getElem?_eq_none (by omega))
    refine wpAny_bind (zipS_end (s := { s with heap := h, toks := tk }) (A := A.in1) hh D hst hend fun h' he => ?_)
    have he : ∀ c o, c ≠ z → c ≠ TO → c ≠ i1 → c ≠ i2 → h.get? c = some o → h'.get? c = some o := he
    refine wpAny_pure (hR h' tk acc c as (fun b o q1 q2 q3 q4 q5 e => he b o q2 q3 q4 q5 (hkeep b o q1 q2 q3 q4 q5 e)) (he S _ nz.symm nTO.symm n1.symm n2.symm hS) (by omega) ⟨hG.rise, hG.above, fun j a hj => ?_⟩ hacc)
    obtain ⟨x, y, e1, e2⟩ := hG.pairs j a hj
    have ha := hG.above a (List.mem_of_getElem? hj)
    exact ⟨x, y, e1, he a _ (gt lz ha) (gt lTO ha) (gt li1 ha) (gt li2 ha) e2⟩
  | succ k ih =>
    intro i h tk c acc as hk hi hst hkeep hS hacc hal hG hlo
    have hlt : i < (xs.toList.zip ys.toList).length := by omega
    obtain ⟨⟨x, y⟩, hxy⟩ : ∃ p, (xs.toList.zip ys.toList)[i]? = some p := ⟨_, List.getElem?_eq_getElem hlt⟩
    have hx : xs[i]? = some x ∧ ys[i]? = some y := by
      have q := List.getElem?_zip_eq_some.mp hxy
      simpa using q
    have hsz : acc.size = i := by rw [← Array.length_toList, hacc, List.length_map, hal]
    have hSl : S < h.objs.size := Heap.lt_size hS
    refine codeAny_builtin PySem.F.entry_extend_loop ?_
    rw [Around.under_plainId PySem.F.plain_extend_loop _]
    show wpAny _ A.in1 (pyNext (.ref z) >>= _) _ _ _
    refine wpAny_bind (zipS_item (s := { s with heap := h, toks := tk }) D hst hSl hx.1 hx.2 fun h' hst' hp hkp => ?_)
    have hp : IsPair h' h.objs.size x y := hp
    have hkp : ∀ c o, c ≠ z → c ≠ TO → c ≠ i1 → c ≠ i2 → h.get? c = some o → h'.get? c = some o := hkp
    have hS' := hkp S _ nz.symm nTO.symm n1.symm n2.symm hS
    have up : ∀ b o, b ≠ S → h'.get? b = some o → (h'.update S (Obj.mapSeq (·.push (Value.ref h.objs.size)))).get? b = some o := fun b o hb e => (Heap.get?_update_other _ _ (Ne.symm hb)).trans e
    show wpAny _ A.in1 (updateSeq S (·.push (Value.ref h.objs.size)) >>= _) _ _ _
    refine wpAny_bind (wpAny_updateSeq hS' rfl (wpAny_pure ⟨plainId_quiet PySem.F.plain_extend_loop _, ih (i + 1) _ tk _ (acc.push (Value.ref h.objs.size)) (as ++ [h.objs.size]) (by omega) hlt (hst'.keep nz nTI nTO n1 n2 m1 m2 up)
      (fun b o q1 q2 q3 q4 q5 e => up b o q1 (hkp b o q2 q3 q4 q5 (hkeep b o q1 q2 q3 q4 q5 e))) (Heap.get?_update_self _ hS' rfl) (by rw [Array.toList_push, hacc, List.map_append]; rfl) (by rw [List.length_append, hal]; rfl) ⟨?_, ?_, ?_⟩ ?_⟩) (by rw [hsz]; omega) (by show (acc.push (Value.ref h.objs.size)).size ≤ sizeLine + 1; rw [Array.size_push, hsz]; omega))
    · refine List.pairwise_append.mpr ⟨hG.rise, List.pairwise_singleton _ _, fun a ha b hb => ?_⟩
      rw [List.mem_singleton.mp hb]
      obtain ⟨j, hj⟩ := List.mem_iff_getElem?.mp ha
      obtain ⟨_, _, _, e⟩ := hG.pairs j a hj
      exact Heap.lt_size e
    · intro a ha
      rcases List.mem_append.mp ha with ha | ha
      · exact hG.above a ha
      · rw [List.mem_singleton.mp ha]; exact hlo
    · intro j b hj
      by_cases h1 : j < as.length
      · rw [List.getElem?_append_left h1] at hj
        obtain ⟨x', y', e1, e2⟩ := hG.pairs j b hj
        have hb := hG.above b (List.mem_of_getElem? hj)
        exact ⟨x', y', e1, up b _ (gt lS hb) (hkp b _ (gt lz hb) (gt lTO hb) (gt li1 hb) (gt li2 hb) e2)⟩
      · rw [List.getElem?_append_right (Nat.le_of_not_lt h1)] at hj
        obtain ⟨hj1, hj2⟩ := List.getElem?_eq_some_iff.mp hj
        have hj0 : j = i := by simp at hj1; omega
        have hb : h.objs.size = b := by simpa using hj2
        subst hj0 hb
        exact ⟨x, y, hxy, up _ _ (Nat.ne_of_gt hSl) hp⟩
    · have e : (h'.update S (Obj.mapSeq (·.push (Value.ref h.objs.size)))).get? h.objs.size = _ := up _ _ (Nat.ne_of_gt hSl) hp
      exact Nat.lt_trans hlo (Heap.lt_size e)
end
theorem zip_no_len : typeLookup (.type "zip") "__len__" = pure none := by rw [typeLookup_type, builtinLookup_eq_fast]; kernel_rfl
theorem zip_no_hint : typeLookup (.type "zip") "__length_hint__" = pure none := by rw [typeLookup_type, builtinLookup_eq_fast]; kernel_rfl
section
variable {prog : Program} {w : World} {A : Around} {E : Value → Shared → Prop} {s : Shared} {t : Bool}
/-- list(z) -/
theorem call_list_zipS {z TI TO i1 i2 l1 l2 : Addr} {xs ys : Array Value} {Q : Value → Shared → Prop} (hh : A.handled = none) (D : ZipApart z TI TO i1 i2 l1 l2) (hz : IsZip s.heap z TI TO .none) (hTI : IsPair s.heap TI (.ref i1) (.ref i2)) (hTO : ∃ a b, IsPair s.heap TO a b)
    (h1 : SIt t s.heap i1 l1 0) (h2 : SIt t s.heap i2 l2 0) (hl1 : SSq t s.heap l1 xs) (hl2 : SSq t s.heap l2 ys) (hn : (xs.toList.zip ys.toList).length ≤ sizeLine)
    (hQ : ∀ h' tk acc c as, (∀ b o, b ≠ z → b ≠ TO → b ≠ i1 → b ≠ i2 → s.heap.get? b = some o → h'.get? b = some o) → h'.get? s.heap.objs.size = some { cls := .type "list", dict := none, data := .seq acc c, slots := #[] } → as.length = (xs.toList.zip ys.toList).length →
      ZG (xs.toList.zip ys.toList) s.heap.objs.size h' as → acc.toList = as.map Value.ref → Q (.ref s.heap.objs.size) { s with heap := h', toks := tk }) :
    wpAny (model prog w) A (call (.type "list") [.ref z]) Q E s := by
  refine callType_codes (Q₁ := fun obj s₁ => obj = .ref s.heap.objs.size ∧ s₁ = { s with heap := s.heap.push { cls := .type "list", data := .seq #[] } }) PySem.F.called_list (PySem.F.typeCall_list_1 _) PySem.F.entry_list_init
    (code_list_new _ ⟨rfl, rfl⟩) fun obj s₁ hs₁ => ?_
  obtain ⟨rfl, rfl⟩ := hs₁
  generalize hSe : s.heap.objs.size = S at *
  have lt : ∀ {c o}, s.heap.get? c = some o → c < S := fun e => by rw [← hSe]; exact Heap.lt_size e
  have ne : ∀ {c o}, s.heap.get? c = some o → c ≠ S := fun e => Nat.ne_of_lt (lt e)
  obtain ⟨_, w1⟩ := h1.ob
  obtain ⟨_, w2⟩ := h2.ob
  obtain ⟨_, v1⟩ := hl1.ob
  obtain ⟨_, v2⟩ := hl2.ob
  obtain ⟨ta, tb, hTO⟩ := hTO
  have k0 : ∀ b o, s.heap.get? b = some o → (s.heap.push { cls := .type "list", data := .seq #[] }).get? b = some o := fun b o e => Heap.get?_push_of_some _ e
  have hS : (s.heap.push { cls := .type "list", data := .seq #[] }).get? S = some { cls := .type "list", data := .seq #[] } := by rw [← hSe]; exact Heap.get?_push_size _ rfl
  refine ⟨⟨_, hS, rfl⟩, PySem.F.args_list_init_2 _ _, ?_⟩
  show wpAny _ _ (do let old ← Builtin.List.listItems (.ref S); Builtin.List.listUpdate (.ref S) (fun _ => #[]); letGo old.toList.reverse; Builtin.List.listExtendWith (.ref S) (.ref z) .none) _ _ _
  refine wpAny_bind ?_
  unfold Builtin.List.listItems
  refine wpAny_bind (wpAny_seqItems hS rfl (wpAny_pure ?_))
  show wpAny _ _ (updateSeq S (fun _ => #[]) >>= fun _ => letGo (#[] : Array Value).toList.reverse >>= fun _ => Builtin.List.listExtendWith (.ref S) (.ref z) .none) _ _ _
  refine wpAny_bind (wpAny_updateSeq hS rfl ?_)
  have hS₂ := Heap.get?_update_self (Obj.mapSeq (fun _ => (#[] : Array Value))) hS rfl
  refine wpAny_bind (wpAny_letGo ?_)
  have oth : ∀ b o, b ≠ S → s.heap.get? b = some o → ((s.heap.push { cls := .type "list", data := .seq #[] }).update S (Obj.mapSeq (fun _ => (#[] : Array Value)))).get? b = some o :=
    fun b o hb e => (Heap.get?_update_other _ _ (Ne.symm hb)).trans (k0 b o e)
  generalize hh2 : (s.heap.push { cls := .type "list", data := .seq #[] }).update S (Obj.mapSeq (fun _ => (#[] : Array Value))) = h2' at hS₂ oth ⊢
  have hTy : ∀ tk', ({ s with heap := h2', toks := tk' } : Shared).TypeIs (.ref z) "zip" := fun tk' => ⟨_, oth _ _ (ne hz) hz, rfl⟩
  unfold Builtin.List.listExtendWith
  refine wpAny_bind (wpAny_typeOf (T := "zip") (hTy _) ?_)
  have q1 : Builtin.List.listSameRef (.ref S) (.ref z) = false := by simp [Builtin.List.listSameRef, Ne.symm (ne hz)]
  have q2 : (Value.type "zip" == Value.type "list") = false := by decide
  have q3 : (Value.type "zip" == Value.type "tuple") = false := by decide
  simp only [q1, q2, q3, Bool.or_false, Bool.false_eq_true, if_false]
  refine wpAny_bind (wpAny_pyIter_zip (oth _ _ (ne hz) hz) ?_)
  refine wpAny_bind (wpAny_holding ?_)
  unfold Builtin.List.listLengthHint
  refine wpAny_bind (wpAny_specialOf (hTy _) zip_no_len ?_)
  show wpAny _ _ (specialOf (Value.ref z) (Str.ofString "__length_hint__") >>= _) _ _ _
  refine wpAny_bind (wpAny_specialOf (hTy _) zip_no_hint (wpAny_pure ?_))
  show wpAny _ _ (rule "list.extend.makes-room" >>= fun _ => Builtin.List.listTouch (.ref S) >>= fun _ => again (.builtin "list.extend.loop" ⟨[.ref S, .ref z, .none], []⟩)) _ _ _
  refine wpAny_bind (wpAny_rule (wpAny_bind ?_))
  show wpAny _ _ (updateSeq S (·.push .none) >>= fun _ => updateSeq S (·.pop)) _ _ _
  refine wpAny_bind (wpAny_updateSeq hS₂ rfl ?_)
  have hS₃ := Heap.get?_update_self (Obj.mapSeq (·.push Value.none)) hS₂ rfl
  refine wpAny_updateSeq (hz := by seq_fits) hS₃ rfl ?_
  have hS₄ := Heap.get?_update_self (Obj.mapSeq (·.pop)) hS₃ rfl
  have oth2 : ∀ b o, b ≠ S → s.heap.get? b = some o → ((h2'.update S (Obj.mapSeq (·.push Value.none))).update S (Obj.mapSeq (·.pop))).get? b = some o :=
    fun b o hb e => (Heap.get?_update_other _ _ (Ne.symm hb)).trans ((Heap.get?_update_other _ _ (Ne.symm hb)).trans (oth b o hb e))
  generalize (h2'.update S (Obj.mapSeq (·.push Value.none))).update S (Obj.mapSeq (·.pop)) = h4 at hS₄ oth2 ⊢
  refine wpAny_pure ⟨plainId_quiet PySem.F.plain_extend_loop _, ?_⟩
  show codeAny (model prog w) A.in1 (.builtin "list.extend.loop" ⟨[.ref S, .ref z, .none], []⟩) (wants (fun r s₂ => r = Value.none ∧ Q (.ref S) s₂) E) { s with heap := h4, toks := s.toks }
  refine zs_loop (A := A.in1) (R := wants (fun r s₂ => r = Value.none ∧ Q (.ref S) s₂) E) (t := t) (s := s) (h₁ := s.heap) (lo := S) (xs := xs) (ys := ys) hh D (ne hz) (ne hTI) (ne hTO) (ne w1) (ne w2) (ne v1) (ne v2) hn .none (Nat.le_refl _) (Nat.le_of_lt (lt hz)) (Nat.le_of_lt (lt hTO)) (Nat.le_of_lt (lt w1)) (Nat.le_of_lt (lt w2))
    (fun h' tk acc c as hk hS' hl hG hacc => ⟨rfl, hQ h' tk acc c as (fun b o q2 q3 q4 q5 e => hk b o (ne e) q2 q3 q4 q5 e) hS' hl hG hacc⟩)
    _ 0 h4 s.toks _ #[] [] rfl (Nat.zero_le _) ?_ (fun b o hb _ _ _ _ e => oth2 b o hb e) hS₄ rfl rfl ⟨List.Pairwise.nil, (fun _ ha => nomatch ha), fun j a hj => by simp at hj⟩ (Heap.lt_size hS₄)
  exact ⟨oth2 _ _ (ne hTI) hTI, h1.at fun o e => oth2 _ o (ne e) e, h2.at fun o e => oth2 _ o (ne e) e, hl1.at fun o e => oth2 _ o (ne e) e, hl2.at fun o e => oth2 _ o (ne e) e, .inl ⟨oth2 _ _ (ne hz) hz, ta, tb, oth2 _ _ (ne hTO) hTO⟩⟩
end
end Px
/-! Px3y: list(zip(..)) as a reading, slices with a step, + of lists. -/
namespace Px
open PySem PySem.Spec PyProof.Rows L2
/-! ### several new objects at once -/
theorem Inv.laidL {X : Cx} {pins : List (Addr × Obj)} {σ : L2.St} {H H' : Hp} {s : Shared} {h' : Heap} {t' : Nat} (I : Inv X pins σ H s) (k : ∀ b o, s.heap.get? b = some o → h'.get? b = some o) (hx : ∀ a o, H a = some o → H' a = some o)
    (hn : ∀ a, a < s.heap.objs.size → H' a = H a) (new : ∀ a o, H' a = some o → H a = none → ObjOk X.prog X.w H' h' a o) : Inv X pins σ H' { s with heap := h', toks := t' } := by
  refine I.un ⟨fun b o e _ _ _ => k b o e, fun b o e _ _ _ => ⟨o.slots, k b o e⟩, fun b o e n _ => ?_, fun b o e _ => ⟨o, k b o e⟩, fun b xs e => hx _ _ e, fun b o u e => hx _ _ e, fun b ps e => ⟨#[], by rw [hx _ _ e]; simp⟩⟩ fun a o e => ?_
  · rw [hn b (Heap.lt_size e)]; exact n
  · cases q : H a with
    | none => exact new a o e q
    | some u =>
      have e2 := hx a u q
      rw [e] at e2
      cases e2
      exact (I.hok a o q).stay (fun b v _ z => k b v z) (fun b z => hx _ _ z) fun b xs z => hx _ _ z
/-- the heap behind list(zip(..)): the list at L, its pairs at ps -/
structure ZNew (H H' : Hp) (L : Addr) (ps : List Addr) (qs : List (V × V)) : Prop where
  old : ∀ a o, H a = some o → H' a = some o
  fr : H L = none
  lat : H' L = some (.lst (ps.map V.ref))
  len : ps.length = qs.length
  pair : ∀ (j : Nat) (p : Addr), ps[j]? = some p → ∃ x y, qs[j]? = some (x, y) ∧ H' p = some (.tup [x, y]) ∧ p ≠ L ∧ H p = none
section
variable {X : Cx} {pos pos1 pos2 pos3 : Pos}
def rZipL (K : PySem.W.Frag) : R2 := fun x y H Q => ∃ a b xs ys, x = .ref a ∧ y = .ref b ∧ ((SqL K H a xs ∧ SqL K H b ys) ∨ (SqT K H a xs ∧ SqT K H b ys)) ∧ ∀ L ps H', ZNew H H' L ps (xs.zip ys) → Q (.ref L) H'
theorem zip_rel {xs ys : List V} {us ws : List Value} (r1 : Vals xs us) (r2 : Vals ys ws) {j : Nat} {u v : Value} (h : (us.zip ws)[j]? = some (u, v)) : ∃ x y, (xs.zip ys)[j]? = some (x, y) ∧ RelV x u ∧ RelV y v := by
  obtain ⟨h1, h2⟩ := List.getElem?_zip_eq_some.mp h
  have l1 := r1.length
  have l2 := r2.length
  have b1 := (List.getElem?_eq_some_iff.mp h1).1
  have b2 := (List.getElem?_eq_some_iff.mp h2).1
  obtain ⟨u', e1, q1⟩ := r1.get (List.getElem?_eq_getElem (show j < xs.length by omega))
  obtain ⟨v', e2, q2⟩ := r2.get (List.getElem?_eq_getElem (show j < ys.length by omega))
  rw [h1] at e1
  rw [h2] at e2
  cases e1
  cases e2
  exact ⟨_, _, List.getElem?_zip_eq_some.mpr ⟨List.getElem?_eq_getElem (by omega), List.getElem?_eq_getElem (by omega)⟩, q1, q2⟩
theorem zip_len2 {α β γ δ : Type} {xs : List α} {ys : List β} {us : List γ} {ws : List δ} (h1 : xs.length = us.length) (h2 : ys.length = ws.length) : (xs.zip ys).length = (us.zip ws).length := by
  rw [List.length_zip, List.length_zip, h1, h2]
theorem nd_ix' {l : List Addr} (hN : l.Nodup) {i j : Nat} {x : Addr} (a : l[i]? = some x) (b : l[j]? = some x) : i = j := by
  obtain ⟨h1, e1⟩ := List.getElem?_eq_some_iff.mp a
  obtain ⟨h2, e2⟩ := List.getElem?_eq_some_iff.mp b
  exact (List.getElem_inj hN).mp (e1.trans e2.symm)
/-- list(zip(x, y)) -/
theorem pe_listzip {x y : Expr} {tx ty : TE} (hc : X.calm = true) (gl : Gl X "list") (ml : X.mg "list" = none) (gz : Gl X "zip") (mz : X.mg "zip" = none) (hx : PE X x tx) (hy : PE X y ty) (s1 : ∀ es, starEach (x :: es) X.env = (false, eval x X.env) :: starEach es X.env) (s2 : ∀ es, starEach (y :: es) X.env = (false, eval y X.env) :: starEach es X.env) :
    PE X (.Call (.Name "list" pos1) [.Call (.Name "zip" pos2) [x, y] [] pos3] [] pos) (tOp (rZipL X.K) tx ty) := by
  refine ⟨fun pins s σ H Q I h => ?_⟩
  have st1 : backTo pos (starEach [.Call (.Name "zip" pos2) [x, y] [] pos3] X.env) = [(false, eval (.Call (.Name "zip" pos2) [x, y] [] pos3) X.env)] := rfl
  refine Call_ (ld_blt I gl ml boot_list (PyProof.Rows.callWith_type1 ?_ rfl rfl))
  rw [st1]
  refine Calls.spliced_cons ?_
  refine Call_ (ld_blt I gz mz PyProof.Rows.boot_zip (PyProof.Rows.callWith_type1 ?_ (s1 _) (by rw [s2]; rfl)))
  refine thn ((pa_cons hx (pa_cons hy pa_nil (s2 _)) (s1 _)).run pos3 pins s σ H (fun vs H' => ∃ u v, vs = [u, v] ∧ rZipL X.K u v H' Q) I ?_) fun us s2 ⟨vs, H1, I1, r1, u, v, ev, q⟩ => ?_
  · have tri : ∀ σ H Q, tOp (rZipL X.K) tx ty σ H Q → tx σ H fun u H1 => ty σ H1 fun v H2 => ∃ u' v', [u, v] = [u', v'] ∧ rZipL X.K u' v' H2 Q := by
      intro σ H Q h
      have e : (fun u H1 => ty σ H1 fun v H2 => rZipL X.K u v H2 Q) = fun u H1 => ty σ H1 fun v H2 => ∃ u' v', [u, v] = [u', v'] ∧ rZipL X.K u' v' H2 Q := by
        funext u H1
        congr 1
        funext v H2
        exact propext ⟨fun q => ⟨u, v, rfl, q⟩, fun ⟨u', v', e, q⟩ => by cases e; exact q⟩
      have h : tx σ H (fun u H1 => ty σ H1 fun v H2 => rZipL X.K u v H2 Q) := h
      rw [e] at h
      exact h
    exact tri σ H Q h
  · subst ev
    obtain ⟨a, b, xs, ys, rfl, rfl, hq, q⟩ := q
    cases r1 with
    | cons ra rr =>
      cases rr with
      | cons rb rr =>
        cases rr
        cases ra
        cases rb
        have hh := I1.ok.hd hc
        have fin : ∀ {t : Bool} {its its2 : List Value} {h' : Heap}, Vals xs its → Vals ys its2 → xs.length ≤ sizeLine → IsZip h' (s2.heap.objs.size + 4) (s2.heap.objs.size + 2) (s2.heap.objs.size + 3) .none → IsPair h' (s2.heap.objs.size + 2) (.ref s2.heap.objs.size) (.ref (s2.heap.objs.size + 1)) →
            (∃ u v, IsPair h' (s2.heap.objs.size + 3) u v) → SIt t h' s2.heap.objs.size a 0 → SIt t h' (s2.heap.objs.size + 1) b 0 → SSq t h' a its.toArray → SSq t h' b its2.toArray → a < s2.heap.objs.size → b < s2.heap.objs.size →
            (∀ c o, s2.heap.get? c = some o → h'.get? c = some o) → wpAny (model X.prog X.w) X.A (spliced []) (fun r s3 => wpAny (model X.prog X.w) X.A (call (.type "list") (Value.ref (s2.heap.objs.size + 4) :: r)) (EP X pins σ Q) X.xe s3) X.xe { s2 with heap := h' } := by
          intro t its its2 h' r1 r2 hz z1 z2 z3 z4 z5 z6 z7 la lb hk
          refine Calls.spliced_nil ?_
          have I2 : Inv X pins σ H1 { s2 with heap := h' } := I1.kept (t' := s2.toks) hk
          have hln : (its.toArray.toList.zip its2.toArray.toList).length ≤ sizeLine := by
            rw [List.length_zip]
            have := r1.length
            show min its.length _ ≤ _
            omega
          refine call_list_zipS (t := t) (s := { s2 with heap := h' }) hh (PySem.W.ktu_apart s2.heap.objs.size a b la lb) z1 z2 z3 z4 z5 z6 z7 hln fun h'' tk acc cap as hk2 hL hl hG hacc => ?_
          show EP X pins σ Q (.ref h'.objs.size) { s2 with heap := h'', toks := tk }
          have hLs : h''.get? h'.objs.size = some { cls := .type "list", dict := none, data := .seq acc cap, slots := #[] } := hL
          have hk2 : ∀ b o, b ≠ s2.heap.objs.size + 4 → b ≠ s2.heap.objs.size + 3 → b ≠ s2.heap.objs.size → b ≠ s2.heap.objs.size + 1 → h'.get? b = some o → h''.get? b = some o := hk2
          have hG : ZG (its.zip its2) h'.objs.size h'' as := hG
          have hl : as.length = (its.zip its2).length := hl
          have keep : ∀ b o, s2.heap.get? b = some o → h''.get? b = some o := fun b o e => by
            have hb := Heap.lt_size e
            refine hk2 b o ?_ ?_ ?_ ?_ (hk b o e)
            · exact Nat.ne_of_lt (Nat.lt_of_lt_of_le hb (Nat.le_add_right _ _))
            · exact Nat.ne_of_lt (Nat.lt_of_lt_of_le hb (Nat.le_add_right _ _))
            · exact Nat.ne_of_lt hb
            · exact Nat.ne_of_lt (Nat.lt_of_lt_of_le hb (Nat.le_add_right _ _))
          have big : s2.heap.objs.size ≤ h'.objs.size := by
            have e : h'.get? (s2.heap.objs.size + 4) = some _ := z1
            exact Nat.le_trans (Nat.le_add_right _ 4) (Nat.le_of_lt (Heap.lt_size e))
          -- the new abstract heap
          let val : Addr → Option HO := fun c => if c = h'.objs.size then some (.lst (as.map V.ref)) else match as.findIdx? (· == c) with
            | some j => ((xs.zip ys)[j]?).map fun p => .tup [p.1, p.2]
            | none => H1 c
          have vL : val h'.objs.size = some (.lst (as.map V.ref)) := if_pos rfl
          have frA : ∀ c ∈ as, h'.objs.size < c := hG.above
          have vO : ∀ c, c < s2.heap.objs.size → val c = H1 c := fun c hcl => by
            have n1 : c ≠ h'.objs.size := Nat.ne_of_lt (Nat.lt_of_lt_of_le hcl big)
            have n2 : as.findIdx? (· == c) = none := by
              rw [List.findIdx?_eq_none_iff]
              intro d hd
              exact beq_eq_false_iff_ne.mpr (Nat.ne_of_gt (Nat.lt_trans (Nat.lt_of_lt_of_le hcl big) (frA d hd)))
            show (if c = h'.objs.size then _ else _) = _
            rw [if_neg n1, n2]
          have H1O : ∀ c o, H1 c = some o → c < s2.heap.objs.size := fun c o e => I1.hok.lt e
          have ndA : as.Nodup := hG.rise.imp fun q => Nat.ne_of_lt q
          have vP : ∀ (j : Nat) (p : Addr), as[j]? = some p → ∃ u v, (xs.zip ys)[j]? = some (u, v) ∧ val p = some (.tup [u, v]) ∧ ∃ uu vv, IsPair h'' p uu vv ∧ RelV u uu ∧ RelV v vv := fun j p hj => by
            have hp := frA p (List.mem_of_getElem? hj)
            have n1 : p ≠ h'.objs.size := Nat.ne_of_gt hp
            obtain ⟨uu, vv, w1, w2⟩ := hG.pairs j p hj
            obtain ⟨u, v, w3, w4, w5⟩ := zip_rel r1 r2 w1
            refine ⟨u, v, w3, ?_, uu, vv, w2, w4, w5⟩
            show (if p = h'.objs.size then _ else _) = _
            rw [if_neg n1]
            cases hi : as.findIdx? (· == p) with
            | none =>
              rw [List.findIdx?_eq_none_iff] at hi
              have := hi p (List.mem_of_getElem? hj)
              simp at this
            | some i =>
              obtain ⟨hi1, hi2, _⟩ := List.findIdx?_eq_some_iff_getElem.mp hi
              have ei : as[i]? = some p := by
                rw [List.getElem?_eq_getElem hi1]
                simpa using hi2
              have eij : i = j := nd_ix' ndA ei hj
              subst eij
              show ((xs.zip ys)[i]?).map _ = _
              rw [w3]
              rfl
          have vC : ∀ c o, val c = some o → H1 c = none → c = h'.objs.size ∨ ∃ j : Nat, as[j]? = some c := fun c o e n => by
            by_cases n1 : c = h'.objs.size
            · exact .inl n1
            · right
              have e : (if c = h'.objs.size then some (HO.lst (as.map V.ref)) else match as.findIdx? (· == c) with
                | some j => ((xs.zip ys)[j]?).map fun p => HO.tup [p.1, p.2]
                | none => H1 c) = some o := e
              rw [if_neg n1] at e
              cases hi : as.findIdx? (· == c) with
              | none => rw [hi] at e; rw [show H1 c = some o from e] at n; cases n
              | some i =>
                obtain ⟨hi1, hi2, _⟩ := List.findIdx?_eq_some_iff_getElem.mp hi
                exact ⟨i, by rw [List.getElem?_eq_getElem hi1]; simpa using hi2⟩
          have olds : ∀ c o, H1 c = some o → val c = some o := fun c o e => by rw [vO c (H1O c o e)]; exact e
          have hlen : as.length = (xs.zip ys).length := by rw [hl]; exact zip_len2 r1.length.symm r2.length.symm
          have rr : ∀ ps : List Addr, Vals (ps.map V.ref) (ps.map Value.ref) := fun ps => by
            induction ps with
            | nil => exact .nil
            | cons p ps ih => exact .cons rfl ih
          have I3 : Inv X pins σ val { s2 with heap := h'', toks := tk } := by
            refine Inv.laidL I1 keep olds vO fun c o e n => ?_
            rcases vC c o e n with rfl | ⟨j, hj⟩
            · rw [vL] at e
              cases e
              refine ⟨?_, as.map Value.ref, cap, rr as, ?_⟩
              · rw [List.length_map, hlen, List.length_zip]; omega
              · rw [hLs, ← hacc]
            · obtain ⟨u, v, w1, w2, uu, vv, w3, w4, w5⟩ := vP j c hj
              rw [w2] at e
              cases e
              exact ⟨by show 2 ≤ sizeLine; decide, [uu, vv], .cons w4 (.cons w5 .nil), ⟨_, w3, rfl, _, rfl⟩⟩
          have fr0 : ∀ c, s2.heap.objs.size ≤ c → H1 c = none := fun c hc => I1.hok.fresh hc
          refine ⟨.ref h'.objs.size, val, I3, rfl, q _ as val ⟨olds, fr0 _ big, vL, hlen, fun j p hj => ?_⟩⟩
          obtain ⟨u, v, w1, w2, _⟩ := vP j p hj
          have hp := frA p (List.mem_of_getElem? hj)
          exact ⟨u, v, w1, w2, Nat.ne_of_gt hp, fr0 _ (Nat.le_of_lt (Nat.lt_of_le_of_lt big hp))⟩
        rcases hq with ⟨hqx, hqy⟩ | ⟨hqx, hqy⟩
        · obtain ⟨its, rv, p1, z1⟩ := I1.list hqx
          obtain ⟨its2, rv2, p2, _⟩ := I1.list hqy
          exact call_zip_2 p1.isList p2.isList fun h' g1 g2 g3 g4 g5 _ hk => fin (t := false) rv rv2 z1 g1 g2 ⟨_, _, g3⟩ g4 g5 (p1.isList.at fun o e => hk _ o e) (p2.isList.at fun o e => hk _ o e) p1.lt p2.lt hk
        · obtain ⟨its, rv, p1, z1⟩ := I1.tuple hqx
          obtain ⟨its2, rv2, p2, _⟩ := I1.tuple hqy
          obtain ⟨o1, ho1, _⟩ := id p1
          obtain ⟨o2, ho2, _⟩ := id p2
          exact RZ.call_zipT p1 p2 fun h' g1 g2 g3 g4 g5 _ hk => fin (t := true) rv rv2 z1 g1 g2 ⟨_, _, g3⟩ g4 g5 (Heap.IsTuple.at p1 fun o e => hk _ o e) (Heap.IsTuple.at p2 fun o e => hk _ o e) (Heap.lt_size ho1) (Heap.lt_size ho2) hk
end
end Px
/-! Px3g: new lists and dicts, operands, freezing, pops, shared objects. -/
namespace Px
open PySem PySem.Spec PyProof.Rows L2
variable [KS]
section
variable {X : Cx} {C : Ctx} {c : CallF} {En : Sn} {pos pos1 pos2 pos3 : Pos} {K : PySem.W.Frag}
/-! ### list(zip(..)), +, slices with a step -/
theorem Rps.of_get {Z : Addr → Prop} {A : List Addr} {H : Hp} : ∀ {ds : List D} {vs : List V}, ds.length = vs.length → (∀ (j : Nat) (v : V), vs[j]? = some v → ∃ d, ds[j]? = some d ∧ Rp Z A H d v) → Rps Z A H ds vs
  | [], [], _, _ => .nil
  | [], _ :: _, h, _ => by simp at h
  | _ :: _, [], h, _ => by simp at h
  | d :: ds, v :: vs, h, g => by
    obtain ⟨d', e, r⟩ := g 0 v rfl
    cases e
    exact .cons r (Rps.of_get (by simpa using h) fun j w e => by simpa using g (j + 1) w (by simpa using e))
theorem zipD_eq : ∀ (ds es : List D), zipD ds es = (ds.zip es).map fun p => .tup [p.1, p.2]
  | [], es => by simp [zipD]
  | d :: ds, [] => by simp [zipD]
  | d :: ds, e :: es => by simp [zipD, zipD_eq ds es]
/-- the list of pairs stands -/
theorem ZNew.rel {S : ES} {Z : Addr → Prop} {A : List Addr} {σ : L2.St} {H H' : Hp} {L : Addr} {ps : List Addr} {ds es : List D} {xs ys : List V} (R : Rl En S Z A σ H) (z : ZNew H H' L ps (xs.zip ys)) (r1 : Rps Z A H ds xs) (r2 : Rps Z A H es ys) (hl : xs.length ≤ sizeLine) {Q : VK} (q : PoL En S Z A σ H (.lst (zipD ds es)) S Q) : Q (.ref L) H' := by
  have ne : ∀ a, H a ≠ none → a ≠ L := fun a h e => h (by rw [e]; exact z.fr)
  obtain ⟨R', st⟩ := R.grow (Z' := fun a => Z a ∨ a = L) (H' := H') z.old (fun a h => ⟨fun w => w.elim id fun e => absurd e (ne a h), .inl⟩) (fun a w => by
    rcases w with w | w
    · have h := R.zt a w
      cases e : H a with
      | none => exact absurd e h
      | some o => rw [z.old a o e]; exact nofun
    · rw [w, z.lat]; exact nofun)
  have nz : ∀ a, H a = none → a ≠ L → ¬ (Z a ∨ a = L) := fun a h n w => w.elim (fun w => R.zt a w h) n
  refine q L _ _ _ st R' (.inr rfl) (fun w => R.wt L w z.fr) z.fr ⟨_, z.lat, ?_, ?_⟩
  · rw [List.length_map, z.len, List.length_zip]
    omega
  · refine Rps.of_get ?_ fun j v e => ?_
    · rw [zipD_eq, List.length_map, List.length_map, z.len, List.length_zip, List.length_zip, r1.length, r2.length]
    · rw [List.getElem?_map] at e
      obtain ⟨p, hp, rfl⟩ := Option.map_eq_some_iff.mp e
      obtain ⟨x, y, e1, e2, e3, e4⟩ := z.pair j p hp
      obtain ⟨h1, h2⟩ := List.getElem?_zip_eq_some.mp e1
      obtain ⟨d, g1, q1⟩ := r1.getV h1
      obtain ⟨d2, g2, q2⟩ := r2.getV h2
      refine ⟨.tup [d, d2], ?_, .tup (nz p e4 e3) e2 (by show 2 ≤ sizeLine; rw [sizeLine_eq]; decide) (.cons (q1.step st R.wz) (.cons (q2.step st R.wz) .nil))⟩
      have hz : (ds.zip es)[j]? = some (d, d2) := List.getElem?_zip_eq_some.mpr ⟨g1, g2⟩
      rw [zipD_eq, List.getElem?_map, hz]
      rfl
theorem k_zip (ok : Cok X C c) {p q : P} {x y : Expr} (hb : bltB C "list" = true) (hb2 : bltB C "zip" = true) (hn : noStar x = true) (hn2 : noStar y = true) (hp : PE X x (tP En c p)) (hq : PE X y (tP En c q)) :
    PE X (.Call (.Name "list" pos1) [.Call (.Name "zip" pos2) [x, y] [] pos3] [] pos) (tL En c (.zip p q)) := by
  obtain ⟨g1, m1⟩ := ok.gl hb
  obtain ⟨g2, m2⟩ := ok.gl hb2
  refine mE (pe_listzip ok.calm g1 m1 g2 m2 hp hq (fun es => star_ne hn) (fun es => star_ne hn2)) fun σ H Q w => ?_
  obtain ⟨S, Z, A, d, S', e, R, k⟩ := w
  simp only [evL, Option.bind_eq_bind, Option.bind_eq_some_iff, Prod.exists] at e
  obtain ⟨x1, S1, e1, x2, S2, e2, d1, f1, d2, f2, e⟩ := e
  refine ⟨S, Z, A, x1, S1, e1, R, fun v1 Z1 A1 H1 st1 R1 r1 => ⟨S1, Z1, A1, x2, S2, e2, R1, fun v2 Z2 A2 H2 st2 R2 r2 => ?_⟩⟩
  have t1 := rd_top R2 (r1.step R1 st2) f1
  have t2 := rd_top R2 r2 f2
  split at e
  · cases e
    obtain ⟨a, vs, rfl, a2, a3, a4⟩ := t1
    obtain ⟨b, ws, rfl, b2, b3, b4⟩ := t2
    exact ⟨a, b, vs, ws, rfl, rfl, .inl ⟨SqL.of a2, SqL.of b2⟩, fun L ps H' z => z.rel R2 a4 b4 a3 (k.after (st1.trans st2))⟩
  · cases e
    cases (show Rp Z2 A2 H2 (.tup _) v1 from t1) with
    | tup a1 a2 a3 a4 =>
      cases (show Rp Z2 A2 H2 (.tup _) v2 from t2) with
      | tup b1 b2 b3 b4 => exact ⟨_, _, _, _, rfl, rfl, .inr ⟨SqT.of a2, SqT.of b2⟩, fun L ps H' z => z.rel R2 a4 b4 a3 (k.after (st1.trans st2))⟩
  · cases e
theorem k_cat {p q : P} {x y : Expr} (hp : PE X x (tP En c p)) (hq : PE X y (tP En c q)) : PE X (.BinOp x .Add y pos) (tL En c (.cat p q)) := by
  refine mE (pe_op op_cat hp hq) fun σ H Q w => ?_
  obtain ⟨S, Z, A, d, S', e, R, k⟩ := w
  simp only [evL, Option.bind_eq_bind, Option.bind_eq_some_iff, Prod.exists] at e
  obtain ⟨x1, S1, e1, x2, S2, e2, d1, f1, d2, f2, e⟩ := e
  refine ⟨S, Z, A, x1, S1, e1, R, fun v1 Z1 A1 H1 st1 R1 r1 => ⟨S1, Z1, A1, x2, S2, e2, R1, fun v2 Z2 A2 H2 st2 R2 r2 => ?_⟩⟩
  have t1 := rd_top R2 (r1.step R1 st2) f1
  have t2 := rd_top R2 r2 f2
  split at e
  · split at e
    · rename_i hl
      cases e
      obtain ⟨a, vs, rfl, a2, a3, a4⟩ := t1
      obtain ⟨b, ws, rfl, b2, b3, b4⟩ := t2
      have l1 := a4.length
      have l2 := b4.length
      exact ⟨a, b, vs, ws, rfl, rfl, a2, b2, by omega, fun n hn => (k.after (st1.trans st2)).new R2 hn fun ms => ⟨_, upd_same, by rw [List.length_append]; omega, (ms _ _ a4).append (ms _ _ b4)⟩⟩
    · cases e
  · cases e

/-! a slice with a step -/
def everyV {α : Type} (k : Nat) : Nat → List α → List α
  | _, [] => []
  | 0, d :: ds => d :: everyV k k ds
  | n + 1, _ :: ds => everyV k n ds
theorem every_rel {Z : Addr → Prop} {A : List Addr} {H : Hp} (k : Nat) : ∀ {ds : List D} {vs : List V} (n : Nat), Rps Z A H ds vs → Rps Z A H (everyD k n ds) (everyV k n vs)
  | _, _, n, .nil => by cases n <;> exact .nil
  | _, _, 0, .cons r t => by
    show Rps Z A H (_ :: everyD k k _) (_ :: everyV k k _)
    exact .cons r (every_rel k k t)
  | _, _, n + 1, .cons r t => by
    show Rps Z A H (everyD k n _) (everyV k n _)
    exact every_rel k n t
theorem every_vals (k : Nat) : ∀ {xs : List V} {us : List Value} (n : Nat), Vals xs us → Vals (everyV k n xs) (everyV k n us)
  | _, _, n, .nil => by cases n <;> exact .nil
  | _, _, 0, .cons r t => .cons r (every_vals k k t)
  | _, _, n + 1, .cons r t => every_vals k n t
theorem every_len {α : Type} (k : Nat) : ∀ (n : Nat) (xs : List α), (everyV k n xs).length ≤ xs.length
  | n, [] => by cases n <;> exact Nat.le_refl _
  | 0, _ :: xs => Nat.succ_le_succ (every_len k k xs)
  | n + 1, _ :: xs => Nat.le_succ_of_le (every_len k n xs)
theorem every_pick {α : Type} (k : Nat) : ∀ (xs : List α) (a c : Nat), xs.length ≤ a + (k + 1) * c → (List.range c).filterMap (fun j => xs[a + (k + 1) * j]?) = everyV k a xs
  | [], a, c, _ => by
    have e : (fun j => ([] : List α)[a + (k + 1) * j]?) = fun _ => none := by funext j; simp
    rw [e]
    cases a <;> simp [everyV]
  | x :: xs, a + 1, c, h => by
    have e : (fun j => (x :: xs)[a + 1 + (k + 1) * j]?) = fun j => xs[a + (k + 1) * j]? := by
      funext j
      rw [show a + 1 + (k + 1) * j = (a + (k + 1) * j) + 1 by omega]
      simp
    rw [e]
    exact every_pick k xs a c (by simp at h; omega)
  | x :: xs, 0, 0, h => by simp at h
  | x :: xs, 0, c + 1, h => by
    rw [List.range_succ_eq_map, List.filterMap_cons, List.filterMap_map]
    have e : ((fun j => (x :: xs)[0 + (k + 1) * j]?) ∘ Nat.succ) = fun j => xs[k + (k + 1) * j]? := by
      funext j
      show (x :: xs)[0 + (k + 1) * (j + 1)]? = _
      rw [show 0 + (k + 1) * (j + 1) = (k + (k + 1) * j) + 1 by rw [Nat.mul_add]; omega]
      simp
    rw [e]
    have hh := every_pick k xs k c (by
      have : (k + 1) * (c + 1) = (k + 1) * c + (k + 1) := Nat.mul_succ _ _
      simp at h
      omega)
    rw [hh]
    simp [everyV]
theorem pick_step (its : List Value) (a k : Int) (h0 : 0 ≤ a) (hk : 0 < k) : slicePick its.toArray (some a) none (some k) = (everyV (k.toNat - 1) a.toNat its).toArray := by
  have b1 : (sliceBounds (some a) none (some k) its.toArray.size).1 = ((min a.toNat its.length : Nat) : Int) := by
    simp only [sliceBounds, Option.getD_some, gt_iff_lt, hk, if_true, List.size_toArray]
    rw [if_neg (by omega)]
    omega
  have b2 : (sliceBounds (some a) none (some k) its.toArray.size).2.1 = (its.length : Int) := by
    simp only [sliceBounds, Option.getD_some, gt_iff_lt, hk, if_true, List.size_toArray]
  have b3 : (sliceBounds (some a) none (some k) its.toArray.size).2.2 = k := rfl
  unfold slicePick
  rw [b1, b2, b3]
  congr 1
  generalize hm : k.toNat - 1 = m
  have ek : k = ((m + 1 : Nat) : Int) := by omega
  subst ek
  unfold sliceRange
  rw [List.filterMap_map]
  have ef : ((fun x => its.toArray[x]?) ∘ fun j : Nat => (((min a.toNat its.length : Nat) : Int) + ((m + 1 : Nat) : Int) * (j : Int)).toNat) = fun j => its[min a.toNat its.length + (m + 1) * j]? := by
    funext j
    show its.toArray[(((min a.toNat its.length : Nat) : Int) + ((m + 1 : Nat) : Int) * (j : Int)).toNat]? = _
    have : (((min a.toNat its.length : Nat) : Int) + ((m + 1 : Nat) : Int) * (j : Int)).toNat = min a.toNat its.length + (m + 1) * j := by
      rw [← Int.natCast_mul, ← Int.natCast_add, Int.toNat_natCast]
    rw [this]
    simp
  rw [ef]
  by_cases ha : a.toNat ≤ its.length
  · rw [Nat.min_eq_left ha]
    refine every_pick m its a.toNat _ ?_
    rw [if_pos (by omega)]
    by_cases hlt : ((a.toNat : Nat) : Int) < (its.length : Int)
    · rw [if_pos hlt]
      have hd : ((its.length : Int) - ((a.toNat : Nat) : Int) + ((m + 1 : Nat) : Int) - 1) = ((its.length - a.toNat + m : Nat) : Int) := by omega
      rw [hd, ← Int.natCast_ediv, Int.toNat_natCast]
      have := Nat.div_add_mod (its.length - a.toNat + m) (m + 1)
      have : (its.length - a.toNat + m) % (m + 1) < m + 1 := Nat.mod_lt _ (Nat.succ_pos m)
      generalize (m + 1) * ((its.length - a.toNat + m) / (m + 1)) = z at *
      omega
    · rw [if_neg hlt]
      simp
      omega
  · have hmin : min a.toNat its.length = its.length := by omega
    rw [hmin, if_pos (by omega), if_neg (by omega)]
    have : ∀ (xs : List Value) (n : Nat), xs.length ≤ n → everyV m n xs = [] := by
      intro xs
      induction xs with
      | nil => intro n _; cases n <;> rfl
      | cons x xs ih =>
        intro n hn
        cases n with
        | zero => simp at hn
        | succ n => exact ih n (by simpa using hn)
    rw [this its a.toNat (by omega)]
    rfl
theorem k_slS {p : P} {lo st : E} {x l s' : Expr} (hp : PE X x (tP En c p)) (hl : PE X l (tE En c lo)) (hs : PE X s' (tE En c st)) : PE X (.Subscript x (.Slice (some l) none (some s') pos2) pos) (tL En c (.slS p lo st)) := by
  refine ⟨fun pins s σ H Q I w => ?_⟩
  obtain ⟨S, Z, A, d, S', e, R, k⟩ := w
  simp only [evL] at e
  split at e
  · cases e
  · rename_i x1 S1 e1
    split at e
    · rename_i a S2 e2
      split at e
      · rename_i kk S3 e3
        split at e
        · rename_i ds f1
          split at e
          · rename_i hc
            cases e
            refine Subscript_ (thn (hp.run pins s σ H (fun v H' => ∃ Z1 A1, Step (sn S Z A σ H) (sn S1 Z1 A1 σ H') ∧ Rl En S1 Z1 A1 σ H' ∧ RPv En S1 Z1 A1 σ H' x1 v) I ⟨S, Z, A, x1, S1, e1, R, fun v Z1 A1 H1 st R r => ⟨Z1, A1, st, R, r⟩⟩) fun v s1 ⟨u, H1, I1, r1, Z1, A1, st1, R1, q1⟩ => ?_)
            refine wpAny_Slice (thn ((po_some hl).run pins s1 σ H1 (fun o H' => o = some a ∧ ∃ Z2 A2, Step (sn S1 Z1 A1 σ H1) (sn S2 Z2 A2 σ H') ∧ Rl En S2 Z2 A2 σ H') I1 ⟨S1, Z1, A1, _, S2, e2, R1, fun v2 Z2 A2 H2 st2 R2 r2 => by
              cases r2
              exact ⟨a, rfl, rfl, Z2, A2, st2, R2⟩⟩) fun vl s2 ⟨o1, H2, I2, pl, e1', Z2, A2, st2, R2⟩ => ?_)
            subst e1'
            rw [evalPart_none]
            refine wpAny_pure (thn ((po_some hs).run pins s2 σ H2 (fun o H' => o = some kk ∧ ∃ Z3 A3, Step (sn S2 Z2 A2 σ H2) (sn S' Z3 A3 σ H') ∧ Rl En S' Z3 A3 σ H') I2 ⟨S2, Z2, A2, _, S', e3, R2, fun v3 Z3 A3 H3 st3 R3 r3 => by
              cases r3
              exact ⟨kk, rfl, rfl, Z3, A3, st3, R3⟩⟩) fun vs s3 ⟨o2, H3, I3, ps, e2', Z3, A3, st3, R3⟩ => ?_)
            subst e2'
            have I4 : Inv X pins σ H3 { s3 with heap := s3.heap.push { cls := .type "slice", data := .fields #[vl, .none, vs] } } := I3.kept (t' := s3.toks) fun b ob q => Heap.get?_push_of_some _ q
            obtain ⟨b, ws, rfl, a2, a3, a4⟩ := rd_top R3 (q1.step R1 (st2.trans st3)) f1
            cases r1
            obtain ⟨its, rv, ht, hz⟩ := I4.list (SqL.of a2)
            have hlen := rv.length
            show wpAny (model X.prog X.w) X.A (subscriptTail x (.Slice (some l) none (some s') pos2) (.ref b) (.ref s3.heap.objs.size)) (EP X pins σ Q) X.xe { s3 with heap := s3.heap.push { cls := .type "slice", data := .fields #[vl, .none, vs] } }
            refine tail_any (ops := [.ref b, .ref s3.heap.objs.size]) ht.isList.typeIs slot_list_getitem.lookup ?_ (by with_unfolding_all rfl)
            refine wpAny_getItem_list_slice ht.isList (Heap.IsSliceOf.new ..) pl .none ps (by intro z; cases z; omega) ?_ (by rw [List.size_toArray] <;> omega)
            rw [pick_step its a kk hc.1 hc.2.2.1]
            generalize hs5 : ({ s3 with heap := s3.heap.push { cls := .type "slice", data := .fields #[vl, .none, vs] } } : Shared) = s5 at I4 ht ⊢
            refine ⟨.ref s5.heap.objs.size, _, I4.laid (t' := s5.toks) (o := .lst (everyV (kk.toNat - 1) a.toNat ws)) (fun b ob q => Heap.get?_push_of_some _ q) (Nat.le_refl _) ?_, rfl, ?_⟩
            · exact ⟨Nat.le_trans (every_len _ _ _) hz, _, 0, every_vals _ _ rv, Heap.get?_push_size _ rfl⟩
            · exact (k.after ((st1.trans st2).trans st3)).new R3 (I4.hok.fresh (Nat.le_refl _)) fun ms => ⟨_, upd_same, Nat.le_trans (every_len _ _ _) hz, every_rel _ _ (ms _ _ a4)⟩
          · cases e
        · cases e
      · cases e
    · cases e
end
end Px
/-! Px3h: operands, freezing, pops, shared objects. -/
namespace Px
open PySem PySem.Spec L2
variable [KS]
section
variable {X : Cx} {C : Ctx} {c : CallF} {En : Sn} {pos pos1 pos2 pos3 : Pos} {K : PySem.W.Frag}
/-! ### operands -/
theorem k_pE {e : E} {x : Expr} (h : PE X x (tE En c e)) : PE X x (tP En c (.e e)) := mE h fun σ H Q w => by
  obtain ⟨S, Z, A, y, S', e, R, k⟩ := w
  simp only [evP, Option.bind_eq_bind, Option.bind_eq_some_iff, Prod.exists, Option.some.injEq, Prod.mk.injEq] at e
  obtain ⟨d, S1, e1, rfl, rfl⟩ := e
  exact ⟨S, Z, A, d, S1, e1, R, fun v Z1 A1 H1 st R1 r => k v _ _ _ st R1 r⟩
theorem k_pS (ok : Cok X C c) {i : Nat} {x : Str} (h : varB C i x = true) : PE X (.Name x pos) (tP En c (.s i)) := mE (ok.pv h) fun σ H Q w => by
  obtain ⟨S, Z, A, y, S', e, R, k⟩ := w
  simp only [evP] at e
  have fin : ∀ (v : V), y = .s i → S = S' → σ[i]? = some (some v) → tVar i σ H Q := fun v ey eS hv => by
    subst ey eS
    exact ⟨v, hv, k v _ _ _ (Step.refl _) R hv⟩
  split at e
  · rename_i d hd
    cases e
    obtain ⟨v, hv, _⟩ := R.val hd
    exact fin v rfl rfl hv
  · rename_i b hb
    cases e
    obtain ⟨a, ha, _⟩ := R.ownAt hb
    exact fin _ rfl rfl ha
  · cases e
theorem k_pL {l : L} {x : Expr} (h : PE X x (tL En c l)) : PE X x (tP En c (.l l)) := mE h fun σ H Q w => by
  obtain ⟨S, Z, A, y, S', e, R, k⟩ := w
  simp only [evP, Option.bind_eq_bind, Option.bind_eq_some_iff, Prod.exists, Option.some.injEq, Prod.mk.injEq] at e
  obtain ⟨ds, S1, e1, rfl, rfl⟩ := e
  exact ⟨S, Z, A, ds, S1, e1, R, fun p Z1 A1 H1 st R1 z nw f ob => k _ _ _ _ st R1 ⟨p, rfl, z, nw, R.freshE f, ob⟩⟩
theorem k_pD {l : Dt} {x : Expr} (h : PE X x (tD En c l)) : PE X x (tP En c (.d l)) := mE h fun σ H Q w => by
  obtain ⟨S, Z, A, y, S', e, R, k⟩ := w
  simp only [evP, Option.bind_eq_bind, Option.bind_eq_some_iff, Prod.exists, Option.some.injEq, Prod.mk.injEq] at e
  obtain ⟨ds, S1, e1, rfl, rfl⟩ := e
  exact ⟨S, Z, A, ds, S1, e1, R, fun p Z1 A1 H1 st R1 z nw f ob => k _ _ _ _ st R1 ⟨p, rfl, z, nw, R.freshE f, ob⟩⟩

/-! ### a new list, a new dict as a datum, as a shared object -/
theorem k_ofL {l : L} {x : Expr} (h : PE X x (tL En c l)) : PE X x (tE En c (.ofL l)) := mE h fun σ H Q w => by
  obtain ⟨S, Z, A, y, S', e, R, k⟩ := w
  simp only [ev, Option.bind_eq_bind, Option.bind_eq_some_iff, Prod.exists, Option.some.injEq, Prod.mk.injEq] at e
  obtain ⟨ds, S1, e1, rfl, rfl⟩ := e
  refine ⟨S, Z, A, ds, S1, e1, R, fun p Z1 A1 H1 st R1 z nw f ob => ?_⟩
  obtain ⟨vs, h1, h2, h3⟩ := id ob
  obtain ⟨R2, st2⟩ := R1.fzTmp (o := .lst vs) nw st f (R.freshE f) z
  rw [upd_self h1] at R2 st2
  exact k _ _ _ _ st2 R2 (.lst (fun q => q.2 rfl) h1 h2 (h3.mono (fun b u hb n => ⟨hb, fun q => n q.1⟩) fun _ _ q => q))
theorem k_ofD {l : Dt} {x : Expr} (h : PE X x (tD En c l)) : PE X x (tE En c (.ofD l)) := by
  refine ⟨fun pins s σ H Q I w => ?_⟩
  obtain ⟨S, Z, A, y, S', e, R, k⟩ := w
  simp only [ev, Option.bind_eq_bind, Option.bind_eq_some_iff, Prod.exists, Option.some.injEq, Prod.mk.injEq] at e
  obtain ⟨kvs, S1, e1, rfl, rfl⟩ := e
  refine thn (h.run pins s σ H (fun v H1 => ∃ (p : Addr) (Z1 : Addr → Prop) (A1 : List Addr), v = .ref p ∧ Step (sn S Z A σ H) (sn S1 Z1 A1 σ H1) ∧ Rl En S1 Z1 A1 σ H1 ∧ Z1 p ∧ ¬ (sn S1 Z1 A1 σ H1).W p ∧ H p = none ∧ ObH Z1 A1 H1 p (.dic kvs)) I
    ⟨S, Z, A, kvs, S1, e1, R, fun p Z1 A1 H1 st R1 z nw f ob => ⟨p, Z1, A1, rfl, st, R1, z, nw, f, ob⟩⟩) fun u s1 ⟨v, H1, I1, r1, p, Z1, A1, ev, st, R1, z, nw, f, ob⟩ => ?_
  subst ev
  obtain ⟨kws, h1, h2, h3, h4⟩ := id ob
  obtain ⟨od, I2⟩ := I1.lock h1 True.intro
  obtain ⟨R2, st2⟩ := R1.fzTmp (o := .frz od (.dK kws)) nw st f (R.freshE f) z
  exact ⟨.ref p, _, I2, r1, k _ _ _ _ st2 R2 (.dic (fun q => q.2 rfl) upd_same h2.symm h3 (h4.mono (fun b u hb n => ⟨(off_mono z b u hb n).1, fun q => n q.1⟩) fun _ _ q => q))⟩
theorem share_step {S : ES} {Z : Addr → Prop} {A : List Addr} {σ : St} {H : Hp} {p : Addr} {b : Ob} {s0 : Sn} (st : Step s0 (sn S Z A σ H)) (f : s0.H p = none) : Step s0 (sn { S with st := S.st ++ [b] } Z (A ++ [p]) σ H) := by
  obtain ⟨m, em⟩ := st.pre
  refine ⟨st.keep, ⟨m ++ [p], by show A ++ [p] = _; rw [show A = s0.A ++ m from em, List.append_assoc]⟩, fun a w => ?_, st.liv⟩
  rcases w with w | w
  · rcases List.mem_append.mp w with w | w
    · exact st.nw a (.inl w)
    · rw [List.mem_singleton.mp w]; exact .inr f
  · exact st.nw a (.inr w)
theorem k_newH {l : L} {x : Expr} (h : PE X x (tL En c l)) : PE X x (tE En c (.newH l)) := mE h fun σ H Q w => by
  obtain ⟨S, Z, A, y, S', e, R, k⟩ := w
  simp only [ev, Option.bind_eq_bind, Option.bind_eq_some_iff, Prod.exists, Option.some.injEq, Prod.mk.injEq] at e
  obtain ⟨ds, S1, e1, rfl, rfl⟩ := e
  refine ⟨S, Z, A, ds, S1, e1, R, fun p Z1 A1 H1 st R1 z nw f ob => ?_⟩
  refine k _ _ _ _ (share_step st f) (R1.share z nw (R.freshE f) ob) (.hdl ?_)
  rw [← R1.sto.len]
  simp
theorem k_newHD {l : Dt} {x : Expr} (h : PE X x (tD En c l)) : PE X x (tE En c (.newHD l)) := mE h fun σ H Q w => by
  obtain ⟨S, Z, A, y, S', e, R, k⟩ := w
  simp only [ev, Option.bind_eq_bind, Option.bind_eq_some_iff, Prod.exists, Option.some.injEq, Prod.mk.injEq] at e
  obtain ⟨ds, S1, e1, rfl, rfl⟩ := e
  refine ⟨S, Z, A, ds, S1, e1, R, fun p Z1 A1 H1 st R1 z nw f ob => ?_⟩
  refine k _ _ _ _ (share_step st f) (R1.share z nw (R.freshE f) ob) (.hdl ?_)
  rw [← R1.sto.len]
  simp
theorem k_dnil : PE X (.Dict [] [] pos) (tD En c .nil) := mE pe_dnewK fun σ H Q w => by
  obtain ⟨S, Z, A, y, S', e, R, k⟩ := w
  simp only [evD] at e
  cases e
  exact fun p hp => k.new R hp fun _ => ⟨[], upd_same, rfl, ⟨Nat.zero_le _, fun k hk => nomatch hk⟩, .nil⟩

/-! ### pops -/
theorem ol_is {S : ES} {i : Nat} (h : isOL S i = true) : ∃ ds, S.r[i]? = some (.own (.lst ds)) := by
  unfold isOL at h
  split at h
  · exact ⟨_, by assumption⟩
  · cases h
theorem k_pop (ok : Cok X C c) {i : Nat} {x : Str} (hl : (pos1.endLine == pos.line) = true) (hv : varB C i x = true) : PE X (.Call (.Attribute (.Name x pos2) "pop" pos1) [] [] pos) (tE En c (.pop i)) := by
  refine mE (pe_bm0 F.plainAttrs_list F.slot_list_pop F.type_list_pop mt_pop (ok.pv hv) (hline := hl)) fun σ H Q w => ?_
  obtain ⟨S, Z, A, y, S', e, R, k⟩ := w
  simp only [ev] at e
  split at e
  · rename_i ds hi
    split at e
    · rename_i d hd
      cases e
      obtain ⟨a, ha, za, ⟨vs, h1, h2, h3⟩, nA⟩ := R.ownAt hi
      obtain ⟨v, hv2, rv⟩ := h3.get hd
      have hlt := h3.length
      refine ⟨.ref a, ha, .inl ⟨rfl, vs, SqL.of h1⟩, a, vs, v, rfl, rfl, h1, by rw [← hlt]; exact hv2, ?_⟩
      have mo : ∀ b u, H b = some u → ¬ Z b → upd H a (.lst vs.dropLast) b = some u ∧ ¬ Z b := off_mono za
      obtain ⟨R2, st⟩ := R.wr (b' := .lst ds.dropLast) (o := .lst vs.dropLast) hi ha ⟨_, upd_same, by rw [List.length_dropLast]; omega, (h3.dropLast).mono mo fun _ _ q => q⟩
      exact k _ _ _ _ st R2 (rv.mono mo fun _ _ q => q)
    · cases e
  · cases e
theorem seq_of_nat {k : Int} {n : Nat} (h0 : 0 ≤ k) (h1 : k.toNat < n) : seqIndex? k n = some k.toNat := seqIndex_of h0 (by omega)
theorem Rps.lt {Z : Addr → Prop} {A : List Addr} {H : Hp} {ds : List D} {vs : List V} {i : Nat} {d : D} (h : Rps Z A H ds vs) (e : ds[i]? = some d) : i < vs.length := by
  rw [← h.length]
  exact (List.getElem?_eq_some_iff.mp e).1
theorem k_popAt (ok : Cok X C c) {i : Nat} {kE : E} {x : Str} {y : Expr} (hl : (pos1.endLine == pos.line) = true) (hn : noStar y = true) (hv : varB C i x = true) (hk : PE X y (tE En c kE)) : PE X (.Call (.Attribute (.Name x pos2) "pop" pos1) [y] [] pos) (tE En c (.popAt i kE)) := by
  refine mE (pe_bm F.plainAttrs_list F.slot_list_pop F.type_list_pop mt_popAt (ok.pv hv) (pa_cons hk pa_nil (star_ne hn)) (hfew := by rw [star_ne hn]; rfl) (hline := hl) (hs := star_ne hn)) fun σ H Q w => ?_
  obtain ⟨S, Z, A, dd, S', e, R, k⟩ := w
  simp only [ev] at e
  split at e
  · rename_i hO
    obtain ⟨ds0, h0⟩ := ol_is hO
    obtain ⟨a, ha, za, ⟨vs0, g1, g2, g3⟩, nA⟩ := R.ownAt h0
    split at e
    · rename_i kk S1 e1
      split at e
      · rename_i ds hi
        split at e
        · rename_i hc
          split at e
          · rename_i d hd
            cases e
            refine ⟨.ref a, ha, .inl ⟨rfl, vs0, SqL.of g1⟩, S, Z, A, _, S1, e1, R, fun v1 Z1 A1 H1 st1 R1 r1 => ?_⟩
            cases r1
            obtain ⟨a', ha', za', ⟨vs, h1, h2, h3⟩, nA'⟩ := R1.ownAt hi
            rw [ha] at ha'
            cases ha'
            obtain ⟨v, hv2, rv⟩ := h3.get hd
            have hlt := h3.lt hd
            refine ⟨a, vs, kk, kk.toNat, v, rfl, rfl, h1, by omega, by omega, seq_of_nat hc.1 hlt, hv2, ?_⟩
            have mo : ∀ b u, H1 b = some u → ¬ Z1 b → upd H1 a (.lst (vs.eraseIdx kk.toNat)) b = some u ∧ ¬ Z1 b := off_mono za'
            obtain ⟨R2, st⟩ := R1.wr (b' := .lst (ds.eraseIdx kk.toNat)) (o := .lst (vs.eraseIdx kk.toNat)) hi ha ⟨_, upd_same, Nat.le_trans (len_erase _ _) h2, (h3.erase _).mono mo fun _ _ q => q⟩
            exact k _ _ _ _ (st1.trans st) R2 (rv.mono mo fun _ _ q => q)
          · cases e
        · cases e
      · cases e
    · cases e
  · cases e
theorem hnd_rel {S : ES} {Z : Addr → Prop} {A : List Addr} {σ : St} {H : Hp} {x : Pv} {v : V} {n : Nat} (R : Rl En S Z A σ H) (r : RPv En S Z A σ H x v) (h : hnd x S = some n) : ∃ a, v = .ref a ∧ A[n]? = some a := by
  cases x with
  | d d =>
    cases d with
    | hdl m =>
      cases h
      cases (show Rp Z A H (.hdl n) v from r) with
      | hdl q => exact ⟨_, rfl, q⟩
    | _ => cases h
  | s i =>
    have h1 : (match S.r[i]? with
      | some (.val (.hdl n)) => some n
      | _ => none) = some n := h
    split at h1
    · rename_i m hm
      cases h1
      obtain ⟨w, e1, q⟩ := R.val hm
      rw [show σ[i]? = some (some v) from r] at e1
      cases e1
      cases q with
      | hdl q => exact ⟨_, rfl, q⟩
    · cases h1
  | l ds => cases h
  | k kvs => cases h
theorem Rl.shd {S : ES} {Z : Addr → Prop} {A : List Addr} {σ : St} {H : Hp} {n : Nat} {a : Addr} {ds : List D} (R : Rl En S Z A σ H) (ha : A[n]? = some a) (h : S.st[n]? = some (.lst ds)) : Z a ∧ ∃ vs, H a = some (.lst vs) ∧ vs.length ≤ sizeLine ∧ Rps Z A H ds vs := R.sto.ob n _ a h ha
theorem k_hpop {p : P} {kE : E} {o y : Expr} (hl : (pos1.endLine == pos.line) = true) (ho : isName o = true) (hn : noStar y = true) (hp : PE X o (tP En c p)) (hk : PE X y (tE En c kE)) : PE X (.Call (.Attribute o "pop" pos1) [y] [] pos) (tE En c (.hpop p kE)) := by
  have hb : attributeBase o "pop" X.env (eval o X.env) = eval o X.env := by cases o <;> first | rfl | cases ho
  refine mE (pe_bm F.plainAttrs_list F.slot_list_pop F.type_list_pop mt_popAt hp (pa_cons hk pa_nil (star_ne hn)) (hbase := hb) (hfew := by rw [star_ne hn]; rfl) (hline := hl) (hs := star_ne hn)) fun σ H Q w => ?_
  obtain ⟨S, Z, A, dd, S', e, R, k⟩ := w
  simp only [ev] at e
  split at e
  · rename_i x1 S1 e1
    split at e
    · rename_i hH
      split at e
      · rename_i kk S2 e2
        split at e
        · rename_i n hn2
          split at e
          · rename_i ds hi
            split at e
            · rename_i hc
              split at e
              · rename_i d hd
                cases e
                refine ⟨S, Z, A, x1, S1, e1, R, fun v1 Z1 A1 H1 st1 R1 r1 => ?_⟩
                have hty : tyV X.K "list" v1 H1 := by
                  unfold isHL at hH
                  split at hH
                  · rename_i m hm
                    split at hH
                    · rename_i ds0 hs0
                      obtain ⟨a, rfl, ha⟩ := hnd_rel R1 r1 hm
                      obtain ⟨_, vs, h1, _⟩ := R1.shd ha hs0
                      exact .inl ⟨rfl, vs, SqL.of h1⟩
                    · cases hH
                  · cases hH
                refine ⟨hty, S1, Z1, A1, _, S2, e2, R1, fun v2 Z2 A2 H2 st2 R2 r2 => ?_⟩
                cases r2
                obtain ⟨a, rfl, ha⟩ := hnd_rel R2 (r1.step R1 st2) hn2
                obtain ⟨za, vs, h1, h2, h3⟩ := R2.shd ha hi
                obtain ⟨v, hv2, rv⟩ := h3.get hd
                have hlt := h3.lt hd
                refine ⟨a, vs, kk, kk.toNat, v, rfl, rfl, h1, by omega, by omega, seq_of_nat hc.1 hlt, hv2, ?_⟩
                have mo : ∀ b u, H2 b = some u → ¬ Z2 b → upd H2 a (.lst (vs.eraseIdx kk.toNat)) b = some u ∧ ¬ Z2 b := off_mono za
                obtain ⟨R3, st⟩ := R2.hwr (b' := .lst (ds.eraseIdx kk.toNat)) (o := .lst (vs.eraseIdx kk.toNat)) hi ha ⟨_, upd_same, Nat.le_trans (len_erase _ _) h2, (h3.erase _).mono mo fun _ _ q => q⟩
                exact k _ _ _ _ ((st1.trans st2).trans st) R3 (rv.mono mo fun _ _ q => q)
              · cases e
            · cases e
          · cases e
        · cases e
      · cases e
    · cases e
  · cases e
end
end Px
/-! Px3i: what loops walk; targets. -/
namespace Px
open PySem PySem.Spec L2
variable [KS]
/-- the iterator J yields the items, from the snapshot s1 on -/
def ItOk (En s1 : Sn) (J : L2.It) (items : List D) : Prop := ∀ (i : Nat) (S : ES) (Z : Addr → Prop) (A : List Addr) (σ : St) (H : Hp), Step s1 (sn S Z A σ H) → Rl En S Z A σ H →
  (i < items.length → J.go i H ∧ ∀ x H', J.yld i H x H' → ∃ d, items[i]? = some d ∧ Rl En S Z A σ H' ∧ Step (sn S Z A σ H) (sn S Z A σ H') ∧ Rp Z A H' d x) ∧ (items.length ≤ i → J.stop i H)
def tI (En : Sn) (c : CallF) (it : It) : TI := fun σ H R => ∃ S Z A items S', evI c it S = some (items, S') ∧ Rl En S Z A σ H ∧ ∀ (J : L2.It) (Z' : Addr → Prop) (A' : List Addr) (H' : Hp), Step (sn (hid it S) Z A σ H) (sn S' Z' A' σ H') → Rl En S' Z' A' σ H' → ItOk En (sn S' Z' A' σ H') J items → R J H'
/-- what stays -/
def RpS (W Z : Addr → Prop) (A : List Addr) (H : Hp) (d : D) (v : V) : Prop := match d with
  | .lst ds => ∃ a vs, v = .ref a ∧ H a = some (.lst vs) ∧ ¬ W a ∧ vs.length ≤ sizeLine ∧ Rps Z A H ds vs
  | d => Rp Z A H d v
section
variable {X : Cx} {C : Ctx} {c : CallF} {En : Sn} {pos pos1 pos2 pos3 : Pos} {K : PySem.W.Frag} {S : ES} {Z : Addr → Prop} {A : List Addr} {σ : St} {H : Hp}
theorem Rp.stay {d : D} {v : V} (R : Rl En S Z A σ H) (r : Rp Z A H d v) : RpS (sn S Z A σ H).W Z A H d v := by
  cases r with
  | lst h1 h2 hl h3 => exact ⟨_, _, rfl, h2, fun w => h1 (R.wz _ w), hl, h3⟩
  | dic h1 h2 h3 hl h4 => exact .dic h1 h2 h3 hl h4
  | non => exact .non
  | bl b => exact .bl b
  | int i => exact .int i
  | str h1 h2 => exact .str h1 h2
  | tup h1 h2 hl h3 => exact .tup h1 h2 hl h3
  | hdl h => exact .hdl h
  | scr h => exact .scr h
theorem st_rel {x : Pv} {v : V} {d : D} (R : Rl En S Z A σ H) (r : RPv En S Z A σ H x v) (h : stP x S = some d) : RpS (sn S Z A σ H).W Z A H d v := by
  cases x with
  | d e =>
    have e2 : d = e := by
      unfold stP at h
      cases e <;> first | exact (Option.some.inj h).symm | cases h
    subst e2
    exact Rp.stay R r
  | s i =>
    have h1 : (match S.r[i]? with
      | some (.val (.hdl _)) => none
      | some (.val d) => some d
      | _ => none) = some d := h
    split at h1
    · cases h1
    · rename_i e he
      cases h1
      obtain ⟨w, e1, q⟩ := R.val he
      rw [show σ[i]? = some (some v) from r] at e1
      cases e1
      exact Rp.stay R q
    · cases h1
  | l ds =>
    cases h
    obtain ⟨p, rfl, z, nw, f, vs, h1, h2, h3⟩ := r
    exact ⟨p, vs, rfl, h1, nw, h2, h3⟩
  | k kvs => cases h
theorem RpS.step {S1 : ES} {Z1 : Addr → Prop} {A1 : List Addr} {σ1 : St} {H1 : Hp} {d : D} {v : V} (R : Rl En S Z A σ H) (st : Step (sn S Z A σ H) (sn S1 Z1 A1 σ1 H1)) (r : RpS (sn S Z A σ H).W Z A H d v) : RpS (sn S1 Z1 A1 σ1 H1).W Z1 A1 H1 d v := by
  cases d with
  | lst ds =>
    obtain ⟨a, vs, rfl, h1, nw, h2, h3⟩ := r
    obtain ⟨g1, g2⟩ := st.keep a _ h1 nw
    refine ⟨a, vs, rfl, g1, fun w => ?_, h2, h3.step st R.wz⟩
    rcases st.nw a w with w | w
    · exact nw w
    · rw [show H a = none from w] at h1; cases h1
  | non => exact Rp.step st R.wz r
  | bl b => exact Rp.step st R.wz r
  | int i => exact Rp.step st R.wz r
  | str x => exact Rp.step st R.wz r
  | tup ds => exact Rp.step st R.wz r
  | dic ks ds => exact Rp.step st R.wz r
  | hdl n => exact Rp.step st R.wz r
  | scr ns => exact Rp.step st R.wz r

/-! ### the iterators -/
theorem it_of {J : L2.It} {items : List D} (h : ∀ (S' : ES) (Z' : Addr → Prop) (A' : List Addr) (σ' : St) (H' : Hp), Step (sn S Z A σ H) (sn S' Z' A' σ' H') → Rl En S' Z' A' σ' H' →
    ∃ vs : List V, Rps Z' A' H' items vs ∧ (∀ i v, vs[i]? = some v → J.go i H' ∧ ∀ x H2, J.yld i H' x H2 → H2 = H' ∧ x = v) ∧ ∀ i, vs.length ≤ i → J.stop i H') : ItOk En (sn S Z A σ H) J items := by
  intro i S' Z' A' σ' H' st R
  obtain ⟨vs, r, g, s⟩ := h S' Z' A' σ' H' st R
  have hl := r.length
  refine ⟨fun hi => ?_, fun hi => s i (by omega)⟩
  obtain ⟨v, h1, h2⟩ := r.get (List.getElem?_eq_getElem hi)
  obtain ⟨g1, g2⟩ := g i v h1
  refine ⟨g1, fun x H2 y => ?_⟩
  obtain ⟨e1, e2⟩ := g2 x H2 y
  subst e1 e2
  exact ⟨_, List.getElem?_eq_getElem hi, R, Step.refl _, h2⟩
theorem it_list {a : Addr} {vs : List V} {ds : List D} (R : Rl En S Z A σ H) (h1 : H a = some (.lst vs)) (nw : ¬ (sn S Z A σ H).W a) (r : Rps Z A H ds vs) : ItOk En (sn S Z A σ H) (Itl K a) ds := it_of fun S' Z' A' σ' H' st R' => by
  have g := (st.keep a _ h1 nw).1
  have g : H' a = some (.lst vs) := g
  exact ⟨vs, r.step st R.wz, fun i v e => ⟨⟨vs, v, SqL.of g, e⟩, fun x H2 y => ⟨y.1, Option.some.inj ((y.2 vs (SqL.of g)).symm.trans e)⟩⟩, fun i e => ⟨vs, SqL.of g, e⟩⟩
theorem it_scr {a : Addr} {ns : List Int} (R : Rl En S Z A σ H) (h1 : (∃ o : Obj, ¬ Z a ∧ H a = some (.frz o (.lst (ns.map V.int)))) ∨ KS.at' a ns) (ks : ∀ H : Hp, KS.at' a ns → SqL K H a (ns.map V.int)) : ItOk En (sn S Z A σ H) (Itl K a) (ns.map D.int) := it_of fun S' Z' A' σ' H' st R' => by
  have g : SqL K H' a (ns.map V.int) := by
    rcases h1 with ⟨o, nz, e⟩ | q
    · exact .inl (.inr ⟨o, (st.keep a _ e fun w => nz (R.wz _ w)).1⟩)
    · exact ks H' q
  refine ⟨ns.map V.int, Rps.of_get' (by simp) fun j v e => ?_, fun i v e => ⟨⟨_, v, g, e⟩, fun x H2 y => ⟨y.1, Option.some.inj ((y.2 _ g).symm.trans e)⟩⟩, fun i e => ⟨_, g, e⟩⟩
  rw [List.getElem?_map] at e
  obtain ⟨n, e1, rfl⟩ := Option.map_eq_some_iff.mp e
  exact ⟨.int n, by rw [List.getElem?_map, e1]; rfl, .int n⟩
where
  Rps.of_get' {Z : Addr → Prop} {A : List Addr} {H : Hp} : ∀ {ds : List D} {vs : List V}, ds.length = vs.length → (∀ (j : Nat) (v : V), vs[j]? = some v → ∃ d, ds[j]? = some d ∧ Rp Z A H d v) → Rps Z A H ds vs
  | [], [], _, _ => .nil
  | [], _ :: _, h, _ => by simp at h
  | _ :: _, [], h, _ => by simp at h
  | d :: ds, v :: vs, h, g => by
    obtain ⟨d', e, r⟩ := g 0 v rfl
    cases e
    exact .cons r (Rps.of_get' (by simpa using h) fun j w e => by simpa using g (j + 1) w (by simpa using e))
theorem it_tup {a : Addr} {vs : List V} {ds : List D} (R : Rl En S Z A σ H) (h1 : H a = some (.tup vs)) (nz : ¬ Z a) (r : Rps Z A H ds vs) : ItOk En (sn S Z A σ H) (Itt K a) ds := it_of fun S' Z' A' σ' H' st R' => by
  have g := (st.keep a _ h1 fun w => nz (R.wz _ w)).1
  have g : H' a = some (.tup vs) := g
  exact ⟨vs, r.step st R.wz, fun i v e => ⟨⟨vs, v, SqT.of g, e⟩, fun x H2 y => ⟨y.1, Option.some.inj ((y.2 vs (SqT.of g)).symm.trans e)⟩⟩, fun i e => ⟨vs, SqT.of g, e⟩⟩
theorem it_str {x : Str} (h1 : PyData.strOk x = true) : ItOk En (sn S Z A σ H) (Its x) (x.cps.toList.map fun c => D.str ⟨#[c]⟩) := it_of fun S' Z' A' σ' H' st R' => by
  refine ⟨x.cps.toList.map fun c => V.str ⟨#[c]⟩, it_scr.Rps.of_get' (by simp) fun j v e => ?_, fun i v e => ⟨?_, fun y H2 q => ?_⟩, fun i e => ?_⟩
  · rw [List.getElem?_map] at e
    obtain ⟨ch, e1, rfl⟩ := Option.map_eq_some_iff.mp e
    exact ⟨.str ⟨#[ch]⟩, by rw [List.getElem?_map, e1]; rfl, .str (strOk_one h1 (List.mem_of_getElem? e1)) (by show (1 : Nat) ≤ sizeLine; rw [sizeLine_eq]; decide)⟩
  · have := (List.getElem?_eq_some_iff.mp e).1
    show i < x.cps.size
    simpa using this
  · obtain ⟨rfl, ch, e1, rfl⟩ := q
    rw [List.getElem?_map] at e
    obtain ⟨ch', e2, rfl⟩ := Option.map_eq_some_iff.mp e
    have e3 : x.cps.toList[i]? = some ch := by simpa using e1
    rw [e3] at e2
    cases e2
    exact ⟨rfl, rfl⟩
  · show x.cps.size ≤ i
    simpa using e
theorem dKey_rel {k : Key} (h : okK k) {Z : Addr → Prop} {A : List Addr} {H : Hp} : Rp Z A H (dKey k) (kV k) := by
  cases k with
  | inl i => exact .int i
  | inr x => exact .str h.1 h.2
theorem it_rng {lo : Int} {n : Nat} : ItOk En (sn S Z A σ H) (Itr lo n) (rngD lo n) := it_of fun S' Z' A' σ' H' st R' => by
  refine ⟨(List.range n).map fun (i : Nat) => V.int (lo + i), it_scr.Rps.of_get' (by simp [rngD]) fun j v e => ?_, fun i v e => ⟨?_, fun y H2 q => ?_⟩, fun i e => ?_⟩
  · rw [List.getElem?_map] at e
    obtain ⟨k, e1, rfl⟩ := Option.map_eq_some_iff.mp e
    exact ⟨.int (lo + k), by unfold rngD; rw [List.getElem?_map, e1]; rfl, .int _⟩
  · have := (List.getElem?_eq_some_iff.mp e).1
    show i < n
    simpa using this
  · obtain ⟨rfl, rfl⟩ := q
    rw [List.getElem?_map] at e
    obtain ⟨k, e1, rfl⟩ := Option.map_eq_some_iff.mp e
    have hk : k = i := by
      obtain ⟨h1, h2⟩ := List.getElem?_eq_some_iff.mp e1
      simpa using h2.symm
    subst hk
    exact ⟨rfl, rfl⟩
  · show n ≤ i
    simpa using e
/-- pairs, new at each turn -/
theorem it_pairs {J : L2.It} {items : List D} (h : ∀ (S' : ES) (Z' : Addr → Prop) (A' : List Addr) (σ' : St) (H' : Hp), Step (sn S Z A σ H) (sn S' Z' A' σ' H') → Rl En S' Z' A' σ' H' →
    (∀ i d, items[i]? = some d → J.go i H' ∧ ∀ x H2, J.yld i H' x H2 → ∃ T u v du dv, x = .ref T ∧ H' T = none ∧ H2 = upd H' T (.tup [u, v]) ∧ d = .tup [du, dv] ∧ Rp Z' A' H' du u ∧ Rp Z' A' H' dv v) ∧ ∀ i, items.length ≤ i → J.stop i H') : ItOk En (sn S Z A σ H) J items := by
  intro i S' Z' A' σ' H' st R
  obtain ⟨g, s⟩ := h S' Z' A' σ' H' st R
  refine ⟨fun hi => ?_, s i⟩
  have hd : items[i]? = some items[i] := List.getElem?_eq_getElem hi
  obtain ⟨g1, g2⟩ := g i _ hd
  refine ⟨g1, fun x H2 y => ?_⟩
  obtain ⟨T, u, v, du, dv, rfl, hT, rfl, ed, r1, r2⟩ := g2 x H2 y
  obtain ⟨R2, st2, nz⟩ := R.newF (o := .tup [u, v]) hT
  refine ⟨_, hd, R2, st2, ?_⟩
  rw [ed]
  exact .tup nz upd_same (by show 2 ≤ sizeLine; rw [sizeLine_eq]; decide) (.cons (r1.step st2 R.wz) (.cons (r2.step st2 R.wz) .nil))
theorem zipD_get : ∀ {ds es : List D} {i : Nat} {d : D}, (zipD ds es)[i]? = some d → ∃ a b, ds[i]? = some a ∧ es[i]? = some b ∧ d = .tup [a, b]
  | [], es, i, d, h => by simp [zipD] at h
  | a :: ds, [], i, d, h => by simp [zipD] at h
  | a :: ds, b :: es, 0, d, h => by
    simp [zipD] at h
    exact ⟨a, b, rfl, rfl, h.symm⟩
  | a :: ds, b :: es, i + 1, d, h => by
    simp only [zipD, List.getElem?_cons_succ] at h
    obtain ⟨x, y, h1, h2, h3⟩ := zipD_get h
    exact ⟨x, y, by simpa using h1, by simpa using h2, h3⟩
theorem zipD_len : ∀ (ds es : List D), (zipD ds es).length = min ds.length es.length
  | [], es => by simp [zipD]
  | d :: ds, [] => by simp [zipD]
  | d :: ds, e :: es => by simp [zipD, zipD_len ds es]
theorem enumD_get : ∀ {ds : List D} {n i : Nat} {d : D}, (enumD n ds)[i]? = some d → ∃ a, ds[i]? = some a ∧ d = .tup [.int ((n + i : Nat) : Int), a]
  | [], n, i, d, h => by simp [enumD] at h
  | a :: ds, n, 0, d, h => by
    simp [enumD] at h
    exact ⟨a, rfl, h.symm⟩
  | a :: ds, n, i + 1, d, h => by
    simp only [enumD, List.getElem?_cons_succ] at h
    obtain ⟨x, h1, h2⟩ := enumD_get h
    refine ⟨x, by simpa using h1, ?_⟩
    rw [h2, show n + 1 + i = n + (i + 1) by omega]
theorem enumD_len : ∀ (ds : List D) (n : Nat), (enumD n ds).length = ds.length
  | [], n => rfl
  | d :: ds, n => by simp [enumD, enumD_len ds]
theorem it_keys {a : Addr} {o : Obj} {kws : List (Key × V)} (h1 : H a = some (.frz o (.dK kws))) (nw : ¬ (sn S Z A σ H).W a) (hk : DOk kws) : ItOk En (sn S Z A σ H) (Itk a o kws) ((kws.map (·.1)).map dKey) := it_of fun S' Z' A' σ' H' st R' => by
  have g : H' a = some (.frz o (.dK kws)) := (st.keep a _ h1 nw).1
  refine ⟨(kws.map (·.1)).map kV, it_scr.Rps.of_get' (by simp) fun j v e => ?_, fun i v e => ⟨⟨g, ?_⟩, fun y H2 q => ?_⟩, fun i e => ⟨g, by simpa using e⟩⟩
  · rw [List.getElem?_map] at e
    obtain ⟨k, e1, rfl⟩ := Option.map_eq_some_iff.mp e
    exact ⟨dKey k, by rw [List.getElem?_map, e1]; rfl, dKey_rel (hk.2 k (List.mem_of_getElem? e1))⟩
  · have := (List.getElem?_eq_some_iff.mp e).1
    simpa using this
  · obtain ⟨rfl, k, w, e1, rfl⟩ := q
    rw [List.getElem?_map, List.getElem?_map, e1] at e
    exact ⟨rfl, Option.some.inj e⟩
theorem it_items {a : Addr} {o : Obj} {kws : List (Key × V)} {ds : List D} (R : Rl En S Z A σ H) (h1 : H a = some (.frz o (.dK kws))) (nw : ¬ (sn S Z A σ H).W a) (hk : DOk kws) (r : Rps Z A H ds (kws.map (·.2))) : ItOk En (sn S Z A σ H) (Iti a o kws) (zipD ((kws.map (·.1)).map dKey) ds) := it_pairs fun S' Z' A' σ' H' st R' => by
  have g : H' a = some (.frz o (.dK kws)) := (st.keep a _ h1 nw).1
  have hl := r.length
  rw [List.length_map] at hl
  refine ⟨fun i d e => ⟨⟨g, ?_⟩, fun x H2 y => ?_⟩, fun i e => ⟨g, ?_⟩⟩
  · have := (List.getElem?_eq_some_iff.mp e).1
    rw [zipD_len] at this
    simp at this
    omega
  · obtain ⟨T, k, v, e1, rfl, hT, rfl⟩ := y
    obtain ⟨da, db, w1, w2, rfl⟩ := zipD_get e
    have e2 : (kws.map (·.2))[i]? = some v := by rw [List.getElem?_map, e1]; rfl
    have e3 : ((kws.map (·.1)).map dKey)[i]? = some (dKey k) := by rw [List.getElem?_map, List.getElem?_map, e1]; rfl
    rw [e3] at w1
    cases w1
    obtain ⟨d', g1, g2⟩ := (r.step st R.wz).getV e2
    rw [w2] at g1
    cases g1
    exact ⟨T, kV k, v, _, _, rfl, hT, rfl, rfl, dKey_rel (hk.2 k (List.mem_map.mpr ⟨(k, v), List.mem_of_getElem? e1, rfl⟩)), g2⟩
  · rw [zipD_len] at e
    simp at e
    omega
theorem it_zip {a b : Addr} {vs ws : List V} {ds es : List D} (R : Rl En S Z A σ H) (h1 : H a = some (.lst vs)) (nw : ¬ (sn S Z A σ H).W a) (r1 : Rps Z A H ds vs) (h2 : H b = some (.lst ws)) (nw2 : ¬ (sn S Z A σ H).W b) (r2 : Rps Z A H es ws) : ItOk En (sn S Z A σ H) (Itz K a b) (zipD ds es) := it_pairs fun S' Z' A' σ' H' st R' => by
  have g1 : H' a = some (.lst vs) := (st.keep a _ h1 nw).1
  have g2 : H' b = some (.lst ws) := (st.keep b _ h2 nw2).1
  have l1 := r1.length
  have l2 := r2.length
  refine ⟨fun i d e => ?_, fun i e => ⟨vs, ws, SqL.of g1, SqL.of g2, by rw [zipD_len] at e; omega⟩⟩
  obtain ⟨da, db, w1, w2, rfl⟩ := zipD_get e
  obtain ⟨u, e1, q1⟩ := (r1.step st R.wz).get w1
  obtain ⟨v, e2, q2⟩ := (r2.step st R.wz).get w2
  refine ⟨⟨vs, ws, u, v, SqL.of g1, SqL.of g2, e1, e2⟩, fun x H2 y => ?_⟩
  obtain ⟨T, x1, y1, rfl, hT, rfl, y2, y3⟩ := y
  have z1 := (y2 vs (SqL.of g1)).symm.trans e1
  have z2 := (y3 ws (SqL.of g2)).symm.trans e2
  cases z1
  cases z2
  exact ⟨T, _, _, _, _, rfl, hT, rfl, rfl, q1, q2⟩
theorem it_zipT {a b : Addr} {vs ws : List V} {ds es : List D} (R : Rl En S Z A σ H) (h1 : H a = some (.tup vs)) (nz : ¬ Z a) (r1 : Rps Z A H ds vs) (h2 : H b = some (.tup ws)) (nz2 : ¬ Z b) (r2 : Rps Z A H es ws) : ItOk En (sn S Z A σ H) (RZ.ItzT K a b) (zipD ds es) := it_pairs fun S' Z' A' σ' H' st R' => by
  have g1 : H' a = some (.tup vs) := (st.keep a _ h1 fun w => nz (R.wz _ w)).1
  have g2 : H' b = some (.tup ws) := (st.keep b _ h2 fun w => nz2 (R.wz _ w)).1
  have l1 := r1.length
  have l2 := r2.length
  refine ⟨fun i d e => ?_, fun i e => ⟨vs, ws, SqT.of g1, SqT.of g2, by rw [zipD_len] at e; omega⟩⟩
  obtain ⟨da, db, w1, w2, rfl⟩ := zipD_get e
  obtain ⟨u, e1, q1⟩ := (r1.step st R.wz).get w1
  obtain ⟨v, e2, q2⟩ := (r2.step st R.wz).get w2
  refine ⟨⟨vs, ws, u, v, SqT.of g1, SqT.of g2, e1, e2⟩, fun x H2 y => ?_⟩
  obtain ⟨T, x1, y1, rfl, hT, rfl, y2, y3⟩ := y
  have z1 := (y2 vs (SqT.of g1)).symm.trans e1
  have z2 := (y3 ws (SqT.of g2)).symm.trans e2
  cases z1
  cases z2
  exact ⟨T, _, _, _, _, rfl, hT, rfl, rfl, q1, q2⟩
theorem it_enumT {a : Addr} {vs : List V} {ds : List D} (R : Rl En S Z A σ H) (h1 : H a = some (.tup vs)) (nz : ¬ Z a) (r1 : Rps Z A H ds vs) : ItOk En (sn S Z A σ H) (Iet K a) (enumD 0 ds) := it_pairs fun S' Z' A' σ' H' st R' => by
  have g1 : H' a = some (.tup vs) := (st.keep a _ h1 fun w => nz (R.wz _ w)).1
  have l1 := r1.length
  refine ⟨fun i d e => ?_, fun i e => ⟨vs, SqT.of g1, by rw [enumD_len] at e; omega⟩⟩
  obtain ⟨da, w1, rfl⟩ := enumD_get e
  obtain ⟨u, e1, q1⟩ := (r1.step st R.wz).get w1
  refine ⟨⟨vs, u, SqT.of g1, e1⟩, fun x H2 y => ?_⟩
  obtain ⟨T, x1, rfl, hT, rfl, y2⟩ := y
  have z1 := (y2 vs (SqT.of g1)).symm.trans e1
  cases z1
  exact ⟨T, _, _, _, _, rfl, hT, rfl, rfl, by rw [Nat.zero_add]; exact .int _, q1⟩
/-! ### the judgements -/
theorem k_itP (ok : Cok X C c) {p : P} {tg x : Expr} (hp : PE X x (tP En c p)) : PI X tg x (tI En c (.p p)) := by
  refine ⟨fun pins s σ H Q I h => ?_⟩
  obtain ⟨S, Z, A, items, S', e, R, k⟩ := h
  simp only [evI, Option.bind_eq_bind, Option.bind_eq_some_iff, Option.some.injEq, Prod.mk.injEq, Prod.exists] at e
  obtain ⟨x1, S1, e1, d, f1, its, f2, rfl, rfl⟩ := e
  cases d with
  | tup ds =>
    cases f2
    refine (pi_tup hp).run pins s σ H Q I ⟨S, Z, A, x1, S1, e1, R, fun v1 Z1 A1 H1 st1 R1 r1 => ?_⟩
    cases (show Rp Z1 A1 H1 (.tup _) v1 from st_rel R1 r1 f1) with
    | tup a1 a2 a3 a4 => exact ⟨_, rfl, ⟨_, SqT.of a2⟩, k _ _ _ _ st1 R1 (it_tup R1 a2 a1 a4)⟩
  | lst ds =>
    cases f2
    refine (pi_list hp).run pins s σ H Q I ⟨S, Z, A, x1, S1, e1, R, fun v1 Z1 A1 H1 st1 R1 r1 => ?_⟩
    obtain ⟨a, vs, rfl, a2, nw, a3, a4⟩ := st_rel R1 r1 f1
    exact ⟨a, rfl, ⟨_, SqL.of a2⟩, k _ _ _ _ st1 R1 (it_list R1 a2 nw a4)⟩
  | scr ns =>
    cases f2
    refine (pi_list hp).run pins s σ H Q I ⟨S, Z, A, x1, S1, e1, R, fun v1 Z1 A1 H1 st1 R1 r1 => ?_⟩
    cases (show Rp Z1 A1 H1 (.scr _) v1 from st_rel R1 r1 f1) with
    | scr a1 =>
      refine ⟨_, rfl, ⟨ns.map V.int, ?_⟩, k _ _ _ _ st1 R1 (it_scr R1 a1 fun H q => ok.ks _ _ q H)⟩
      rcases a1 with ⟨o, nz, e⟩ | q
      · exact .inl (.inr ⟨o, e⟩)
      · exact ok.ks _ _ q H1
  | str y =>
    cases f2
    refine (pi_str hp).run pins s σ H Q I ⟨S, Z, A, x1, S1, e1, R, fun v1 Z1 A1 H1 st1 R1 r1 => ?_⟩
    cases (show Rp Z1 A1 H1 (.str _) v1 from st_rel R1 r1 f1) with
    | str a1 a2 => exact ⟨y, rfl, k _ _ _ _ st1 R1 (it_str a1)⟩
  | dic ks ds =>
    cases f2
    refine (pi_keys hp).run pins s σ H Q I ⟨S, Z, A, x1, S1, e1, R, fun v1 Z1 A1 H1 st1 R1 r1 => ?_⟩
    cases (show Rp Z1 A1 H1 (.dic _ _) v1 from st_rel R1 r1 f1) with
    | dic a1 a2 a3 a4 a5 =>
      subst a3
      exact ⟨_, _, rfl, .inl ⟨_, a2, k _ _ _ _ st1 R1 (it_keys a2 (fun w => a1 (R1.wz _ w)) a4)⟩⟩
  | non => cases f2
  | bl b => cases f2
  | int i => cases f2
  | hdl n => cases f2
theorem k_rng1 (ok : Cok X C c) {a : E} {tg x : Expr} (hb : bltB C "range" = true) (hn : noStar x = true) (ha : PE X x (tE En c a)) : PI X tg (.Call (.Name "range" pos1) [x] [] pos) (tI En c (.rng1 a)) := by
  obtain ⟨g, m⟩ := ok.gl hb
  refine ⟨fun pins s σ H Q I h => (pi_range1 g m (tE1 hn ha) (hs := star_ne hn)).run pins s σ H Q I ?_⟩
  obtain ⟨S, Z, A, items, S', e, R, k⟩ := h
  simp only [evI] at e
  split at e
  · rename_i j S1 e1
    split at e
    · rename_i hc
      cases e
      refine ⟨S, Z, A, _, _, e1, R, fun v1 Z1 A1 H1 st1 R1 r1 => ?_⟩
      cases r1
      exact ⟨j, rfl, hc.2, hc.1, k _ _ _ _ st1 R1 it_rng⟩
    · cases e
  · cases e
theorem k_rng2 (ok : Cok X C c) {a b : E} {tg x y : Expr} (hb : bltB C "range" = true) (hn : noStar x = true) (hn2 : noStar y = true) (ha : PE X x (tE En c a)) (hb2 : PE X y (tE En c b)) : PI X tg (.Call (.Name "range" pos1) [x, y] [] pos) (tI En c (.rng2 a b)) := by
  obtain ⟨g, m⟩ := ok.gl hb
  refine ⟨fun pins s σ H Q I h => (pi_range2 g m (pa_cons ha (pa_cons hb2 pa_nil (star_ne hn2)) (star_ne hn)) (hs := by rw [star_ne hn, star_ne hn2]; rfl) (hs2 := star_ne hn2)).run pins s σ H Q I ?_⟩
  obtain ⟨S, Z, A, items, S', e, R, k⟩ := h
  simp only [evI] at e
  split at e
  · rename_i i S1 e1
    split at e
    · rename_i j S2 e2
      split at e
      · rename_i hc
        cases e
        refine ⟨S, Z, A, _, _, e1, R, fun v1 Z1 A1 H1 st1 R1 r1 => ⟨S1, Z1, A1, _, _, e2, R1, fun v2 Z2 A2 H2 st2 R2 r2 => ?_⟩⟩
        cases r1
        cases r2
        exact ⟨i, j, rfl, ⟨hc.2.2.2, hc.2.2.1, hc.2.1, hc.1⟩, k _ _ _ _ (st1.trans st2) R2 it_rng⟩
      · cases e
    · cases e
  · cases e
theorem k_enum (ok : Cok X C c) {p : P} {x : Expr} {elts : List Expr} {kk : Nat} {tpos : Pos} (hb : bltB C "enumerate" = true) (hn : noStar x = true) (hp : PE X x (tP En c p)) : PI X (.Tuple elts kk tpos) (.Call (.Name "enumerate" pos1) [x] [] pos) (tI En c (.enum p)) := by
  obtain ⟨g, m⟩ := ok.gl hb
  refine ⟨fun pins s σ H Q I h => (pi_enumT g m (tP1 hn hp) (hs := star_ne hn)).run pins s σ H Q I ?_⟩
  obtain ⟨S, Z, A, items, S', e, R, k⟩ := h
  simp only [evI, Option.bind_eq_bind, Option.bind_eq_some_iff, Prod.exists] at e
  obtain ⟨x1, S1, e1, e⟩ := e
  refine ⟨S, Z, A, x1, S1, e1, R, fun v1 Z1 A1 H1 st1 R1 r1 => ?_⟩
  split at e
  · rename_i ds f1
    cases e
    cases (show Rp Z1 A1 H1 (.tup _) v1 from st_rel R1 r1 f1) with
    | tup a1 a2 a3 a4 => exact ⟨_, _, rfl, SqT.of a2, k _ _ _ _ st1 R1 (it_enumT R1 a2 a1 a4)⟩
  · cases e
theorem k_zipI (ok : Cok X C c) {p q : P} {x y : Expr} {elts : List Expr} {kk : Nat} {tpos : Pos} (hb : bltB C "zip" = true) (hn : noStar x = true) (hn2 : noStar y = true) (hp : PE X x (tP En c p)) (hq : PE X y (tP En c q)) : PI X (.Tuple elts kk tpos) (.Call (.Name "zip" pos1) [x, y] [] pos) (tI En c (.zip p q)) := by
  obtain ⟨g, m⟩ := ok.gl hb
  refine ⟨fun pins s σ H Q I h => (RZ.pi_zipA g m (pa_cons hp (pa_cons hq pa_nil (star_ne hn2)) (star_ne hn)) (hs := star_ne hn) (hpl := by rw [star_ne hn2]; rfl)).run pins s σ H Q I ?_⟩
  obtain ⟨S, Z, A, items, S', e, R, k⟩ := h
  simp only [evI, Option.bind_eq_bind, Option.bind_eq_some_iff, Prod.exists] at e
  obtain ⟨x1, S1, e1, x2, S2, e2, d1, f1, d2, f2, e⟩ := e
  refine ⟨S, Z, A, x1, S1, e1, R, fun v1 Z1 A1 H1 st1 R1 r1 => ⟨S1, Z1, A1, x2, S2, e2, R1, fun v2 Z2 A2 H2 st2 R2 r2 => ?_⟩⟩
  have t1 := st_rel R2 (r1.step R1 st2) f1
  have t2 := st_rel R2 r2 f2
  split at e
  · cases e
    obtain ⟨a, vs, rfl, a2, nw, a3, a4⟩ := t1
    obtain ⟨b, ws, rfl, b2, nw2, b3, b4⟩ := t2
    exact ⟨a, b, vs, ws, rfl, .inl ⟨SqL.of a2, SqL.of b2, k _ _ _ _ (st1.trans st2) R2 (it_zip R2 a2 nw a4 b2 nw2 b4)⟩⟩
  · cases e
    cases (show Rp Z2 A2 H2 (.tup _) v1 from t1) with
    | tup a1 a2 a3 a4 =>
      cases (show Rp Z2 A2 H2 (.tup _) v2 from t2) with
      | tup b1 b2 b3 b4 => exact ⟨_, _, _, _, rfl, .inr ⟨SqT.of a2, SqT.of b2, k _ _ _ _ (st1.trans st2) R2 (it_zipT R2 a2 a1 a4 b2 b1 b4)⟩⟩
  · cases e
theorem k_items {p : P} {x : Expr} {elts : List Expr} {kk : Nat} {tpos : Pos} (hl : (pos1.endLine == pos.line) = true) (ho : isName x = true) (hp : PE X x (tP En c p)) : PI X (.Tuple elts kk tpos) (.Call (.Attribute x "items" pos1) [] [] pos) (tI En c (.items p)) := by
  have hb : attributeBase x "items" X.env (eval x X.env) = eval x X.env := by cases x <;> first | rfl | cases ho
  refine ⟨fun pins s σ H Q I h => (pi_items hp (hbase := hb) (hline := hl)).run pins s σ H Q I ?_⟩
  obtain ⟨S, Z, A, items, S', e, R, k⟩ := h
  simp only [evI, Option.bind_eq_bind, Option.bind_eq_some_iff, Prod.exists] at e
  obtain ⟨x1, S1, e1, e⟩ := e
  refine ⟨S, Z, A, x1, S1, e1, R, fun v1 Z1 A1 H1 st1 R1 r1 => ?_⟩
  split at e
  · rename_i ks ds f1
    cases e
    cases (show Rp Z1 A1 H1 (.dic _ _) v1 from st_rel R1 r1 f1) with
    | dic a1 a2 a3 a4 a5 =>
      subst a3
      exact ⟨_, _, _, rfl, a2, k _ _ _ _ st1 R1 (it_items R1 a2 (fun w => a1 (R1.wz _ w)) a4 a5)⟩
  · cases e
/-- .. of the names that are hidden -/
theorem hid_own {it : It} {a : Addr} (h : Own (hid it S).r σ a) : Own S.r σ a := by
  cases it with
  | own i =>
    obtain ⟨j, s, h1, h2, h3⟩ := h
    have h1 : (S.r.set i .no)[j]? = some s := h1
    by_cases e : i = j
    · subst e
      rw [List.getElem?_set_self (by have := (List.getElem?_eq_some_iff.mp h1).1; simpa using this)] at h1
      cases h1
      cases h2
    · rw [List.getElem?_set_ne e] at h1
      exact ⟨j, s, h1, h2, h3⟩
  | _ => exact h
theorem hid_st (it : It) : (hid it S).st = S.st := by cases it <;> rfl
theorem hid_step {it : It} {t : Sn} (h : Step (sn (hid it S) Z A σ H) t) : Step (sn S Z A σ H) t :=
  ⟨fun a o e n => h.keep a o e fun w => n (w.imp id hid_own), h.pre, fun a w => (h.nw a w).imp (fun w => w.imp id hid_own) id, h.liv⟩
theorem no_set (R : Rl En S Z A σ H) (i : Nat) : Rl En { S with r := S.r.set i .no } Z A σ H := by
  have ow : ∀ a, Own (S.r.set i .no) σ a → Own S.r σ a := fun a h => hid_own (it := .own i) h
  refine ⟨⟨R.ent.keep, R.ent.pre, fun a w => R.ent.nw a (w.imp id (ow a)), R.ent.liv⟩, by simpa using R.slen, fun j s e => ?_, fun j k s t a h1 h2 h3 h4 h5 h6 => ?_, fun a w => R.sep a (ow a w), R.sto, R.zt, R.ew⟩
  · by_cases q : i = j
    · subst q
      have hl : i < S.r.length := by have := (List.getElem?_eq_some_iff.mp e).1; simpa using this
      rw [List.getElem?_set_self hl] at e
      cases e
      exact ⟨σ[i]'(by rw [← R.slen]; exact hl), List.getElem?_eq_getElem _, True.intro⟩
    · rw [List.getElem?_set_ne q] at e
      exact R.slot j s e
  · have at' : ∀ (j : Nat) (s : Sl), (S.r.set i .no)[j]? = some s → isOwn s = true → S.r[j]? = some s := fun j s e o => by
      by_cases q : i = j
      · subst q
        rw [List.getElem?_set_self (by have := (List.getElem?_eq_some_iff.mp e).1; simpa using this)] at e
        cases e
        cases o
      · rw [List.getElem?_set_ne q] at e; exact e
    exact R.inj j k s t a (at' j s h1 h2) h2 (at' k t h3 h4) h4 h5 h6
theorem k_itO (ok : Cok X C c) {i : Nat} {tg : Expr} {x : Str} (hv : varB C i x = true) : PI X tg (.Name x pos) (tI En c (.own i)) := by
  refine ⟨fun pins s σ H Q I h => (pi_list (ok.pv hv)).run pins s σ H Q I ?_⟩
  obtain ⟨S, Z, A, items, S', e, R, k⟩ := h
  simp only [evI] at e
  split at e
  · rename_i ds hi
    cases e
    obtain ⟨a, ha, za, ⟨vs, h1, h2, h3⟩, nA⟩ := R.ownAt hi
    have R1 := no_set R i
    refine ⟨.ref a, ha, a, rfl, ⟨vs, SqL.of h1⟩, k _ Z A H (Step.refl _) R1 (it_list R1 h1 (fun w => ?_) h3)⟩
    rcases w with w | w
    · exact nA w
    · obtain ⟨j, sl, g1, g2, g3⟩ := w
      have g1 : (S.r.set i .no)[j]? = some sl := g1
      by_cases q : i = j
      · subst q
        rw [List.getElem?_set_self (by have := (List.getElem?_eq_some_iff.mp g1).1; simpa using this)] at g1
        cases g1
        cases g2
      · rw [List.getElem?_set_ne q] at g1
        exact q (R.inj i j _ _ a hi rfl g1 g2 ha g3)
  · cases e
/-- the hidden name comes back -/
theorem unhid_ok {it : It} {items : List D} {S1 S3 : ES} {Z3 : Addr → Prop} {A3 : List Addr} {H3 : Hp} (e : evI c it S = some (items, S1)) (R : Rl En S Z A σ H) (st : Step (sn (hid it S) Z A σ H) (sn S3 Z3 A3 σ H3)) (R3 : Rl En S3 Z3 A3 σ H3) :
    Rl En (unhid it S S3) Z3 A3 σ H3 ∧ Step (sn S Z A σ H) (sn (unhid it S S3) Z3 A3 σ H3) ∧ ∀ a, (sn (unhid it S S3) Z3 A3 σ H3).W a → (sn S3 Z3 A3 σ H3).W a ∨ H a ≠ none := by
  cases it with
  | own i =>
    simp only [evI] at e
    split at e
    · rename_i ds hi
      obtain ⟨a, ha, za, ob, nA⟩ := R.ownAt hi
      have e2 : unhid (.own i) S S3 = { S3 with r := S3.r.set i (.own (.lst ds)) } := by
        show (match S.r[i]? with
          | some s => { S3 with r := S3.r.set i s }
          | none => S3) = _
        rw [hi]
      rw [e2]
      have nW : ¬ (sn (hid (.own i) S) Z A σ H).W a := fun w => by
        rcases w with w | w
        · exact nA w
        · obtain ⟨j, sl, g1, g2, g3⟩ := w
          have g1 : (S.r.set i .no)[j]? = some sl := g1
          by_cases q : i = j
          · subst q
            rw [List.getElem?_set_self (by have := (List.getElem?_eq_some_iff.mp g1).1; simpa using this)] at g1
            cases g1
            cases g2
          · rw [List.getElem?_set_ne q] at g1
            exact q (R.inj i j _ _ a hi rfl g1 g2 ha g3)
      have ht := ob.there
      have nW3 : ¬ (sn S3 Z3 A3 σ H3).W a := fun w => by
        rcases st.nw a w with w | w
        · exact nW w
        · exact ht w
      obtain ⟨vs, h1, h2, h3⟩ := id ob
      obtain ⟨k1, k2⟩ := st.keep a _ h1 nW
      have wz : ∀ b, (sn (hid (.own i) S) Z A σ H).W b → Z b := fun b w => R.wz b (w.imp id hid_own)
      have ob3 : ObH Z3 A3 H3 a (.lst ds) := ⟨vs, k1, h2, h3.step st wz⟩
      have hl3 : S3.r.length = σ.length := R3.slen
      have ow : ∀ b, Own (S3.r.set i (.own (.lst ds))) σ b → Own S3.r σ b ∨ b = a := fun b ⟨j, s, g1, g2, g3⟩ => by
        by_cases q : i = j
        · subst q
          rw [ha] at g3
          cases g3
          exact .inr rfl
        · rw [List.getElem?_set_ne q] at g1
          exact .inl ⟨j, s, g1, g2, g3⟩
      have hEW : ∀ b, Own (S3.r.set i (.own (.lst ds))) σ b → En.W b ∨ En.H b = none := fun b w => by
        rcases ow b w with w | rfl
        · exact R3.ent.nw b (.inr w)
        · exact R.ent.nw b (.inr ⟨i, _, hi, rfl, ha⟩)
      refine ⟨⟨⟨R3.ent.keep, R3.ent.pre, fun b w => w.elim (fun w => R3.ent.nw b (.inl w)) (hEW b), R3.ent.liv⟩, by simpa using hl3, fun j s g => ?_, fun j k s t b g1 g2 g3 g4 g5 g6 => ?_, fun b w => ?_, R3.sto, R3.zt, R3.ew⟩, ⟨fun b o g n => st.keep b o g fun w => n (w.imp id hid_own), st.pre, fun b w => ?_, st.liv⟩, fun b w => ?_⟩
      · by_cases q : i = j
        · subst q
          have hl : i < S3.r.length := by have := (List.getElem?_eq_some_iff.mp g).1; simpa using this
          rw [List.getElem?_set_self hl] at g
          cases g
          exact ⟨_, ha, a, rfl, k2.mpr za, ob3⟩
        · rw [List.getElem?_set_ne q] at g
          exact R3.slot j s g
      · by_cases q : i = j
        · by_cases q2 : i = k
          · rw [← q, ← q2]
          · subst q
            rw [ha] at g5
            cases g5
            rw [List.getElem?_set_ne q2] at g3
            exact absurd (.inr ⟨k, t, g3, g4, g6⟩) nW3
        · rw [List.getElem?_set_ne q] at g1
          by_cases q2 : i = k
          · subst q2
            rw [ha] at g6
            cases g6
            exact absurd (.inr ⟨j, s, g1, g2, g5⟩) nW3
          · rw [List.getElem?_set_ne q2] at g3
            exact R3.inj j k s t b g1 g2 g3 g4 g5 g6
      · rcases ow b w with w | rfl
        · exact R3.sep b w
        · exact fun m => nW3 (.inl m)
      · rcases w with w | w
        · exact (st.nw b (.inl w)).imp (fun w => w.imp id hid_own) id
        · rcases ow b w with w | rfl
          · exact (st.nw b (.inr w)).imp (fun w => w.imp id hid_own) id
          · exact .inl (.inr ⟨i, _, hi, rfl, ha⟩)
      · rcases w with w | w
        · exact .inl (.inl w)
        · rcases ow b w with w | rfl
          · exact .inl (.inr w)
          · exact .inr ht
    · cases e
  | _ => exact ⟨R3, st, fun a w => .inl w⟩
end
end Px
/-! Px3j: targets, comprehensions. -/
namespace Px
open PySem PySem.Spec L2
variable [KS]
section
variable {En : Sn} {S : ES} {Z Z' : Addr → Prop} {A A' : List Addr} {σ σ' : St} {H H' : Hp}
theorem sub_own {r r' : List Sl} (h : ∀ (j : Nat) (s : Sl), r'[j]? = some s → s = .no ∨ (∃ d, s = .val d) ∨ (r[j]? = some s ∧ σ'[j]? = σ[j]?)) {a : Addr} (w : Own r' σ' a) : Own r σ a := by
  obtain ⟨j, s, h1, h2, h3⟩ := w
  rcases h j s h1 with rfl | ⟨d, rfl⟩ | ⟨e1, e2⟩
  · cases h2
  · cases h2
  · exact ⟨j, s, e1, h2, by rw [← e2]; exact h3⟩
/-- fewer names are known -/
theorem Rl.less {r' : List Sl} (R : Rl En S Z A σ H) (hl : r'.length = σ'.length) (h : ∀ (j : Nat) (s : Sl), r'[j]? = some s → s = .no ∨ (∃ d, s = .val d) ∨ (S.r[j]? = some s ∧ σ'[j]? = σ[j]?))
    (hv : ∀ (j : Nat) (d : D), r'[j]? = some (.val d) → ∃ v, σ'[j]? = some (some v) ∧ Rp Z A H d v) : Rl En { S with r := r' } Z A σ' H ∧ Step (sn S Z A σ H) (sn { S with r := r' } Z A σ' H) := by
  have st : Step (sn S Z A σ H) (sn { S with r := r' } Z A σ' H) := ⟨fun a o e _ => ⟨e, Iff.rfl⟩, ⟨[], by simp⟩, fun a w => .inl (w.imp id (sub_own h)), fun a e => e⟩
  refine ⟨⟨R.ent.trans st, hl, fun j s e => ?_, fun i j s t a h1 h2 h3 h4 h5 h6 => ?_, fun a w => R.sep a (sub_own h w), R.sto, R.zt, R.ew⟩, st⟩
  · have hj : j < σ'.length := by rw [← hl]; exact (List.getElem?_eq_some_iff.mp e).1
    rcases h j s e with rfl | ⟨d, rfl⟩ | ⟨e1, e2⟩
    · exact ⟨σ'[j], List.getElem?_eq_getElem hj, True.intro⟩
    · obtain ⟨v, e1, r⟩ := hv j d e
      exact ⟨_, e1, v, rfl, r⟩
    · rw [e2]
      exact R.slot j s e1
  · rcases h i s h1 with rfl | ⟨d, rfl⟩ | ⟨e1, e2⟩
    · cases h2
    · cases h2
    · rcases h j t h3 with rfl | ⟨d, rfl⟩ | ⟨e3, e4⟩
      · cases h4
      · cases h4
      · exact R.inj i j s t a e1 h2 e3 h4 (by rw [← e2]; exact h5) (by rw [← e4]; exact h6)
theorem wipeR_len (r : List Sl) : ∀ vs : List Nat, (wipeR r vs).length = r.length
  | [] => rfl
  | v :: vs => by unfold wipeR; rw [List.length_set, wipeR_len r vs]
theorem wipeR_in {r : List Sl} {j : Nat} {s : Sl} : ∀ {vs : List Nat}, (wipeR r vs)[j]? = some s → s = .no ∨ (j ∉ vs ∧ r[j]? = some s)
  | [], h => .inr ⟨by simp, h⟩
  | v :: vs, h => by
    unfold wipeR at h
    by_cases e : v = j
    · subst e
      rw [List.getElem?_set_self (by have := (List.getElem?_eq_some_iff.mp h).1; simpa using this)] at h
      exact .inl (Option.some.inj h).symm
    · rw [List.getElem?_set_ne e] at h
      rcases wipeR_in h with h | ⟨h1, h2⟩
      · exact .inl h
      · exact .inr ⟨by simp only [List.mem_cons, not_or]; exact ⟨fun q => e q.symm, h1⟩, h2⟩
theorem Rl.wipe (R : Rl En S Z A σ H) (vs : List Nat) : Rl En { S with r := wipeR S.r vs } Z A (L2.wipe σ vs) H ∧ Step (sn S Z A σ H) (sn { S with r := wipeR S.r vs } Z A (L2.wipe σ vs) H) := by
  refine R.less (by rw [wipeR_len, wipe_length]; exact R.slen) (fun j s e => ?_) fun j d e => ?_
  · rcases wipeR_in e with h | ⟨h1, h2⟩
    · exact .inl h
    · exact .inr (.inr ⟨h2, wipe_out h1⟩)
  · rcases wipeR_in e with h | ⟨h1, h2⟩
    · cases h
    · rw [wipe_out h1]
      exact R.val h2
theorem backR_len (r0 r : List Sl) : ∀ vs : List Nat, (backR r0 r vs).length = r.length
  | [] => rfl
  | v :: vs => by unfold backR; rw [List.length_set, backR_len r0 r vs]
theorem backR_in {r0 r : List Sl} {j : Nat} {s : Sl} : ∀ {vs : List Nat}, (backR r0 r vs)[j]? = some s → s = .no ∨ (∃ d, s = .val d ∧ r0[j]? = some (.val d)) ∨ (j ∉ vs ∧ r[j]? = some s)
  | [], h => .inr (.inr ⟨by simp, h⟩)
  | v :: vs, h => by
    unfold backR at h
    by_cases e : v = j
    · subst e
      rw [List.getElem?_set_self (by have := (List.getElem?_eq_some_iff.mp h).1; simpa using this)] at h
      have h := Option.some.inj h
      split at h
      · rename_i d hd
        exact .inr (.inl ⟨d, h.symm, hd⟩)
      · exact .inl h.symm
    · rw [List.getElem?_set_ne e] at h
      rcases backR_in h with h | h | ⟨h1, h2⟩
      · exact .inl h
      · exact .inr (.inl h)
      · exact .inr (.inr ⟨by simp only [List.mem_cons, not_or]; exact ⟨fun q => e q.symm, h1⟩, h2⟩)
theorem Rl.back {S2 : ES} {Z2 : Addr → Prop} {A2 : List Addr} {H2 : Hp} {vs : List Nat} (R : Rl En S Z A σ H) (R2 : Rl En S2 Z2 A2 (L2.wipe σ vs) H2) (st : Step (sn S Z A σ H) (sn S2 Z2 A2 (L2.wipe σ vs) H2)) :
    Rl En { S2 with r := backR S.r S2.r vs } Z2 A2 σ H2 ∧ Step (sn S Z A σ H) (sn { S2 with r := backR S.r S2.r vs } Z2 A2 σ H2) ∧ ∀ a, (sn { S2 with r := backR S.r S2.r vs } Z2 A2 σ H2).W a → (sn S2 Z2 A2 (L2.wipe σ vs) H2).W a := by
  have hb : ∀ (j : Nat) (s : Sl), (backR S.r S2.r vs)[j]? = some s → s = .no ∨ (∃ d, s = .val d) ∨ (S2.r[j]? = some s ∧ σ[j]? = (L2.wipe σ vs)[j]?) := fun j s e => by
    rcases backR_in e with h | ⟨d, h, _⟩ | ⟨h1, h2⟩
    · exact .inl h
    · exact .inr (.inl ⟨d, h⟩)
    · exact .inr (.inr ⟨h2, (wipe_out h1).symm⟩)
  obtain ⟨a, b⟩ := R2.less (r' := backR S.r S2.r vs) (σ' := σ) (by rw [backR_len, R2.slen, wipe_length]) hb fun j d e => by
    rcases backR_in e with h | ⟨d', h, hd⟩ | ⟨h1, h2⟩
    · cases h
    · cases h
      obtain ⟨v, e1, r⟩ := R.val hd
      exact ⟨v, e1, r.step st R.wz⟩
    · obtain ⟨v, e1, r⟩ := R2.val h2
      rw [wipe_out h1] at e1
      exact ⟨v, e1, r⟩
  exact ⟨a, st.trans b, fun x w => w.imp id (sub_own hb)⟩
theorem setV_step {i : Nat} {d : D} {v : V} (R : Rl En S Z A σ H) (hi : i < S.r.length) : Step (sn S Z A σ H) (sn { S with r := S.r.set i (.val d) } Z A (σ.set i (some v)) H) := by
  refine ⟨fun a o e _ => ⟨e, Iff.rfl⟩, ⟨[], by simp⟩, fun a w => .inl (w.imp id fun w => ?_), fun a e => e⟩
  obtain ⟨j, s, h1, h2, h3⟩ := w
  have h1 : (S.r.set i (.val d))[j]? = some s := h1
  by_cases e : i = j
  · subst e
    rw [List.getElem?_set_self hi] at h1
    cases h1
    cases h2
  · rw [List.getElem?_set_ne e] at h1 h3
    exact ⟨j, s, h1, h2, h3⟩

/-! ### an object that is being made -/
structure TmS (En s1 : Sn) (T : ES) (Z : Addr → Prop) (A : List Addr) (σ : St) (H : Hp) (D : Addr) (o : HO) : Prop where
  R : Rl En T Z A σ H
  hD : H D = some o
  z : Z D
  nw : ¬ (sn T Z A σ H).W D
  st : Step s1 (sn T Z A σ H)
  h0 : s1.H D = none
  hE : En.H D = none
theorem TmS.go {s1 : Sn} {T T' : ES} {D : Addr} {o : HO} (t : TmS En s1 T Z A σ H D o) (st : Step (sn T Z A σ H) (sn T' Z' A' σ' H')) (R' : Rl En T' Z' A' σ' H') : TmS En s1 T' Z' A' σ' H' D o := by
  obtain ⟨a, b⟩ := st.keep D o t.hD t.nw
  refine ⟨R', a, b.mpr t.z, fun w => ?_, t.st.trans st, t.h0, t.hE⟩
  rcases st.nw D w with w | w
  · exact t.nw w
  · have := t.hD
    rw [show H D = none from w] at this
    cases this
theorem TmS.put {s1 : Sn} {T : ES} {D : Addr} {o o' : HO} (t : TmS En s1 T Z A σ H D o) : TmS En s1 T Z A σ (upd H D o') D o' := by
  have go : ∀ s : Sn, Step s (sn T Z A σ H) → s.H D = none → Step s (sn T Z A σ (upd H D o')) := fun s st h0 => by
    refine ⟨fun x u h n => ?_, st.pre, st.nw, fun x h => upd_liv (st.liv x h)⟩
    have ne : x ≠ D := fun e => by rw [e, h0] at h; cases h
    obtain ⟨a, b⟩ := st.keep x u h n
    exact ⟨by show upd H D o' x = some u; rw [upd_ne ne]; exact a, b⟩
  have R := t.R
  have mo : ∀ b u, H b = some u → ¬ Z b → upd H D o' b = some u ∧ ¬ Z b := off_mono t.z
  refine ⟨⟨go En R.ent t.hE, R.slen, fun i s hs => ?_, R.inj, R.sep, ⟨R.sto.len, R.sto.nod, fun x hx => upd_liv (R.sto.trk x hx), fun n c x h1 h2 => ?_⟩, fun x z => upd_liv (R.zt x z), R.ew⟩, upd_same, t.z, t.nw, go s1 t.st t.h0, t.h0, t.hE⟩
  · obtain ⟨x, e1, r⟩ := R.slot i s hs
    refine ⟨x, e1, ?_⟩
    cases s with
    | no => exact True.intro
    | val d => obtain ⟨v, e2, r1⟩ := r; exact ⟨v, e2, r1.mono mo fun _ _ h => h⟩
    | own c =>
      obtain ⟨y, e2, z, ob⟩ := r
      have hne : y ≠ D := fun q => t.nw (.inr ⟨i, _, hs, rfl, by rw [← q, ← e2]; exact e1⟩)
      exact ⟨y, e2, z, ob.mono mo (fun _ _ h => h) (upd_ne hne)⟩
  · obtain ⟨z, ob⟩ := R.sto.ob n c x h1 h2
    have ne : x ≠ D := fun e => t.nw (.inl (by rw [← e]; exact List.mem_of_getElem? h2))
    exact ⟨z, ob.mono mo (fun _ _ h => h) (upd_ne ne)⟩
theorem TmS.new {s1 : Sn} {T : ES} {D : Addr} {o : HO} (R : Rl En T Z A σ H) (st : Step s1 (sn T Z A σ H)) (hD : H D = none) : TmS En s1 T (fun a => Z a ∨ a = D) A σ (upd H D o) D o := by
  obtain ⟨R2, st2, nw⟩ := R.newT (o := o) hD
  exact ⟨R2, upd_same, .inr rfl, nw, st.trans st2, st.was hD, R.freshE hD⟩
end

/-! ### targets -/
section
variable {X : Cx} {C : Ctx} {c : CallF} {pos : Pos}
def tG (En : Sn) (tg : Tg) : TG := fun x σ H K => ∃ S Z A d r', asgTg tg d S.r = some r' ∧ Rl En S Z A σ H ∧ Rp Z A H d x ∧
  ∀ σ' : St, σ'.length = σ.length → (∀ j, j ∉ tgIx tg → σ'[j]? = σ[j]?) → Step (sn S Z A σ H) (sn { S with r := r' } Z A σ' H) → Rl En { S with r := r' } Z A σ' H → K σ' H
def tGs (En : Sn) (ts : Tgs) : TGs := fun xs σ H K => ∃ S Z A ds r', asgTgs ts ds S.r = some r' ∧ Rl En S Z A σ H ∧ Rps Z A H ds xs ∧
  ∀ σ' : St, σ'.length = σ.length → (∀ j, j ∉ tgsIx ts → σ'[j]? = σ[j]?) → Step (sn S Z A σ H) (sn { S with r := r' } Z A σ' H) → Rl En { S with r := r' } Z A σ' H → K σ' H
theorem each_ne {e : Expr} {es : List Expr} {env : Env} (h : noStar e = true) : assignEach (e :: es) env = (false, assign e env) :: assignEach es env := by
  cases e <;> first | rfl | cases h
theorem each_len : ∀ {ts : Tgs} {es : List Expr} {env : Env}, chkTgs C ts es = true → (assignEach es env).length = es.length ∧ (assignEach es env).findIdx? (·.1) = none
  | .nil, [], env, _ => ⟨rfl, rfl⟩
  | .nil, _ :: _, _, h => by simp [chkTgs] at h
  | .cons _ _, [], _, h => by simp [chkTgs] at h
  | .cons t ts, e :: es, env, h => by
    simp only [chkTgs, Bool.and_eq_true] at h
    obtain ⟨a, b⟩ := each_len (env := env) h.2
    rw [each_ne h.1.1]
    refine ⟨by simp [a], ?_⟩
    rw [List.findIdx?_cons]
    simp [b]
theorem asg_len : ∀ {ts : Tgs} {es : List Expr} {ds : List D} {r r' : List Sl}, chkTgs C ts es = true → asgTgs ts ds r = some r' → ds.length = es.length
  | .nil, [], [], _, _, _, _ => rfl
  | .nil, [], _ :: _, _, _, _, h => by simp [asgTgs] at h
  | .nil, _ :: _, _, _, _, h, _ => by simp [chkTgs] at h
  | .cons _ _, [], _, _, _, h, _ => by simp [chkTgs] at h
  | .cons t ts, e :: es, [], _, _, _, h => by simp [asgTgs] at h
  | .cons t ts, e :: es, d :: ds, r, r', h, h2 => by
    simp only [chkTgs, Bool.and_eq_true] at h
    simp only [asgTgs] at h2
    split at h2
    · simp [asg_len h.2 h2]
    · cases h2
mutual
theorem g_tg {En : Sn} (ok : Cok X C c) : ∀ {tg : Tg} {e : Expr}, chkTg C tg e = true → PG X e (tG En tg)
  | .v i, e, h => by
    cases e with
    | Name x pos =>
      obtain ⟨h1, h2, h3⟩ := ok.loc (show locB C i x = true by simpa only [chkTg] using h)
      refine ⟨fun pins s σ H v u Q I r hw => (pg_name ok.ndN h1 h2 h3).run pins s σ H v u Q I r ?_⟩
      obtain ⟨S, Z, A, d, r', e, R, rv, k⟩ := hw
      simp only [asgTg] at e
      split at e
      · rename_i hi
        cases e
        refine k _ (by simp) (fun j hj => ?_) (setV_step R hi) (R.setV hi rv)
        exact List.getElem?_set_ne fun q => hj (by simp [tgIx, q])
      · cases e
    | _ => simp [chkTg] at h
  | .tup ts, e, h => by
    cases e with
    | Tuple es k pos =>
      have h2 : chkTgs C ts es = true := by simpa only [chkTg] using h
      obtain ⟨l1, l2⟩ := each_len (env := X.env) h2
      refine ⟨fun pins s σ H v u Q I r hw => (pg_tup ok.calm (g_tgs (En := En) ok h2) l1 l2).run pins s σ H v u Q I r ?_⟩
      obtain ⟨S, Z, A, d, r', e, R, rv, k⟩ := hw
      cases d with
      | tup ds =>
        have e2 : asgTgs ts ds S.r = some r' := by simpa only [asgTg] using e
        cases rv with
        | tup a1 a2 a3 a4 => exact ⟨_, _, rfl, SqT.of a2, by rw [← a4.length]; exact asg_len h2 e2, S, Z, A, ds, r', e2, R, a4, fun σ' hl hj st R' => k σ' hl (fun j q => hj j (by simpa [tgIx] using q)) st R'⟩
      | _ => simp [asgTg] at e
    | _ => simp [chkTg] at h
theorem g_tgs {En : Sn} (ok : Cok X C c) : ∀ {ts : Tgs} {es : List Expr}, chkTgs C ts es = true → PGs X es (tGs En ts)
  | .nil, [], _ => ⟨fun pins s σ H vs us Q I r hw => pgs_nil.run pins s σ H vs us Q I r (by
    obtain ⟨S, Z, A, ds, r', e, R, rv, k⟩ := hw
    cases rv with
    | nil =>
      simp only [asgTgs] at e
      cases e
      exact ⟨rfl, k σ rfl (fun _ _ => rfl) (Step.refl _) R⟩
    | cons _ _ => simp [asgTgs] at e)⟩
  | .nil, _ :: _, h => by simp [chkTgs] at h
  | .cons _ _, [], h => by simp [chkTgs] at h
  | .cons t ts, e :: es, h => by
    have h2 : noStar e = true ∧ chkTg C t e = true ∧ chkTgs C ts es = true := by
      simp only [chkTgs, Bool.and_eq_true] at h
      exact ⟨h.1.1, h.1.2, h.2⟩
    refine ⟨fun pins s σ H vs us Q I r hw => (pgs_cons (g_tg (En := En) ok h2.2.1) (g_tgs (En := En) ok h2.2.2) (by rw [each_ne h2.1]; rfl)).run pins s σ H vs us Q I r ?_⟩
    obtain ⟨S, Z, A, ds, r', ee, R, rv, k⟩ := hw
    cases rv with
    | nil => simp [asgTgs] at ee
    | cons r1 r2 =>
      simp only [asgTgs] at ee
      split at ee
      · rename_i rm e1
        refine ⟨_, _, rfl, S, Z, A, _, rm, e1, R, r1, fun σ1 l1 j1 st1 R1 => ⟨{ S with r := rm }, Z, A, _, r', ee, R1, r2.step st1 R.wz, fun σ2 l2 j2 st2 R2 => ?_⟩⟩
        refine k σ2 (l2.trans l1) (fun j hj => ?_) (st1.trans st2) R2
        have hj2 : j ∉ tgIx t ∧ j ∉ tgsIx ts := by simpa [tgsIx, not_or] using hj
        rw [j2 j hj2.2, j1 j hj2.1]
      · cases ee
end
end
end Px
/-! Px3k: comprehensions. -/
namespace Px
open PySem PySem.Spec L2
variable [KS]
section
variable {X : Cx} {C : Ctx} {c : CallF} {En : Sn} {pos : Pos}
def tC1 (En : Sn) (c : CallF) (t : C1) : TT := fun σ H Q => ∃ S Z A b S', evC c t S = some (b, S') ∧ Rl En S Z A σ H ∧ PoT En S Z A σ H b S' Q
theorem k_noC : PTs X [] (tC1 En c .no) := ⟨fun pins s σ H Q I h => pts_nil.run pins s σ H Q I (by
  obtain ⟨S, Z, A, b, S', e, R, k⟩ := h
  simp only [evC] at e
  cases e
  exact k _ _ _ (Step.refl _) R)⟩
theorem k_tC {t : T} {x : Expr} (ht : PT X x (tT En c t)) : PTs X [x] (tC1 En c (.t t)) := ⟨fun pins s σ H Q I h => (pts_one ht).run pins s σ H Q I (by
  obtain ⟨S, Z, A, b, S', e, R, k⟩ := h
  simp only [evC] at e
  exact ⟨S, Z, A, b, S', e, R, k⟩)⟩
theorem wipe_in {σ : St} {j : Nat} : ∀ {vs : List Nat}, j ∈ vs → j < σ.length → (wipe σ vs)[j]? = some none
  | v :: vs, h, hl => by
    unfold wipe
    by_cases e : v = j
    · subst e
      rw [List.getElem?_set_self (by rw [wipe_length]; exact hl)]
    · rw [List.getElem?_set_ne e]
      rcases List.mem_cons.mp h with q | q
      · exact absurd q.symm e
      · exact wipe_in q hl
/-- stores at names that are forgotten anyway -/
theorem wipe_eq {σ σ' : St} {vs : List Nat} (hl : σ'.length = (wipe σ vs).length) (h : ∀ j, j ∉ vs → σ'[j]? = (wipe σ vs)[j]?) : wipe σ' vs = wipe σ vs := by
  refine List.ext_getElem? fun j => ?_
  by_cases hj : j ∈ vs
  · rw [wipe_length] at hl
    by_cases hlt : j < σ.length
    · rw [wipe_in hj hlt, wipe_in hj (by omega)]
    · rw [List.getElem?_eq_none (by rw [wipe_length]; omega), List.getElem?_eq_none (by rw [wipe_length]; omega)]
  · rw [wipe_out hj, h j hj]
theorem sub_ix {a b : List Nat} (h : subIx a b = true) {j : Nat} (hj : j ∉ b) : j ∉ a := fun q => hj (by
  unfold subIx at h
  have := List.all_eq_true.mp h j q
  simpa using this)
theorem drop_cons {α : Type} {l : List α} {i : Nat} {d : α} (h : l[i]? = some d) : l.drop i = d :: l.drop (i + 1) := by
  obtain ⟨h1, h2⟩ := List.getElem?_eq_some_iff.mp h
  rw [List.drop_eq_getElem_cons h1, h2]

/-- a list comprehension's reading -/
theorem lc_read {x : E} {tg : Tg} {it : It} {c1 : C1} {own : List (Str × Nat)} (hs : subIx (tgIx tg) (own.map (·.2)) = true) {σ : St} {H : Hp} {Q : VK} (w : tL En c (.comp x tg it c1 own) σ H Q) :
    tLc (tI En c it) (tG En tg) (tC1 En c c1) (tE En c x) (own.map (·.2)) σ H Q := by
  obtain ⟨S, Z, A, out, S', e, R, k⟩ := w
  simp only [evL] at e
  generalize own.map (·.2) = vs at *
  split at e
  · cases e
  rename_i items S1 e1
  generalize hF : (fun (d : D) (S : ES) => match asgTg tg d (wipeR S.r vs) with
        | none => (none : Option (Option D × ES))
        | some r => match evC c c1 { S with r := r } with
          | none => none
          | some (false, S) => some (none, { S with r := wipeR S.r vs })
          | some (true, S) => match ev c x S with
            | none => none
            | some (y, S) => some (some y, { S with r := wipeR S.r vs })) = F at e
  split at e
  · cases e
  rename_i out' S2 e2
  split at e
  · rename_i hlen
    cases e
    refine ⟨S, Z, A, items, S1, e1, R, fun J Z1 A1 H1 sth R1 hJ D hD => ?_⟩
    have st1 := hid_step sth
    obtain ⟨Rw, stw⟩ := R1.wipe vs
    refine ⟨fun i m H => m = items.length - i ∧ i ≤ items.length ∧ ∃ T Z A acc accV rest, TmS En (sn S1 Z1 A1 σ H1) T Z A (wipe σ vs) H D (.lst accV) ∧ Rps Z A H acc accV ∧ accV.length ≤ i ∧ compF F (items.drop i) T = some (rest, S2) ∧ out = acc ++ rest, ⟨items.length, by simp, Nat.zero_le _, _, _, _, [], [], out, TmS.new Rw stw hD, .nil, Nat.zero_le _, e2, rfl⟩, ?_⟩
    rintro i m H0 ⟨rfl, hi, T, Z0, A0, acc, accV, rest, tm, racc, hacc, ec, eo⟩
    obtain ⟨go, stop⟩ := hJ i T Z0 A0 _ H0 tm.st tm.R
    by_cases hlt : i < items.length
    · obtain ⟨go, hy⟩ := go hlt
      refine .inr ⟨go, fun H' => items.length - (i + 1) < items.length - i ∧ items.length - (i + 1) = items.length - (i + 1) ∧ i + 1 ≤ items.length ∧ ∃ T Z A acc accV rest, TmS En (sn S1 Z1 A1 σ H1) T Z A (wipe σ vs) H' D (.lst accV) ∧ Rps Z A H' acc accV ∧ accV.length ≤ i + 1 ∧ compF F (items.drop (i + 1)) T = some (rest, S2) ∧ out = acc ++ rest,
        fun H' q => ⟨items.length - (i + 1), q.1, q.2⟩, fun u H' y => ?_⟩
      obtain ⟨d, hd, R', st', rd⟩ := hy u H' y
      have tm1 := tm.go st' R'
      obtain ⟨Rw1, stw1⟩ := R'.wipe vs
      have ew : wipe (wipe σ vs) vs = wipe σ vs := wipe_eq rfl fun j hj => rfl
      rw [ew] at Rw1 stw1
      have tm2 := tm1.go stw1 Rw1
      rw [drop_cons hd] at ec
      simp only [compF] at ec
      split at ec
      · cases ec
      rename_i o T1 f1
      split at ec
      · cases ec
      rename_i rest' S2' f2
      have ec := Option.some.inj ec
      have er : pushO o rest' = rest := congrArg Prod.fst ec
      have eS : S2' = S2 := congrArg Prod.snd ec
      subst eS er
      rw [← hF] at f1
      simp only at f1
      split at f1
      · cases f1
      rename_i r ea
      refine ⟨{ T with r := wipeR T.r vs }, Z0, A0, d, r, ea, Rw1, rd.step stw1 R'.wz, fun σ2 hl2 hj2 st2 R2 => ?_⟩
      have ew2 : wipe σ2 vs = wipe σ vs := wipe_eq hl2 fun j hj => hj2 j (sub_ix hs hj)
      refine ⟨ew2, ?_⟩
      have tm3 := tm2.go st2 R2
      have racc3 : Rps Z0 A0 H' acc accV := ((racc.step st' tm.R.wz).step stw1 R'.wz).step st2 Rw1.wz
      -- the turn's end
      have fin : ∀ {T3 : ES} {Z3 : Addr → Prop} {A3 : List Addr} {H3 : Hp} {acc' : List Px.D} {accV' : List V}, TmS En (sn S1 Z1 A1 σ H1) T3 Z3 A3 σ2 H3 D (.lst accV') → Rps Z3 A3 H3 acc' accV' → accV'.length ≤ i + 1 → T1 = { T3 with r := wipeR T3.r vs } → out = acc' ++ rest' →
          items.length - (i + 1) < items.length - i ∧ items.length - (i + 1) = items.length - (i + 1) ∧ i + 1 ≤ items.length ∧ ∃ T Z A acc accV rest, TmS En (sn S1 Z1 A1 σ H1) T Z A (wipe σ vs) H3 D (.lst accV) ∧ Rps Z A H3 acc accV ∧ accV.length ≤ i + 1 ∧ compF F (items.drop (i + 1)) T = some (rest, S2') ∧ out = acc ++ rest := by
        intro T3 Z3 A3 H3 acc' accV' t3 r3 hl3 eT eo3
        obtain ⟨Rw3, stw3⟩ := t3.R.wipe vs
        rw [ew2] at Rw3 stw3
        refine ⟨by omega, rfl, hlt, T1, Z3, A3, acc', accV', rest', ?_, ?_, hl3, f2, eo3⟩
        · rw [eT]; exact t3.go stw3 Rw3
        · exact r3.step stw3 t3.R.wz
      split at f1
      · cases f1
      · rename_i T3 ev1
        cases f1
        refine ⟨_, Z0, A0, false, T3, ev1, R2, fun Z4 A4 H4 st4 R4 => ?_⟩
        dsimp only
        rw [if_neg Bool.false_ne_true]
        exact fin (tm3.go st4 R4) (racc3.step st4 R2.wz) (by omega) rfl eo
      · rename_i T3 ev1
        split at f1
        · cases f1
        · rename_i y T4 ev2
          cases f1
          refine ⟨_, Z0, A0, true, T3, ev1, R2, fun Z4 A4 H4 st4 R4 => ?_⟩
          dsimp only
          rw [if_pos rfl]
          refine ⟨T3, Z4, A4, y, T4, ev2, R4, fun v5 Z5 A5 H5 st5 R5 r5 => ?_⟩
          have tm5 := (tm3.go st4 R4).go st5 R5
          have racc5 := (racc3.step st4 R2.wz).step st5 R4.wz
          have hsz : accV.length < sizeLine := by omega
          have mo : ∀ b u, H5 b = some u → ¬ Z5 b → upd H5 D (.lst (accV ++ [v5])) b = some u ∧ ¬ Z5 b := off_mono tm5.z
          refine ⟨accV, tm5.hD, hsz, fin (acc' := acc ++ [y]) (accV' := accV ++ [v5]) tm5.put ((racc5.append (.one r5)).mono mo fun _ _ q => q) (by rw [List.length_append, List.length_singleton]; omega) rfl ?_⟩
          rw [eo, List.append_assoc]
          rfl
    · have ei : i = items.length := by omega
      subst ei
      refine .inl ⟨stop (Nat.le_refl _), ?_⟩
      rw [List.drop_length] at ec
      simp only [compF] at ec
      cases ec
      obtain ⟨Rb, stb, hw⟩ := R1.back tm.R tm.st
      rw [List.append_nil] at eo
      subst eo
      obtain ⟨Ru, stu, wu⟩ := unhid_ok e1 R (sth.trans stb) Rb
      exact k D Z0 A0 H0 stu Ru tm.z (fun w => (wu D w).elim (fun w => tm.nw (hw D w)) fun w => w (st1.was hD)) (st1.was hD) ⟨accV, tm.hD, by omega, racc⟩
  · cases e
theorem k_comp (ok : Cok X C c) {x : E} {tg : Tg} {it : It} {c1 : C1} {own : List (Str × Nat)} {elt t iter : Expr} {ifs : List Expr} {scope : Scope} (hb : blkC C.N C.sc scope own = true) (hs : subIx (tgIx tg) (own.map (·.2)) = true) (hn : noSet iter = true) (hi : PI X t iter (tI En c it))
    (hg : ∀ (s : Shared) (H : Hp) (D : Addr) (cl : List (Str × Addr)) (fp : List Addr), PG (X.blk s H scope (compEnvC scope cl D X.env) fp) t (tG En tg)) (ht : ∀ (s : Shared) (H : Hp) (D : Addr) (cl : List (Str × Addr)) (fp : List Addr), PTs (X.blk s H scope (compEnvC scope cl D X.env) fp) ifs (tC1 En c c1))
    (he : ∀ (s : Shared) (H : Hp) (D : Addr) (cl : List (Str × Addr)) (fp : List Addr), PE (X.blk s H scope (compEnvC scope cl D X.env) fp) elt (tE En c x)) : PE X (.ListComp elt [⟨t, iter, ifs, 0⟩] scope pos) (tL En c (.comp x tg it c1 own)) := by
  have hbk : BlkOk X.N X.env.scope scope own := blkOk_by (by rw [ok.N, ok.sc]; exact hb)
  exact mE (pe_lc ok.calm ok.ndN hi hbk hg ht he fun v => set_no hn v) fun σ H Q w => lc_read hs w
where
  set_no {iter : Expr} {env : Env} (hn : noSet iter = true) (v : Value) : foldedSetIterable iter env v = pure v := by
    cases iter <;> first | rfl | cases hn
end
end Px
/-! Px3l: dict comprehensions; keys put. -/
namespace Px
open PySem PySem.Spec L2
variable [KS]
section
variable {X : Cx} {C : Ctx} {c : CallF} {En : Sn} {pos : Pos} {Z : Addr → Prop} {A : List Addr} {H : Hp}
theorem keyD_ok {d : Px.D} {v : V} {k : Key} (r : Rp Z A H d v) (h : keyD d = some k) : okK k := by
  cases r with
  | int i => cases h; exact True.intro
  | str h1 h2 => cases h; exact ⟨h1, h2⟩
  | _ => cases h
theorem any_keys (k : Key) : ∀ {kws : List (Key × V)} {kvs : List (Key × Px.D)}, kws.map (·.1) = kvs.map (·.1) → (kws.any fun p => decide (p.1 = k)) = kvs.any fun p => decide (p.1 = k)
  | [], [], _ => rfl
  | [], _ :: _, h => by simp at h
  | _ :: _, [], h => by simp at h
  | p :: kws, q :: kvs, h => by
    simp only [List.map_cons, List.cons.injEq] at h
    rw [List.any_cons, List.any_cons, any_keys k h.2, h.1]
theorem repl_rel (k : Key) {d : Px.D} {v : V} (r : Rp Z A H d v) : ∀ {kws : List (Key × V)} {kvs : List (Key × Px.D)}, kws.map (·.1) = kvs.map (·.1) → Rps Z A H (kvs.map (·.2)) (kws.map (·.2)) →
    Rps Z A H ((kvs.map fun p => if p.1 = k then (p.1, d) else p).map (·.2)) ((kws.map fun p => if p.1 = k then (p.1, v) else p).map (·.2))
  | [], [], _, _ => .nil
  | [], _ :: _, h, _ => by simp at h
  | _ :: _, [], h, _ => by simp at h
  | p :: kws, q :: kvs, h, rs => by
    simp only [List.map_cons, List.cons.injEq] at h rs ⊢
    cases rs with
    | cons r1 r2 =>
      refine .cons ?_ (repl_rel k r h.2 r2)
      rw [h.1]
      by_cases e : q.1 = k
      · rw [if_pos e, if_pos e]; exact r
      · rw [if_neg e, if_neg e]; exact r1
theorem repl_keys {α : Type} (k : Key) (x : α) : ∀ (l : List (Key × α)), (l.map fun p => if p.1 = k then (p.1, x) else p).map (·.1) = l.map (·.1)
  | [] => rfl
  | p :: l => by
    simp only [List.map_cons, repl_keys k x l]
    by_cases e : p.1 = k
    · rw [if_pos e]
    · rw [if_neg e]
theorem put_rel {k : Key} {d : Px.D} {v : V} {kws : List (Key × V)} {kvs : List (Key × Px.D)} (r : Rp Z A H d v) (hk : kws.map (·.1) = kvs.map (·.1)) (rs : Rps Z A H (kvs.map (·.2)) (kws.map (·.2))) :
    (putK kws k v).map (·.1) = (putD kvs k d).map (·.1) ∧ Rps Z A H ((putD kvs k d).map (·.2)) ((putK kws k v).map (·.2)) := by
  unfold putK putD
  rw [any_keys k hk]
  by_cases e : (kvs.any fun p => decide (p.1 = k)) = true
  · rw [if_pos e, if_pos e]
    exact ⟨by rw [repl_keys, repl_keys, hk], repl_rel k r hk rs⟩
  · rw [if_neg e, if_neg e]
    exact ⟨by simp [hk], by rw [List.map_append, List.map_append]; exact rs.append (.one r)⟩
theorem put_okX {k : Key} {v : V} {kws : List (Key × V)} (h : DOk kws) (hl : kws.length < sizeLine) (hk : okK k) : DOk (putK kws k v) := by
  refine ⟨Nat.le_trans (length_putK kws k v) hl, fun j hj => ?_⟩
  unfold putK at hj
  split at hj
  · rw [repl_keys] at hj
    exact h.2 j hj
  · rw [List.map_append] at hj
    rcases List.mem_append.mp hj with hj | hj
    · exact h.2 j hj
    · rw [show j = k by simpa using hj]
      exact hk
/-- a dict comprehension's reading -/
theorem dc_read {kx vx : E} {tg : Tg} {it : It} {own : List (Str × Nat)} (hs : subIx (tgIx tg) (own.map (·.2)) = true) {σ : St} {H : Hp} {Q : VK} (w : tD En c (.comp kx vx tg it own) σ H Q) :
    tDc (tI En c it) (tG En tg) tYes (tE En c kx) (tE En c vx) (own.map (·.2)) σ H Q := by
  obtain ⟨S, Z, A, out, S', e, R, k⟩ := w
  simp only [evD] at e
  generalize own.map (·.2) = vs at *
  split at e
  · cases e
  rename_i items S1 e1
  generalize hF : (fun (d : Px.D) (S : ES) => match asgTg tg d (wipeR S.r vs) with
        | none => (none : Option (Key × Px.D × ES))
        | some r => match ev c kx { S with r := r } with
          | none => none
          | some (kd, S) => match keyD kd with
            | none => none
            | some kk => match ev c vx S with
              | none => none
              | some (y, S) => some (kk, y, { S with r := wipeR S.r vs })) = F at e
  split at e
  · cases e
  rename_i out' S2 e2
  split at e
  · rename_i hlen
    cases e
    refine ⟨S, Z, A, items, S1, e1, R, fun J Z1 A1 H1 sth R1 hJ D hD => ?_⟩
    have st1 := hid_step sth
    obtain ⟨Rw, stw⟩ := R1.wipe vs
    refine ⟨fun i m H => m = items.length - i ∧ i ≤ items.length ∧ ∃ T Z A kvs kws, TmS En (sn S1 Z1 A1 σ H1) T Z A (wipe σ vs) H D (.dK kws) ∧ kws.map (·.1) = kvs.map (·.1) ∧ Rps Z A H (kvs.map (·.2)) (kws.map (·.2)) ∧ DOk kws ∧ kws.length ≤ i ∧ compD F (items.drop i) kvs T = some (out, S2),
      ⟨items.length, by simp, Nat.zero_le _, _, _, _, [], [], TmS.new Rw stw hD, rfl, .nil, ⟨Nat.zero_le _, fun k hk => nomatch hk⟩, Nat.zero_le _, e2⟩, ?_⟩
    rintro i m H0 ⟨rfl, hi, T, Z0, A0, kvs, kws, tm, hkk, racc, hok, hacc, ec⟩
    obtain ⟨go, stop⟩ := hJ i T Z0 A0 _ H0 tm.st tm.R
    by_cases hlt : i < items.length
    · obtain ⟨go, hy⟩ := go hlt
      refine .inr ⟨go, fun H' => items.length - (i + 1) < items.length - i ∧ items.length - (i + 1) = items.length - (i + 1) ∧ i + 1 ≤ items.length ∧ ∃ T Z A kvs kws, TmS En (sn S1 Z1 A1 σ H1) T Z A (wipe σ vs) H' D (.dK kws) ∧ kws.map (·.1) = kvs.map (·.1) ∧ Rps Z A H' (kvs.map (·.2)) (kws.map (·.2)) ∧ DOk kws ∧ kws.length ≤ i + 1 ∧ compD F (items.drop (i + 1)) kvs T = some (out, S2),
        fun H' q => ⟨items.length - (i + 1), q.1, q.2⟩, fun u H' y => ?_⟩
      obtain ⟨d, hd, R', st', rd⟩ := hy u H' y
      have tm1 := tm.go st' R'
      obtain ⟨Rw1, stw1⟩ := R'.wipe vs
      have ew : wipe (wipe σ vs) vs = wipe σ vs := wipe_eq rfl fun j hj => rfl
      rw [ew] at Rw1 stw1
      have tm2 := tm1.go stw1 Rw1
      rw [drop_cons hd] at ec
      simp only [compD] at ec
      split at ec
      · cases ec
      rename_i kk dv T1 f1
      rw [← hF] at f1
      simp only at f1
      split at f1
      · cases f1
      rename_i r ea
      refine ⟨{ T with r := wipeR T.r vs }, Z0, A0, d, r, ea, Rw1, rd.step stw1 R'.wz, fun σ2 hl2 hj2 st2 R2 => ?_⟩
      have ew2 : wipe σ2 vs = wipe σ vs := wipe_eq hl2 fun j hj => hj2 j (sub_ix hs hj)
      refine ⟨ew2, ?_⟩
      have tm3 := tm2.go st2 R2
      have racc3 : Rps Z0 A0 H' (kvs.map (·.2)) (kws.map (·.2)) := ((racc.step st' tm.R.wz).step stw1 R'.wz).step st2 Rw1.wz
      dsimp only [tYes]
      rw [if_pos rfl]
      split at f1
      · cases f1
      rename_i kd T3 ev1
      split at f1
      · cases f1
      rename_i kk2 hkd
      split at f1
      · cases f1
      rename_i y T4 ev2
      cases f1
      refine ⟨_, Z0, A0, kd, T3, ev1, R2, fun v4 Z4 A4 H4 st4 R4 r4 => ⟨T3, Z4, A4, _, T4, ev2, R4, fun v5 Z5 A5 H5 st5 R5 r5 => ?_⟩⟩
      have tm5 := (tm3.go st4 R4).go st5 R5
      have racc5 := (racc3.step st4 R2.wz).step st5 R4.wz
      have hsz : kws.length < sizeLine := by omega
      have mo : ∀ b u, H5 b = some u → ¬ Z5 b → upd H5 D (.dK (putK kws kk v5)) b = some u ∧ ¬ Z5 b := off_mono tm5.z
      obtain ⟨p1, p2⟩ := put_rel (k := kk) r5 hkk racc5
      refine ⟨kws, kk, keyD_rel r4 hkd, tm5.hD, hsz, ?_⟩
      have tm6 : TmS En (sn S1 Z1 A1 σ H1) T4 Z5 A5 σ2 (upd H5 D (.dK (putK kws kk v5))) D (.dK (putK kws kk v5)) := tm5.put
      obtain ⟨Rw3, stw3⟩ := tm6.R.wipe vs
      rw [ew2] at Rw3 stw3
      refine ⟨by omega, rfl, hlt, { T4 with r := wipeR T4.r vs }, Z5, A5, _, putK kws kk v5, tm6.go stw3 Rw3, p1, (p2.mono mo fun _ _ q => q).step stw3 tm6.R.wz, put_okX hok hsz (keyD_ok r4 hkd), ?_, ec⟩
      have := length_putK kws kk v5
      omega
    · have ei : i = items.length := by omega
      subst ei
      refine .inl ⟨stop (Nat.le_refl _), ?_⟩
      rw [List.drop_length] at ec
      simp only [compD] at ec
      cases ec
      obtain ⟨Rb, stb, hw⟩ := R1.back tm.R tm.st
      exact k D Z0 A0 H0 (st1.trans stb) Rb tm.z (fun w => tm.nw (hw D w)) (st1.was hD) ⟨kws, tm.hD, hkk, hok, racc⟩
  · cases e
theorem k_dcomp (ok : Cok X C c) {kx vx : E} {tg : Tg} {it : It} {own : List (Str × Nat)} {ke ve t iter : Expr} {scope : Scope} (hb : blkC C.N C.sc scope own = true) (hs : subIx (tgIx tg) (own.map (·.2)) = true) (hn : noSet iter = true) (hi : PI X t iter (tI En c it))
    (hg : ∀ (s : Shared) (H : Hp) (D : Addr) (cl : List (Str × Addr)) (fp : List Addr), PG (X.blk s H scope (compEnvC scope cl D X.env) fp) t (tG En tg)) (hk : ∀ (s : Shared) (H : Hp) (D : Addr) (cl : List (Str × Addr)) (fp : List Addr), PE (X.blk s H scope (compEnvC scope cl D X.env) fp) ke (tE En c kx))
    (he : ∀ (s : Shared) (H : Hp) (D : Addr) (cl : List (Str × Addr)) (fp : List Addr), PE (X.blk s H scope (compEnvC scope cl D X.env) fp) ve (tE En c vx)) : PE X (.DictComp ke ve [⟨t, iter, [], 0⟩] scope pos) (tD En c (.comp kx vx tg it own)) := by
  have hbk : BlkOk X.N X.env.scope scope own := blkOk_by (by rw [ok.N, ok.sc]; exact hb)
  exact mE (pe_dc ok.calm ok.ndN hi hbk hg (fun _ _ _ _ _ => pts_nil) hk he fun v => k_comp.set_no hn v) fun σ H Q w => dc_read hs w
/-- a block's context -/
theorem Cok.blk (ok : Cok X C c) {scope : Scope} (s : Shared) (H : Hp) (D : Addr) (cl : List (Str × Addr)) (fp : List Addr) : Cok (X.blk s H scope (compEnvC scope cl D X.env) fp) (C.blk scope) c :=
  ⟨by show relS scope X.env.scope = relS scope C.sc; rw [ok.sc], ok.N, ok.nd, ok.calm, rfl, ok.free, ok.un, rfl, ok.ks, ok.known⟩
end
end Px
/-! Px4: every expression that passes the check. -/
namespace Px
open PySem PySem.Spec L2
variable [KS]
def isBoolOp : Expr → Bool
  | .BoolOp _ _ _ => true
  | _ => false
section
variable {c : CallF} {En : Sn}
mutual
theorem sE {X : Cx} {C : Ctx} (ok : Cok X C c) (e : E) (x : Expr) (h : chkE C e x = true) : PE X x (tE En c e) := by
  unfold chkE at h
  split at h
  · exact k_var ok h
  · rw [of_decide_eq_true h]; exact k_int
  · exact k_nint (of_decide_eq_true h)
  · simp only [Bool.and_eq_true, decide_eq_true_eq] at h
    obtain ⟨⟨rfl, h2⟩, h3⟩ := h
    exact k_str h2 h3
  · exact k_non
  · rw [of_decide_eq_true h]; exact k_bl
  · simp only [Bool.and_eq_true] at h
    exact k_bin h.1.1 (sE ok _ _ h.1.2) (sE ok _ _ h.2)
  · simp only [Bool.and_eq_true, decide_eq_true_eq, Bool.not_eq_true'] at h
    obtain ⟨⟨⟨rfl, h2⟩, h3⟩, h4⟩ := h
    exact k_cmp ok h2 (sP ok _ _ h3) (sP ok _ _ h4)
  · simp only [Bool.and_eq_true, decide_eq_true_eq, Bool.not_eq_true'] at h
    obtain ⟨⟨⟨⟨⟨rfl, rfl⟩, h2⟩, h3⟩, h4⟩, h5⟩ := h
    exact k_chn ok h2 (sE ok _ _ h3) (sE ok _ _ h4) (sE ok _ _ h5)
  · simp only [Bool.and_eq_true] at h
    exact k_and (sE ok _ _ h.1) (sE ok _ _ h.2)
  · simp only [Bool.and_eq_true] at h
    exact k_or (sE ok _ _ h.1) (sE ok _ _ h.2)
  · exact k_one (sE ok _ _ h)
  · exact k_not (sE ok _ _ h)
  · simp only [Bool.and_eq_true] at h
    exact k_ifx (sT ok _ _ h.1.1) (sE ok _ _ h.1.2) (sE ok _ _ h.2)
  · simp only [Bool.and_eq_true, decide_eq_true_eq] at h
    exact k_tup h.1 h.2 (sA ok _ _ h.2)
  · simp only [Bool.and_eq_true] at h
    exact k_idx ok h.1.1 (sP ok _ _ h.1.2) (sE ok _ _ h.2)
  · simp only [Bool.and_eq_true] at h
    exact k_slT (sP ok _ _ h.1.1) (sO ok _ _ h.1.2) (sO ok _ _ h.2)
  · simp only [Bool.and_eq_true, decide_eq_true_eq] at h
    obtain ⟨⟨rfl, h2⟩, h3⟩ := h
    exact k_call ok h2 h3 (sA ok _ _ h3)
  · simp only [Bool.and_eq_true, decide_eq_true_eq] at h
    obtain ⟨⟨⟨rfl, h2⟩, h3⟩, h4⟩ := h
    exact k_len ok h2 h3 (sP ok _ _ h4)
  · simp only [Bool.and_eq_true, decide_eq_true_eq] at h
    obtain ⟨⟨⟨⟨⟨⟨rfl, h2⟩, h3⟩, rfl⟩, h5⟩, h6⟩, h7⟩ := h
    exact k_isI ok h2 h3 h6 h5 (sP ok _ _ h7)
  · simp only [Bool.and_eq_true, decide_eq_true_eq] at h
    obtain ⟨⟨⟨rfl, h2⟩, h3⟩, h4⟩ := h
    exact k_toInt ok h2 h3 (sE ok _ _ h4)
  · simp only [Bool.and_eq_true, decide_eq_true_eq] at h
    obtain ⟨⟨⟨rfl, h2⟩, h3⟩, h4⟩ := h
    exact k_toStr ok h2 h3 (sE ok _ _ h4)
  · simp only [Bool.and_eq_true, decide_eq_true_eq] at h
    obtain ⟨⟨⟨rfl, h2⟩, h3⟩, h4⟩ := h
    exact k_absI ok h2 h3 (sE ok _ _ h4)
  · simp only [Bool.and_eq_true, decide_eq_true_eq] at h
    obtain ⟨⟨⟨⟨⟨rfl, h2⟩, h3⟩, h4⟩, h5⟩, h6⟩ := h
    exact k_max2 ok h2 h3 h4 (sE ok _ _ h5) (sE ok _ _ h6)
  · simp only [Bool.and_eq_true, decide_eq_true_eq] at h
    obtain ⟨⟨⟨rfl, h2⟩, h3⟩, h4⟩ := h
    exact k_tupOf ok h2 h3 (sP ok _ _ h4)
  · simp only [Bool.and_eq_true, decide_eq_true_eq] at h
    obtain ⟨⟨⟨rfl, h2⟩, h3⟩, h4⟩ := h
    exact k_allL ok h2 h3 (sP ok _ _ h4)
  · simp only [Bool.and_eq_true, decide_eq_true_eq] at h
    obtain ⟨⟨⟨⟨⟨⟨⟨h1, rfl⟩, h2⟩, h3⟩, h4⟩, h5⟩, h6⟩, h7⟩ := h
    exact k_get2 ok h2 h1 h3 h4 (sP ok _ _ h5) (sE ok _ _ h6) (sE ok _ _ h7)
  · exact k_ofL (sL ok _ _ h)
  · exact k_ofD (sD ok _ _ h)
  · simp only [Bool.and_eq_true, decide_eq_true_eq] at h
    obtain ⟨⟨rfl, h2⟩, h3⟩ := h
    exact k_pop ok h2 h3
  · simp only [Bool.and_eq_true, decide_eq_true_eq] at h
    obtain ⟨⟨⟨⟨rfl, h2⟩, h3⟩, h4⟩, h5⟩ := h
    exact k_popAt ok h2 h3 h4 (sE ok _ _ h5)
  · simp only [Bool.and_eq_true, decide_eq_true_eq] at h
    obtain ⟨⟨⟨⟨⟨h1, rfl⟩, h2⟩, h3⟩, h4⟩, h5⟩ := h
    exact k_hpop h2 h1 h3 (sP ok _ _ h4) (sE ok _ _ h5)
  · exact k_newH (sL ok _ _ h)
  · exact k_newHD (sD ok _ _ h)
  · exact k_neverE
  · cases h
termination_by 2 * sizeOf e + 1
theorem sA {X : Cx} {C : Ctx} (ok : Cok X C c) (es : Es) (xs : List Expr) (h : chkEs C es xs = true) : PA X xs (tEs En c es) := by
  unfold chkEs at h
  split at h
  · exact k_nilA
  · simp only [Bool.and_eq_true] at h
    exact k_consA h.1.1 (sE ok _ _ h.1.2) (sA ok _ _ h.2)
  · cases h
termination_by 2 * sizeOf es + 1
theorem sP {X : Cx} {C : Ctx} (ok : Cok X C c) (p : P) (x : Expr) (h : chkP C p x = true) : PE X x (tP En c p) := by
  unfold chkP at h
  split at h
  · exact k_pE (sE ok _ _ h)
  · exact k_pS ok h
  · exact k_pL (sL ok _ _ h)
  · exact k_pD (sD ok _ _ h)
  · cases h
termination_by 2 * sizeOf p + 1
theorem sW {X : Cx} {C : Ctx} (ok : Cok X C c) (t : T) (x : Expr) (hx : isBoolOp x = true) (h : chkT C t x = true) : PW X x (tT En c t) := by
  unfold chkT at h
  split at h
  · simp only [Bool.and_eq_true] at h
    have := h.1
    cases x <;> first | (cases hx; done) | (cases this; done)
  · simp only [Bool.and_eq_true] at h
    have := h.1
    cases x <;> first | (cases hx; done) | (cases this; done)
  · cases hx
  · cases hx
  · simp only [Bool.and_eq_true] at h
    exact k_andT (sT ok _ _ h.1) (sW ok _ _ rfl h.2)
  · simp only [Bool.and_eq_true] at h
    exact k_orT (sT ok _ _ h.1) (sW ok _ _ rfl h.2)
  · exact k_oneT (sT ok _ _ h)
  · cases hx
  · cases h
termination_by 2 * sizeOf t
theorem sT {X : Cx} {C : Ctx} (ok : Cok X C c) (t : T) (x : Expr) (h : chkT C t x = true) : PT X x (tT En c t) := by
  by_cases hx : isBoolOp x = true
  · exact (sW ok t x hx h).pt
  unfold chkT at h
  split at h
  · simp only [Bool.and_eq_true] at h
    exact k_val h.1 (sE ok _ _ h.2)
  · simp only [Bool.and_eq_true] at h
    exact k_tru h.1 (sP ok _ _ h.2)
  · simp only [Bool.and_eq_true, decide_eq_true_eq, Bool.not_eq_true'] at h
    obtain ⟨⟨⟨rfl, h2⟩, h3⟩, h4⟩ := h
    exact k_cmpT ok h2 (sP ok _ _ h3) (sP ok _ _ h4)
  · simp only [Bool.and_eq_true, decide_eq_true_eq, Bool.not_eq_true'] at h
    obtain ⟨⟨⟨⟨⟨rfl, rfl⟩, h2⟩, h3⟩, h4⟩, h5⟩ := h
    exact k_chnT ok h2 (sE ok _ _ h3) (sE ok _ _ h4) (sE ok _ _ h5)
  · exact absurd rfl hx
  · exact absurd rfl hx
  · exact absurd rfl hx
  · exact k_notT (sT ok _ _ h)
  · cases h
termination_by 2 * sizeOf t + 1
theorem sL {X : Cx} {C : Ctx} (ok : Cok X C c) (l : L) (x : Expr) (h : chkL C l x = true) : PE X x (tL En c l) := by
  unfold chkL at h
  split at h
  · simp only [Bool.and_eq_true, decide_eq_true_eq] at h
    exact k_disp h.1 h.2 (sA ok _ _ h.2)
  · simp only [Bool.and_eq_true, decide_eq_true_eq] at h
    obtain ⟨⟨⟨⟨⟨⟨⟨rfl, h1⟩, h2⟩, h3⟩, h4⟩, h5⟩, h6⟩, h7⟩ := h
    exact k_comp ok h1 h2 h3 (sI ok _ _ _ h4) (fun s H D cl fp => g_tg (ok.blk s H D cl fp) h5) (fun s H D cl fp => sC (ok.blk s H D cl fp) _ _ h6) fun s H D cl fp => sE (ok.blk s H D cl fp) _ _ h7
  · simp only [Bool.and_eq_true, decide_eq_true_eq] at h
    obtain ⟨⟨⟨rfl, h2⟩, h3⟩, h4⟩ := h
    exact k_ofP ok h2 h3 (sP ok _ _ h4)
  · simp only [Bool.and_eq_true, decide_eq_true_eq] at h
    obtain ⟨⟨⟨⟨⟨⟨⟨rfl, h2⟩, rfl⟩, h3⟩, h4⟩, h5⟩, h6⟩, h7⟩ := h
    exact k_zip ok h2 h3 h4 h5 (sP ok _ _ h6) (sP ok _ _ h7)
  · simp only [Bool.and_eq_true] at h
    exact k_cat (sP ok _ _ h.1) (sP ok _ _ h.2)
  · simp only [Bool.and_eq_true] at h
    exact k_sl (sP ok _ _ h.1.1) (sO ok _ _ h.1.2) (sO ok _ _ h.2)
  · simp only [Bool.and_eq_true] at h
    exact k_slS (sP ok _ _ h.1.1) (sE ok _ _ h.1.2) (sE ok _ _ h.2)
  · cases h
termination_by 2 * sizeOf l + 1
theorem sD {X : Cx} {C : Ctx} (ok : Cok X C c) (l : Dt) (x : Expr) (h : chkD C l x = true) : PE X x (tD En c l) := by
  unfold chkD at h
  split at h
  · exact k_dnil
  · simp only [Bool.and_eq_true, decide_eq_true_eq] at h
    obtain ⟨⟨⟨⟨⟨⟨⟨rfl, h1⟩, h2⟩, h3⟩, h4⟩, h5⟩, h6⟩, h7⟩ := h
    exact k_dcomp ok h1 h2 h3 (sI ok _ _ _ h4) (fun s H D cl fp => g_tg (ok.blk s H D cl fp) h5) (fun s H D cl fp => sE (ok.blk s H D cl fp) _ _ h6) fun s H D cl fp => sE (ok.blk s H D cl fp) _ _ h7
  · cases h
termination_by 2 * sizeOf l + 1
theorem sI {X : Cx} {C : Ctx} (ok : Cok X C c) (it : It) (tg x : Expr) (h : chkI C it tg x = true) : PI X tg x (tI En c it) := by
  unfold chkI at h
  split at h
  · exact k_itP ok (sP ok _ _ h)
  · exact k_itO ok h
  · simp only [Bool.and_eq_true, decide_eq_true_eq] at h
    obtain ⟨⟨⟨rfl, h2⟩, h3⟩, h4⟩ := h
    exact k_rng1 ok h2 h3 (sE ok _ _ h4)
  · simp only [Bool.and_eq_true, decide_eq_true_eq] at h
    obtain ⟨⟨⟨⟨⟨rfl, h2⟩, h3⟩, h4⟩, h5⟩, h6⟩ := h
    exact k_rng2 ok h2 h3 h4 (sE ok _ _ h5) (sE ok _ _ h6)
  · simp only [Bool.and_eq_true, decide_eq_true_eq] at h
    obtain ⟨⟨⟨⟨h1, rfl⟩, h2⟩, h3⟩, h4⟩ := h
    cases tg <;> first | (cases h1; done) | exact k_enum ok h2 h3 (sP ok _ _ h4)
  · simp only [Bool.and_eq_true, decide_eq_true_eq] at h
    obtain ⟨⟨⟨⟨⟨⟨h1, rfl⟩, h2⟩, h3⟩, h4⟩, h5⟩, h6⟩ := h
    cases tg <;> first | (cases h1; done) | exact k_zipI ok h2 h3 h4 (sP ok _ _ h5) (sP ok _ _ h6)
  · simp only [Bool.and_eq_true, decide_eq_true_eq] at h
    obtain ⟨⟨⟨⟨h1, h0⟩, rfl⟩, h2⟩, h3⟩ := h
    cases tg <;> first | (cases h1; done) | exact k_items h2 h0 (sP ok _ _ h3)
  · cases h
termination_by 2 * sizeOf it + 1
theorem sO {X : Cx} {C : Ctx} (ok : Cok X C c) (o : O) (x : Option Expr) (h : chkO C o x = true) : PO X x (tO En c o) := by
  unfold chkO at h
  split at h
  · exact k_oNo
  · exact k_oE (sE ok _ _ h)
  · cases h
termination_by 2 * sizeOf o + 1
theorem sC {X : Cx} {C : Ctx} (ok : Cok X C c) (t : C1) (xs : List Expr) (h : chkC C t xs = true) : PTs X xs (tC1 En c t) := by
  unfold chkC at h
  split at h
  · exact k_noC
  · exact k_tC (sT ok _ _ h)
  · cases h
termination_by 2 * sizeOf t + 1
end
end
end Px
/-! Px5: statements. -/
namespace Px
open PySem PySem.Spec L2
variable [KS]
/-- what is wanted behind a statement that ends so -/
def endW (D : Ends) (σ : St) (Z : Addr → Prop) (A : List Addr) (H : Hp) : Fl → Prop
  | .nx => D.nx σ H
  | .bk => D.bk σ H
  | .ct => D.ct σ H
  | .rt d => ∀ v, Rp Z A H d v → D.rt v H
def PoS (En : Sn) (S : ES) (Z : Addr → Prop) (A : List Addr) (σ : St) (H : Hp) (f : Fl) (S' : ES) (D : Ends) : Prop :=
  ∀ (σ' : St) (Z' : Addr → Prop) (A' : List Addr) (H' : Hp), Step (sn S Z A σ H) (sn S' Z' A' σ' H') → Rl En S' Z' A' σ' H' → endW D σ' Z' A' H' f
def tS (En : Sn) (c : CallF) (s : S) : TS := fun D σ H => ∃ S0 Z A f S', exS c s S0 = some (f, S') ∧ Rl En S0 Z A σ H ∧ PoS En S0 Z A σ H f S' D
def tB (En : Sn) (c : CallF) (b : B) : TS := fun D σ H => ∃ S0 Z A f S', exB c b S0 = some (f, S') ∧ Rl En S0 Z A σ H ∧ PoS En S0 Z A σ H f S' D
section
variable {X : Cx} {C : Ctx} {c : CallF} {En : Sn} {pos pos1 pos2 pos3 : Pos} {S S1 S2 : ES} {Z Z1 Z2 : Addr → Prop} {A A1 A2 : List Addr} {σ σ1 : St} {H H1 H2 : Hp}
theorem PoS.after {f : Fl} {D : Ends} (st : Step (sn S Z A σ H) (sn S1 Z1 A1 σ1 H1)) (q : PoS En S Z A σ H f S2 D) : PoS En S1 Z1 A1 σ1 H1 f S2 D := fun σ' Z' A' H' s R => q σ' Z' A' H' (st.trans s) R
theorem mS {st : Stmt} {t t' : TS} (h : PS X st t) (m : ∀ D σ H, t' D σ H → t D σ H) : PS X st t' := ⟨fun pins s σ H D I q => h.run pins s σ H D I (m D σ H q)⟩
theorem sw_plain {v : Expr} (h : notComp v = true) (t : Option Expr) (l : Nat) (env : Env) : swapsWith v t l env = pure false := by
  cases v <;> first | rfl | cases h
theorem swapB_ok (ok : Cok X C c) (kd : C.sc.kind = .function) {t v : Expr} {o : Option (List Str)} (h : swapB C t v = some o) : swappedStores [t] v X.env = pure o := by
  have hk : ∀ id, X.env.kindOf id = C.sc.names.lookup id := fun id => by show X.env.scope.names.lookup id = _; rw [ok.sc]
  have hb : X.env.blockKind = .function := by unfold Env.blockKind; rw [ok.sc, kd]; rfl
  have triv : (o = none) → ((∀ ts k p vs k2 p2, t = .Tuple ts k p → v = .Tuple vs k2 p2 → False) ∧ (∀ ts p vs k2 p2, t = .List ts p → v = .Tuple vs k2 p2 → False)) → swappedStores [t] v X.env = pure o := by
    intro e q
    subst e
    cases t <;> first | rfl | skip
    all_goals (cases v <;> first | rfl | skip)
    · exact (q.2 _ _ _ _ _ rfl rfl).elim
    · exact (q.1 _ _ _ _ _ _ rfl rfl).elim
  unfold swapB at h
  split at h
  · rename_i ts k p vs k2 p2
    unfold swappedStores
    have e1 : (fun x => match x with | Expr.Starred .. => true | _ => false) = isStar := by
      funext x
      cases x <;> rfl
    simp only [pure_bind, hb]
    split at h
    · rename_i hc
      cases h
      have hc' : (!(ts.length == 2 || ts.length == 3) || vs.length != ts.length || (ScopeKind.function != ScopeKind.function)) = true := by rw [hc]; rfl
      simp only [hc', if_true]
    · rename_i hc
      have hc' : ¬ (!(ts.length == 2 || ts.length == 3) || vs.length != ts.length || (ScopeKind.function != ScopeKind.function)) = true := by
        intro q
        rw [Bool.or_eq_true] at q
        rcases q with q | q
        · exact hc q
        · exact absurd q (by decide)
      rw [if_neg hc']
      have hA : ∀ f : Expr → Bool, (∀ x, f x = isStar x) → vs.any f = vs.any isStar := fun f q => by rw [funext q]
      rw [hA _ (fun x => by cases x <;> rfl)]
      split at h
      · rename_i hs
        cases h
        rw [if_pos hs]
      · rename_i hs
        rw [if_neg hs]
        generalize (Option.map (fun x => x.pos.line) ts.head?).getD 0 = line at h ⊢
        have hF : ∀ f : Expr → Option Str, (∀ x, f x = nameAt C line x) → ts.filterMap f = ts.filterMap (nameAt C line) := fun f q => by rw [funext q]
        simp only [hk]
        rw [hF _ (fun x => by cases x <;> rfl)]
        dsimp only at h
        generalize ts.filterMap (nameAt C line) = names at h ⊢
        split at h
        · rename_i hn
          cases h
          rw [if_pos hn]
        · rename_i hn
          rw [if_neg hn]
          split at h
          · rename_i hf
            cases h
            rw [if_pos hf]
          · rename_i hf
            rw [if_neg hf]
            split at h
            · cases h
            · rename_i hg
              cases h
              rw [if_neg hg]
  · cases h
  · rename_i h1 h2
    cases h
    exact triv rfl ⟨fun ts k p vs k2 p2 e1 e2 => h1 _ _ _ _ _ _ e1 e2, fun ts p vs k2 p2 e1 e2 => h2 _ _ _ _ _ e1 e2⟩

/-! ### stores -/
theorem k_asg (ok : Cok X C c) (kd : C.sc.kind = .function) {tg : Tg} {e : E} {t v : Expr} (hn : notComp v = true) (ht : isTup t = true ∨ isName t = true) (hs : swapB C t v = some none) (hg : chkTg C tg t = true) (he : PE X v (tE En c e)) : PS X (.Assign [t] v pos) (tS En c (.asg tg e)) := by
  have h1 : (assignEach [t] X.env).map (·.2) = [assign t X.env] := by
    rcases ht with ht | ht
    · cases t <;> first | rfl | cases ht
    · cases t <;> first | rfl | cases ht
  refine mS (ps_asg he (g_tg (En := En) ok hg) (sw_plain hn _ _ _) (swapB_ok ok kd hs) h1) fun D σ H w => ?_
  obtain ⟨S, Z, A, f, S', e1, R, k⟩ := w
  simp only [exS] at e1
  split at e1
  · cases e1
  rename_i d S1 e2
  split at e1
  · cases e1
  rename_i r e3
  cases e1
  exact ⟨S, Z, A, d, S1, e2, R, fun v1 Z1 A1 H1 st1 R1 r1 => ⟨S1, Z1, A1, d, r, e3, R1, r1, fun σ' hl hj st2 R2 => k _ _ _ _ (st1.trans st2) R2⟩⟩
theorem setO_step {i : Nat} {b : Ob} {p : Addr} (hi : i < S1.r.length) (hl : S1.r.length = σ.length) (st : Step (sn S Z A σ H) (sn S1 Z1 A1 σ H1)) (f : H p = none) : Step (sn S Z A σ H) (sn { S1 with r := S1.r.set i (.own b) } Z1 A1 (σ.set i (some (.ref p))) H1) := by
  refine ⟨st.keep, st.pre, fun a w => ?_, st.liv⟩
  rcases w with w | w
  · exact st.nw a (.inl w)
  · obtain ⟨j, s, h1, h2, h3⟩ := w
    have h1 : (S1.r.set i (.own b))[j]? = some s := h1
    by_cases e : i = j
    · subst e
      rw [List.getElem?_set_self (by rw [← hl]; exact hi)] at h3
      cases h3
      exact .inr f
    · rw [List.getElem?_set_ne e] at h1 h3
      exact st.nw a (.inr ⟨j, s, h1, h2, h3⟩)
/-- a new object goes to a name -/
theorem setO_read {i : Nat} {b : Ob} {D : Ends} (R0 : Rl En S Z A σ H) (hi : i < S1.r.length) (k : PoS En S Z A σ H .nx { S1 with r := S1.r.set i (.own b) } D) : PoL En S Z A σ H b S1 (fun x H1 => gName i x σ H1 D.nx) := fun p Z1 A1 H1 st R z nw f' ob =>
  k _ _ _ _ (setO_step hi R.slen st f') (R.setO hi z nw (R0.freshE f') ob)
theorem k_asgL (ok : Cok X C c) {i : Nat} {l : L} {x : Str} {v : Expr} (hl : locB C i x = true) (hn : swapsWith v (some (.Name x pos1)) pos.line X.env = pure false) (hv : PE X v (tL En c l)) : PS X (.Assign [.Name x pos1] v pos) (tS En c (.asgL i l)) := by
  obtain ⟨h1, h2, h3⟩ := ok.loc hl
  refine mS (ps_set ok.ndN h1 h2 hv hn h3) fun D σ H w => ?_
  obtain ⟨S, Z, A, f, S', e1, R, k⟩ := w
  simp only [exS] at e1
  split at e1
  · cases e1
  rename_i ds S1 e2
  split at e1
  · rename_i hi
    cases e1
    exact ⟨S, Z, A, ds, S1, e2, R, setO_read R hi k⟩
  · cases e1
theorem k_asgD (ok : Cok X C c) {i : Nat} {l : Dt} {x : Str} {v : Expr} (hl : locB C i x = true) (hn : swapsWith v (some (.Name x pos1)) pos.line X.env = pure false) (hv : PE X v (tD En c l)) : PS X (.Assign [.Name x pos1] v pos) (tS En c (.asgD i l)) := by
  obtain ⟨h1, h2, h3⟩ := ok.loc hl
  refine mS (ps_set ok.ndN h1 h2 hv hn h3) fun D σ H w => ?_
  obtain ⟨S, Z, A, f, S', e1, R, k⟩ := w
  simp only [exS] at e1
  split at e1
  · cases e1
  rename_i ds S1 e2
  split at e1
  · rename_i hi
    cases e1
    exact ⟨S, Z, A, ds, S1, e2, R, setO_read R hi k⟩
  · cases e1
/-- .. a comprehension whose names are exchanged with the frame's -/
theorem k_asgLc (ok : Cok X C c) {i : Nat} {x : E} {tg : Tg} {it : It} {c1 : C1} {own : List (Str × Nat)} {y : Str} {elt t iter : Expr} {ifs : List Expr} {scope : Scope} (hl : locB C i y = true) (hyl : X.env.scope.names.lookup y = some .local)
    (hsw : swapsWith (.ListComp elt [⟨t, iter, ifs, 0⟩] scope pos2) (some (.Name y pos1)) pos.line X.env = pure true) (hb : blkC C.N C.sc scope own = true) (hs : subIx (tgIx tg) (own.map (·.2)) = true) (hn : noSet iter = true) (hi : PI X t iter (tI En c it))
    (hg : ∀ (s : Shared) (H : Hp) (D : Addr) (cl : List (Str × Addr)) (fp : List Addr), PG (X.blk s H scope (compEnvC scope cl D X.env) fp) t (tG En tg)) (ht : ∀ (s : Shared) (H : Hp) (D : Addr) (cl : List (Str × Addr)) (fp : List Addr), PTs (X.blk s H scope (compEnvC scope cl D X.env) fp) ifs (tC1 En c c1))
    (he : ∀ (s : Shared) (H : Hp) (D : Addr) (cl : List (Str × Addr)) (fp : List Addr), PE (X.blk s H scope (compEnvC scope cl D X.env) fp) elt (tE En c x)) : PS X (.Assign [.Name y pos1] (.ListComp elt [⟨t, iter, ifs, 0⟩] scope pos2) pos) (tS En c (.asgL i (.comp x tg it c1 own))) := by
  obtain ⟨h1, h2, h3⟩ := ok.loc hl
  have hbk : BlkOk X.N X.env.scope scope own := blkOk_by (by rw [ok.N, ok.sc]; exact hb)
  refine mS (ps_setLc ok.calm ok.ndN h1 hyl hsw hi hbk hg ht he fun v => k_comp.set_no hn v) fun D σ H w => ?_
  obtain ⟨S, Z, A, f, S', e1, R, k⟩ := w
  simp only [exS] at e1
  split at e1
  · cases e1
  rename_i ds S1 e2
  split at e1
  · rename_i hi
    cases e1
    exact lc_read hs ⟨S, Z, A, ds, S1, e2, R, setO_read R hi k⟩
  · cases e1
theorem ps_setDc {i : Nat} {y : Str} {py : Pos} {kx vx tg iter : Expr} {scope : Scope} {own : List (Str × Nat)} {spos : Pos} {wi : TI} {g : TG} {tt : TT} {tk tv : TE} (hc : X.calm = true) (hN : X.N.Nodup) (hy : X.N[i]? = some y) (hyl : X.env.scope.names.lookup y = some .local)
    (hsw : swapsWith (.DictComp kx vx [⟨tg, iter, [], 0⟩] scope pos) (some (.Name y py)) spos.line X.env = pure true) (hi : PI X tg iter wi) (ok : BlkOk X.N X.env.scope scope own)
    (hg : ∀ (s : Shared) (H : Hp) (C : Addr) (cl : List (Str × Addr)) (fp : List Addr), PG (X.blk s H scope (compEnvC scope cl C X.env) fp) tg g) (ht : ∀ (s : Shared) (H : Hp) (C : Addr) (cl : List (Str × Addr)) (fp : List Addr), PTs (X.blk s H scope (compEnvC scope cl C X.env) fp) [] tt)
    (hk : ∀ (s : Shared) (H : Hp) (C : Addr) (cl : List (Str × Addr)) (fp : List Addr), PE (X.blk s H scope (compEnvC scope cl C X.env) fp) kx tk)
    (he : ∀ (s : Shared) (H : Hp) (C : Addr) (cl : List (Str × Addr)) (fp : List Addr), PE (X.blk s H scope (compEnvC scope cl C X.env) fp) vx tv) (hs : ∀ x, foldedSetIterable iter X.env x = pure x) :
    PS X (.Assign [.Name y py] (.DictComp kx vx [⟨tg, iter, [], 0⟩] scope pos) spos) (tAsg (tDc wi g tt tk tv (own.map (·.2))) (gName i)) := by
  refine ⟨fun pins s σ H D I h => ?_⟩
  rw [exec_Assign_Name_used _ _ _ _ hsw]
  refine wpAny_bind (wpAny_standAt (wpAny_bind ?_))
  show wpAny _ X.A (do let _ ← comprehension (.DictComp kx vx [⟨tg, iter, [], 0⟩] scope pos) scope X.env (firstIterPos [⟨tg, iter, [], 0⟩] pos) newDict false (eval iter X.env) (some (assign (.Name y py) X.env))) _ _ s
  have h : tDc wi g tt tk tv (own.map (·.2)) σ H (fun x H1 => gName i x σ H1 D.nx) := h
  refine wpAny_bind (thn (dc_core (Qf := fun _ s' => SP X pins D .next s') hc hN I hi ok hg ht hk he hs h fun L C s' m H' I' q hn f => ?_) fun _ s' hq => wpAny_pure (wpAny_pure hq))
  show wpAny _ _ (assign (.Name y py) X.env (.ref L)) _ _ _
  refine wpAny_assign_Name (store_ok2 (v := V.ref L) I' hN hy (.inl hyl) rfl (fun s2 I2 ⟨a, sb, ha⟩ => ?_) (.inr hyl))
  obtain ⟨f0, f1, f2, f3, f4, f5⟩ := f
  have haC : C ≠ a := by
    rcases ha with z | z
    · rw [z]; exact f1
    · exact fun e => f4 y a z e.symm
  refine ⟨m, hn.sameBut sb haC, fun h3 sb3 => ?_⟩
  exact ⟨_, H', I2.turned (t' := s2.toks) (fun b o hb e => (sb3.2 b hb).trans e) f0 f1 f3 f4 f5, q⟩
theorem k_asgDc (ok : Cok X C c) {i : Nat} {kx vx : E} {tg : Tg} {it : It} {own : List (Str × Nat)} {y : Str} {ke ve t iter : Expr} {scope : Scope} (hl : locB C i y = true) (hyl : X.env.scope.names.lookup y = some .local)
    (hsw : swapsWith (.DictComp ke ve [⟨t, iter, [], 0⟩] scope pos2) (some (.Name y pos1)) pos.line X.env = pure true) (hb : blkC C.N C.sc scope own = true) (hs : subIx (tgIx tg) (own.map (·.2)) = true) (hn : noSet iter = true) (hi : PI X t iter (tI En c it))
    (hg : ∀ (s : Shared) (H : Hp) (D : Addr) (cl : List (Str × Addr)) (fp : List Addr), PG (X.blk s H scope (compEnvC scope cl D X.env) fp) t (tG En tg)) (hk : ∀ (s : Shared) (H : Hp) (D : Addr) (cl : List (Str × Addr)) (fp : List Addr), PE (X.blk s H scope (compEnvC scope cl D X.env) fp) ke (tE En c kx))
    (he : ∀ (s : Shared) (H : Hp) (D : Addr) (cl : List (Str × Addr)) (fp : List Addr), PE (X.blk s H scope (compEnvC scope cl D X.env) fp) ve (tE En c vx)) : PS X (.Assign [.Name y pos1] (.DictComp ke ve [⟨t, iter, [], 0⟩] scope pos2) pos) (tS En c (.asgD i (.comp kx vx tg it own))) := by
  obtain ⟨h1, h2, h3⟩ := ok.loc hl
  have hbk : BlkOk X.N X.env.scope scope own := blkOk_by (by rw [ok.N, ok.sc]; exact hb)
  refine mS (ps_setDc ok.calm ok.ndN h1 hyl hsw hi hbk hg (fun _ _ _ _ _ => pts_nil) hk he fun v => k_comp.set_no hn v) fun D σ H w => ?_
  obtain ⟨S, Z, A, f, S', e1, R, k⟩ := w
  simp only [exS] at e1
  split at e1
  · cases e1
  rename_i ds S1 e2
  split at e1
  · rename_i hi
    cases e1
    exact dc_read hs ⟨S, Z, A, ds, S1, e2, R, setO_read R hi k⟩
  · cases e1
/-- is a comprehension's value exchanged? -/
theorem sw_comp {elt : Expr} {gs : List Comprehension} {scope : Scope} {y : Str} {l : Nat} {env : Env} : ∃ b, swapsWith (.ListComp elt gs scope pos2) (some (.Name y pos1)) l env = pure b ∧ (b = true → env.scope.names.lookup y = some .local) := by
  refine ⟨_, rfl, fun h => ?_⟩
  simp only [Bool.and_eq_true] at h
  exact eq_of_beq h.1.1.2
theorem sw_dcomp {ke ve : Expr} {gs : List Comprehension} {scope : Scope} {y : Str} {l : Nat} {env : Env} : ∃ b, swapsWith (.DictComp ke ve gs scope pos2) (some (.Name y pos1)) l env = pure b ∧ (b = true → env.scope.names.lookup y = some .local) := by
  refine ⟨_, rfl, fun h => ?_⟩
  simp only [Bool.and_eq_true] at h
  exact eq_of_beq h.1.1.2
theorem s_asgL (ok : Cok X C c) {i : Nat} {l : L} {x : Str} {v : Expr} (hl : locB C i x = true) (hv : chkL C l v = true) : PS X (.Assign [.Name x pos1] v pos) (tS En c (.asgL i l)) := by
  by_cases hn : notComp v = true
  · exact k_asgL ok hl (sw_plain hn _ _ _) (sL ok _ _ hv)
  cases v with
  | ListComp elt gs scope pos2 =>
    obtain ⟨b, hb, hy⟩ := sw_comp (elt := elt) (gs := gs) (scope := scope) (pos2 := pos2) (pos1 := pos1) (y := x) (l := pos.line) (env := X.env)
    cases b with
    | false => exact k_asgL ok hl hb (sL ok _ _ hv)
    | true =>
      unfold chkL at hv
      split at hv
      · rename_i q; cases q
      · rename_i q
        cases q
        simp only [Bool.and_eq_true, decide_eq_true_eq] at hv
        obtain ⟨⟨⟨⟨⟨⟨⟨rfl, h1⟩, h2⟩, h3⟩, h4⟩, h5⟩, h6⟩, h7⟩ := hv
        exact k_asgLc ok hl (hy rfl) hb h1 h2 h3 (sI ok _ _ _ h4) (fun s H D cl fp => g_tg (ok.blk s H D cl fp) h5) (fun s H D cl fp => sC (ok.blk s H D cl fp) _ _ h6) fun s H D cl fp => sE (ok.blk s H D cl fp) _ _ h7
      all_goals first | (rename_i q; cases q; done) | cases hv
  | _ => first | exact absurd rfl hn | (cases l <;> simp [chkL] at hv)
theorem s_asgD (ok : Cok X C c) {i : Nat} {l : Dt} {x : Str} {v : Expr} (hl : locB C i x = true) (hv : chkD C l v = true) : PS X (.Assign [.Name x pos1] v pos) (tS En c (.asgD i l)) := by
  by_cases hn : notComp v = true
  · exact k_asgD ok hl (sw_plain hn _ _ _) (sD ok _ _ hv)
  cases v with
  | DictComp ke ve gs scope pos2 =>
    obtain ⟨b, hb, hy⟩ := sw_dcomp (ke := ke) (ve := ve) (gs := gs) (scope := scope) (pos2 := pos2) (pos1 := pos1) (y := x) (l := pos.line) (env := X.env)
    cases b with
    | false => exact k_asgD ok hl hb (sD ok _ _ hv)
    | true =>
      unfold chkD at hv
      split at hv
      · rename_i q; cases q
      · rename_i q
        cases q
        simp only [Bool.and_eq_true, decide_eq_true_eq] at hv
        obtain ⟨⟨⟨⟨⟨⟨⟨rfl, h1⟩, h2⟩, h3⟩, h4⟩, h5⟩, h6⟩, h7⟩ := hv
        exact k_asgDc ok hl (hy rfl) hb h1 h2 h3 (sI ok _ _ _ h4) (fun s H D cl fp => g_tg (ok.blk s H D cl fp) h5) (fun s H D cl fp => sE (ok.blk s H D cl fp) _ _ h6) fun s H D cl fp => sE (ok.blk s H D cl fp) _ _ h7
      all_goals first | (rename_i q; cases q; done) | cases hv
  | _ => first | exact absurd rfl hn | (cases l <;> simp [chkD] at hv)
end
end Px
/-! Px6: the other statements. -/
namespace Px
open PySem PySem.Spec PyProof.Rows L2
variable [KS]
section
variable {X : Cx} {C : Ctx} {c : CallF} {En : Sn} {pos pos1 pos2 pos3 : Pos}
/-! ### names stored from the right -/
theorem swapB_len {C : Ctx} {ts vs : List Expr} {k k2 : Nat} {p p2 : Pos} {names : List Str} (h : swapB C (.Tuple ts k p) (.Tuple vs k2 p2) = some (some names)) : vs.length = names.length ∧ (vs.length = 2 ∨ vs.length = 3) := by
  unfold swapB at h
  dsimp only at h
  split at h
  · cases h
  rename_i h1
  split at h
  · cases h
  split at h
  · cases h
  rename_i h3
  split at h
  · cases h
  split at h
  · cases h
  have h4 := Option.some.inj (Option.some.inj h)
  rw [h4] at h3
  simp only [Bool.or_eq_true, bne_iff_ne, ne_eq, Bool.not_eq_true', not_or, Bool.not_eq_false, beq_iff_eq, Decidable.not_not] at h1 h3
  refine ⟨by omega, ?_⟩
  rcases h1.1 with q | q
  · left; omega
  · right; omega
theorem bind_all (ok : Cok X C c) {s1 : Sn} {pins : List (Addr × Obj)} {Z : Addr → Prop} {A : List Addr} {H : Hp} {sto : Sto} {Q : Unit → Shared → Prop} : ∀ (is : List Nat) (xs : List Str) (us : List Value) (vs : List V) (ds : List D) (r r' : List Sl) (σ : L2.St) (s : Shared), parB C is xs = true → Vals vs us → asgTgs (tgsOf is) ds r = some r' →
    Rl En ⟨r, sto⟩ Z A σ H → Step s1 (sn ⟨r, sto⟩ Z A σ H) → Rps Z A H ds vs → Inv X pins σ H s → (∀ σ' s', Inv X pins σ' H s' → Step s1 (sn ⟨r', sto⟩ Z A σ' H) → Rl En ⟨r', sto⟩ Z A σ' H → Q () s') →
    wpAny (model X.prog X.w) X.A (assignInOrder (xs.map fun n => bindName X.env n) us) Q X.xe s
  | [], [], us, vs, ds, r, r', σ, s, _, rv, e, R, st, rd, I, k => by
    cases ds with
    | cons _ _ => simp [tgsOf, asgTgs] at e
    | nil =>
      cases rd
      cases rv
      simp only [tgsOf, asgTgs] at e
      cases e
      exact assignInOrder_nil (k σ s I st R)
  | [], _ :: _, _, _, _, _, _, _, _, h, _, _, _, _, _, _, _ => by simp [parB] at h
  | _ :: _, [], _, _, _, _, _, _, _, h, _, _, _, _, _, _, _ => by simp [parB] at h
  | i :: is, x :: xs, us, vs, ds, r, r', σ, s, h, rv, e, R, st, rd, I, k => by
    simp only [parB, Bool.and_eq_true, decide_eq_true_eq] at h
    cases ds with
    | nil => simp [tgsOf, asgTgs] at e
    | cons d ds =>
      cases rd with
      | @cons _ v0 _ _ r1 r2 =>
        cases rv with
        | cons v1 v2 =>
          simp only [tgsOf, asgTgs, asgTg] at e
          split at e
          · rename_i rm hm
            split at hm
            · rename_i hi
              cases hm
              obtain ⟨h1, h2, h3⟩ := ok.loc h.1.1
              refine assignInOrder_cons (wpAny_bindName (store_ok I ok.ndN h1 h2 v1 (fun s' I' => ?_) h3))
              have stp := setV_step (d := d) (v := v0) R hi
              exact bind_all ok is xs _ _ ds _ r' _ s' h.2 v2 e (R.setV hi r1) (st.trans stp) (r2.step stp R.wz) I' k
            · cases hm
          · cases e
theorem k_par (ok : Cok X C c) (kd : C.sc.kind = .function) {ns : List Nat} {es : Es} {ts vs : List Expr} {k k2 : Nat} {p p2 : Pos} {names : List Str} (hs : swapB C (.Tuple ts k p) (.Tuple vs k2 p2) = some (some names)) (hp : parB C ns.reverse names.reverse = true) (hc : chkEs C es vs = true) (he : PA X vs (tEs En c es)) :
    PS X (.Assign [.Tuple ts k p] (.Tuple vs k2 p2) pos) (tS En c (.par ns es)) := by
  refine ⟨fun pins s σ H D I w => ?_⟩
  obtain ⟨S, Z, A, f, S', e1, R, kk⟩ := w
  simp only [exS] at e1
  split at e1
  · cases e1
  rename_i ds S1 e2
  split at e1
  · cases e1
  rename_i r e3
  cases e1
  obtain ⟨hl, h23⟩ := swapB_len hs
  have hln := evs_len hc e2
  rw [exec_Assign_arm]
  refine wpAny_bind (wpAny_standAt ?_)
  rw [show swapsWithSole [.Tuple ts k p] (.Tuple vs k2 p2) pos.line X.env = pure false from rfl]
  refine wpAny_bind (wpAny_pure ?_)
  rw [if_neg (by decide)]
  refine wpAny_bind (Tuple_ (thn (he.run _ pins s σ H (fun vs1 H1 => ∃ Z1 A1, Step (sn S Z A σ H) (sn S1 Z1 A1 σ H1) ∧ Rl En S1 Z1 A1 σ H1 ∧ Rps Z1 A1 H1 ds vs1) I ⟨S, Z, A, ds, S1, e2, R, fun vs1 Z1 A1 H1 st R r => ⟨Z1, A1, st, R, r⟩⟩) fun us s1 ⟨vs1, H1, I1, r1, Z1, A1, st1, R1, rd⟩ => ?_))
  have hus : us.length = names.length := by rw [← r1.length, ← rd.length, hln, hl]
  refine wpAny_newObj_type ?_ (by
    show us.toArray.size ≤ sizeLine
    have := sizeLine_eq
    rw [List.size_toArray]
    omega)
  have I2 : Inv X pins σ H1 { s1 with heap := s1.heap.push { cls := .type "tuple", data := .seq us.toArray } } := I1.kept (t' := s1.toks) fun b o e => Heap.get?_push_of_some _ e
  rw [swapB_ok ok kd hs]
  refine wpAny_bind (wpAny_pure ?_)
  show wpAny (model X.prog X.w) X.A (do rule "assign.swapped-stores"; let items ← unpackItems (.ref s1.heap.objs.size) names.length none; assignInOrder (names.reverse.map fun n => bindName X.env n) items.reverse; pure Flow.next) _ _ _
  refine wpAny_bind (wpAny_rule (wpAny_bind ?_))
  rw [show names.length = us.toArray.size by rw [List.size_toArray, hus]]
  refine unpackItems_tuple (items := us.toArray) (I.ok.hd ok.calm) (IsTup.new s1.heap _) fun h' hx' => ?_
  have I3 := I2.kept (h' := h') (t' := s1.toks) fun b o e => hx' b o (Nat.ne_of_lt (Heap.lt_size e)) e
  refine wpAny_bind (bind_all ok (s1 := sn S1 Z1 A1 σ H1) ns.reverse names.reverse us.toArray.toList.reverse vs1.reverse ds.reverse S1.r r σ _ hp ?_ e3 R1 (Step.refl _) rd.reverse I3 fun σ' s' I' st' R' => wpAny_pure ?_)
  · show Vals vs1.reverse us.reverse
    exact L2.Vals.reverse r1
  · exact ⟨σ', H1, I', kk _ _ _ _ (st1.trans st') R'⟩

/-! ### values dropped, lists and dicts written -/
theorem k_drop {e : E} {v : Expr} (hn : notComp v = true) (he : PE X v (tE En c e)) : PS X (.Expr v pos) (tS En c (.drop e)) := by
  refine mS (ps_expr he (sw_plain hn _ _ _)) fun D σ H w => ?_
  obtain ⟨S, Z, A, f, S', e1, R, k⟩ := w
  simp only [exS] at e1
  split at e1
  · cases e1
  rename_i d S1 e2
  cases e1
  exact ⟨S, Z, A, d, _, e2, R, fun v1 Z1 A1 H1 st1 R1 r1 => k _ _ _ _ st1 R1⟩
theorem k_app (ok : Cok X C c) {i : Nat} {e : E} {x : Str} {y : Expr} (hl : (pos1.endLine == pos2.line) = true) (hn : noStar y = true) (hv : varB C i x = true) (he : PE X y (tE En c e)) : PS X (.Expr (.Call (.Attribute (.Name x pos3) "append" pos1) [y] [] pos2) pos) (tS En c (.app i e)) := by
  refine mS (ps_expr (pe_bm PySem.F.plainAttrs_list PySem.F.slot_list_append PySem.F.type_list_append mt_append (ok.pv hv) (pa_cons he pa_nil (star_ne hn)) (hfew := by rw [star_ne hn]; rfl) (hline := hl) (hs := star_ne hn)) rfl) fun D σ H w => ?_
  obtain ⟨S, Z, A, f, S', e1, R, k⟩ := w
  simp only [exS] at e1
  split at e1
  · rename_i hO
    obtain ⟨ds0, h0⟩ := ol_is hO
    obtain ⟨a, ha, za, ⟨vs0, g1, g2, g3⟩, nA⟩ := R.ownAt h0
    split at e1
    · cases e1
    rename_i d S1 e2
    split at e1
    · rename_i ds hi
      split at e1
      · rename_i hlt
        cases e1
        refine ⟨.ref a, ha, .inl ⟨rfl, vs0, SqL.of g1⟩, S, Z, A, d, S1, e2, R, fun v1 Z1 A1 H1 st1 R1 r1 => ?_⟩
        obtain ⟨a', ha', za', ⟨vs, h1, h2, h3⟩, nA'⟩ := R1.ownAt hi
        rw [ha] at ha'
        cases ha'
        have hln := h3.length
        refine ⟨a, vs, v1, rfl, rfl, h1, by omega, ?_⟩
        have mo : ∀ b u, H1 b = some u → ¬ Z1 b → upd H1 a (.lst (vs ++ [v1])) b = some u ∧ ¬ Z1 b := off_mono za'
        obtain ⟨R2, st⟩ := R1.wr (b' := .lst (ds ++ [d])) (o := .lst (vs ++ [v1])) hi ha ⟨_, upd_same, by rw [List.length_append, List.length_singleton]; omega, (h3.append (.one r1)).mono mo fun _ _ q => q⟩
        exact k _ _ _ _ (st1.trans st) R2
      · cases e1
    · cases e1
  · cases e1
theorem k_ext (ok : Cok X C c) {i : Nat} {p : P} {x : Str} {y : Expr} (hl : (pos1.endLine == pos2.line) = true) (hn : noStar y = true) (hv : varB C i x = true) (he : PE X y (tP En c p)) : PS X (.Expr (.Call (.Attribute (.Name x pos3) "extend" pos1) [y] [] pos2) pos) (tS En c (.ext i p)) := by
  refine mS (ps_expr (pe_bm PySem.F.plainAttrs_list PySem.F.slot_list_extend PySem.F.type_list_extend mt_extend (ok.pv hv) (pa_cons he pa_nil (star_ne hn)) (hfew := by rw [star_ne hn]; rfl) (hline := hl) (hs := star_ne hn)) rfl) fun D σ H w => ?_
  obtain ⟨S, Z, A, f, S', e1, R, k⟩ := w
  simp only [exS] at e1
  split at e1
  · rename_i hO
    obtain ⟨ds0, h0⟩ := ol_is hO
    obtain ⟨a, ha, za, ⟨vs0, g1, g2, g3⟩, nA⟩ := R.ownAt h0
    split at e1
    · cases e1
    rename_i y1 S1 e2
    split at e1
    · rename_i es f1
      split at e1
      · rename_i ds hi
        split at e1
        · rename_i hlt
          cases e1
          refine ⟨.ref a, ha, .inl ⟨rfl, vs0, SqL.of g1⟩, S, Z, A, y1, S1, e2, R, fun v1 Z1 A1 H1 st1 R1 r1 => ?_⟩
          obtain ⟨a', ha', za', ⟨vs, h1, h2, h3⟩, nA'⟩ := R1.ownAt hi
          rw [ha] at ha'
          cases ha'
          obtain ⟨b, ws, rfl, b2, b3, b4⟩ := rd_top R1 r1 f1
          have l1 := h3.length
          have l2 := b4.length
          refine ⟨a, b, vs, ws, rfl, rfl, h1, b2, by omega, ?_⟩
          have mo : ∀ b u, H1 b = some u → ¬ Z1 b → upd H1 a (.lst (vs ++ ws)) b = some u ∧ ¬ Z1 b := off_mono za'
          obtain ⟨R2, st⟩ := R1.wr (b' := .lst (ds ++ es)) (o := .lst (vs ++ ws)) hi ha ⟨_, upd_same, by rw [List.length_append]; omega, (h3.append b4).mono mo fun _ _ q => q⟩
          exact k _ _ _ _ (st1.trans st) R2
        · cases e1
      · cases e1
    · cases e1
  · cases e1
theorem sub_asg {o y : Expr} {v : Value} {env : Env} (h : notSl y = true) : assign (.Subscript o y pos) env v = (do
      let ov ← holding [v] (eval o env)
      let iv ← holding [v, ov] (eval y env)
      standAt pos
      holding [v, ov, iv] (setItem ov iv v)
      release [v, ov, iv] []) := by
  cases y <;> first | rfl | cases h
theorem ow_is {S : ES} {i : Nat} (h : isOw S i = true) : ∃ b, S.r[i]? = some (.own b) := by
  unfold isOw at h
  split at h
  · exact ⟨_, by assumption⟩
  · cases h
theorem sw_sole {v t : Expr} {l : Nat} {env : Env} (h : notComp v = true) : swapsWithSole [t] v l env = pure false := by
  show swapsWith v (some t) l env = pure false
  exact sw_plain h _ _ _
theorem k_setL (ok : Cok X C c) {i : Nat} {kE e : E} {x : Str} {y v : Expr} (hn : notComp v = true) (hs : notSl y = true) (hv : varB C i x = true) (hk : PE X y (tE En c kE)) (he : PE X v (tE En c e)) : PS X (.Assign [.Subscript (.Name x pos1) y pos2] v pos) (tS En c (.setL i kE e)) := by
  refine mS (ps_asg he (pg_sub (ok.pv hv) hk set_list (fun v => sub_asg hs)) (sw_sole hn) (by cases v <;> rfl) rfl) fun D σ H w => ?_
  obtain ⟨S, Z, A, f, S', e1, R, k⟩ := w
  simp only [exS] at e1
  split at e1
  · cases e1
  rename_i d S1 e2
  split at e1
  · rename_i hO
    obtain ⟨b0, h0⟩ := ow_is hO
    split at e1
    · rename_i kk S2 e3
      split at e1
      · rename_i ds hi
        split at e1
        · rename_i j hj
          cases e1
          refine ⟨S, Z, A, d, S1, e2, R, fun v1 Z1 A1 H1 st1 R1 r1 => ?_⟩
          obtain ⟨a, ha, _⟩ := R1.ownAt h0
          refine ⟨.ref a, ha, S1, Z1, A1, _, S2, e3, R1, fun v2 Z2 A2 H2 st2 R2 r2 => ?_⟩
          cases r2
          obtain ⟨a', ha', za, ⟨vs, h1, h2, h3⟩, nA⟩ := R2.ownAt hi
          rw [ha] at ha'
          cases ha'
          have r1' := r1.step st2 R1.wz
          refine ⟨a, vs, kk, j, rfl, rfl, h1, by rw [← h3.length]; exact hj, ?_⟩
          have mo : ∀ b u, H2 b = some u → ¬ Z2 b → upd H2 a (.lst (vs.set j v1)) b = some u ∧ ¬ Z2 b := off_mono za
          obtain ⟨R3, st⟩ := R2.wr (b' := .lst (ds.set j d)) (o := .lst (vs.set j v1)) hi ha ⟨_, upd_same, by rw [List.length_set]; exact h2, (Rps.set r1' j h3).mono mo fun _ _ q => q⟩
          exact k _ _ _ _ ((st1.trans st2).trans st) R3
        · cases e1
      · cases e1
    · cases e1
  · cases e1
theorem k_put (ok : Cok X C c) {i : Nat} {kE e : E} {x : Str} {y v : Expr} (hn : notComp v = true) (hv : varB C i x = true) (hk : PE X y (tE En c kE)) (he : PE X v (tE En c e)) : PS X (.Assign [.Subscript (.Name x pos1) y pos2] v pos) (tS En c (.put i kE e)) := by
  have hu := ok.un
  refine mS (ps_dput (by omega) (ok.pv hv) hk he (sw_plain hn _ _ _)) fun D σ H w => ?_
  obtain ⟨S, Z, A, f, S', e1, R, k⟩ := w
  simp only [exS] at e1
  split at e1
  · cases e1
  rename_i d S1 e2
  split at e1
  · rename_i hO
    obtain ⟨b0, h0⟩ := ow_is hO
    split at e1
    · cases e1
    rename_i kd S2 e3
    split at e1
    · cases e1
    rename_i kk hkk
    split at e1
    · rename_i kvs hi
      split at e1
      · rename_i hlt
        cases e1
        refine ⟨S, Z, A, d, S1, e2, R, fun v1 Z1 A1 H1 st1 R1 r1 => ?_⟩
        obtain ⟨a, ha, _⟩ := R1.ownAt h0
        refine ⟨.ref a, ha, S1, Z1, A1, kd, S2, e3, R1, fun v2 Z2 A2 H2 st2 R2 r2 => ?_⟩
        obtain ⟨a', ha', za, ⟨kws, h1, h2, h3, h4⟩, nA⟩ := R2.ownAt hi
        rw [ha] at ha'
        cases ha'
        have r1' := r1.step st2 R1.wz
        have hln : kws.length = kvs.length := by simpa using congrArg List.length h2
        have hlw : kws.length < sizeLine := by omega
        refine ⟨a, _, rfl, .inl ⟨kws, kk, h1, keyD_rel r2 hkk, hlw, rfl⟩, ?_⟩
        have mo : ∀ b u, H2 b = some u → ¬ Z2 b → upd H2 a (.dK (putK kws kk v1)) b = some u ∧ ¬ Z2 b := off_mono za
        obtain ⟨p1, p2⟩ := put_rel (k := kk) r1' h2 h4
        obtain ⟨R3, st⟩ := R2.wr (b' := .dic (putD kvs kk d)) (o := .dK (putK kws kk v1)) hi ha ⟨_, upd_same, p1, put_okX h3 hlw (keyD_ok r2 hkk), p2.mono mo fun _ _ q => q⟩
        exact k _ _ _ _ ((st1.trans st2).trans st) R3
      · cases e1
    · cases e1
  · cases e1
theorem Rl.shD {S : ES} {Z : Addr → Prop} {A : List Addr} {σ : L2.St} {H : Hp} {n : Nat} {a : Addr} {kvs : List (Key × D)} (R : Rl En S Z A σ H) (ha : A[n]? = some a) (h : S.st[n]? = some (.dic kvs)) : Z a ∧ ∃ kws : List (Key × V), H a = some (.dK kws) ∧ kws.map (·.1) = kvs.map (·.1) ∧ DOk kws ∧ Rps Z A H (kvs.map (·.2)) (kws.map (·.2)) := R.sto.ob n _ a h ha
theorem k_hset (ok : Cok X C c) {p : P} {kE e : E} {o y v : Expr} (hn : notComp v = true) (hs : notSl y = true) (hp : PE X o (tP En c p)) (hk : PE X y (tE En c kE)) (he : PE X v (tE En c e)) : PS X (.Assign [.Subscript o y pos2] v pos) (tS En c (.hset p kE e)) := by
  have hu := ok.un
  refine ⟨fun pins s σ H D I w => ?_⟩
  obtain ⟨S, Z, A, f, S', e1, R, k⟩ := w
  simp only [exS] at e1
  split at e1
  · cases e1
  rename_i d S1 e2
  split at e1
  · cases e1
  rename_i x1 S2 e3
  split at e1
  · cases e1
  rename_i kd S3 e4
  split at e1
  · cases e1
  rename_i n hh
  split at e1
  · rename_i ds hi
    split at e1
    · rename_i kk
      split at e1
      · rename_i j hj
        cases e1
        refine (ps_asg he (pg_sub hp hk set_list (fun v => sub_asg hs)) (sw_sole hn) (by cases v <;> rfl) rfl).run pins s σ H D I ?_
        refine ⟨S, Z, A, d, S1, e2, R, fun v1 Z1 A1 H1 st1 R1 r1 => ⟨S1, Z1, A1, x1, S2, e3, R1, fun v2 Z2 A2 H2 st2 R2 r2 => ⟨S2, Z2, A2, _, S3, e4, R2, fun v3 Z3 A3 H3 st3 R3 r3 => ?_⟩⟩⟩
        cases r3
        obtain ⟨a, rfl, ha⟩ := hnd_rel R3 (r2.step R2 st3) hh
        obtain ⟨za, vs, h1, h2, h3⟩ := R3.shd ha hi
        have r1' := r1.step (st2.trans st3) R1.wz
        refine ⟨a, vs, kk, j, rfl, rfl, h1, by rw [← h3.length]; exact hj, ?_⟩
        have mo : ∀ b u, H3 b = some u → ¬ Z3 b → upd H3 a (.lst (vs.set j v1)) b = some u ∧ ¬ Z3 b := off_mono za
        obtain ⟨R4, st⟩ := R3.hwr (b' := .lst (ds.set j d)) (o := .lst (vs.set j v1)) hi ha ⟨_, upd_same, by rw [List.length_set]; exact h2, (Rps.set r1' j h3).mono mo fun _ _ q => q⟩
        exact k _ _ _ _ (((st1.trans st2).trans st3).trans st) R4
      · cases e1
    · cases e1
  · rename_i kvs hi
    split at e1
    · rename_i kk hkk
      split at e1
      · rename_i hlt
        cases e1
        refine (ps_dput (by omega) hp hk he (sw_plain hn _ _ _)).run pins s σ H D I ?_
        refine ⟨S, Z, A, d, S1, e2, R, fun v1 Z1 A1 H1 st1 R1 r1 => ⟨S1, Z1, A1, x1, S2, e3, R1, fun v2 Z2 A2 H2 st2 R2 r2 => ⟨S2, Z2, A2, kd, S3, e4, R2, fun v3 Z3 A3 H3 st3 R3 r3 => ?_⟩⟩⟩
        obtain ⟨a, rfl, ha⟩ := hnd_rel R3 (r2.step R2 st3) hh
        obtain ⟨za, kws, h1, h2, h3, h4⟩ := R3.shD ha hi
        have r1' := r1.step (st2.trans st3) R1.wz
        have hln : kws.length = kvs.length := by simpa using congrArg List.length h2
        have hlw : kws.length < sizeLine := by omega
        refine ⟨a, _, rfl, .inl ⟨kws, kk, h1, keyD_rel r3 hkk, hlw, rfl⟩, ?_⟩
        have mo : ∀ b u, H3 b = some u → ¬ Z3 b → upd H3 a (.dK (putK kws kk v1)) b = some u ∧ ¬ Z3 b := off_mono za
        obtain ⟨p1, p2⟩ := put_rel (k := kk) r1' h2 h4
        obtain ⟨R4, st⟩ := R3.hwr (b' := .dic (putD kvs kk d)) (o := .dK (putK kws kk v1)) hi ha ⟨_, upd_same, p1, put_okX h3 hlw (keyD_ok r3 hkk), p2.mono mo fun _ _ q => q⟩
        exact k _ _ _ _ (((st1.trans st2).trans st3).trans st) R4
      · cases e1
    · cases e1
  · cases e1
end
end Px
/-! Px7: control; every statement that passes the check. -/
namespace Px
open PySem PySem.Spec L2
variable [KS]
section
variable {X : Cx} {C : Ctx} {c : CallF} {En : Sn} {pos pos1 pos2 pos3 : Pos}
theorem k_nilB : PSs X [] (tB En c .nil) := ⟨fun pins s σ H D I w => pss_nil.run pins s σ H D I (by
  obtain ⟨S, Z, A, f, S', e, R, k⟩ := w
  simp only [exB] at e
  cases e
  exact k _ _ _ _ (Step.refl _) R)⟩
theorem k_consB {s : S} {b : B} {x : Stmt} {xs : List Stmt} (h1 : PS X x (tS En c s)) (h2 : PSs X xs (tB En c b)) : PSs X (x :: xs) (tB En c (.cons s b)) := ⟨fun pins st σ H D I w => (pss_cons h1 h2).run pins st σ H D I (by
  obtain ⟨S, Z, A, f, S', e, R, k⟩ := w
  simp only [exB] at e
  split at e
  · cases e
  · rename_i S1 e1
    exact ⟨S, Z, A, .nx, S1, e1, R, fun σ' Z' A' H' st R' => ⟨S1, Z', A', f, S', e, R', k.after st⟩⟩
  · rename_i f1 S1 hne e1
    cases e
    refine ⟨S, Z, A, _, _, e1, R, fun σ' Z' A' H' st R' => ?_⟩
    have := k σ' Z' A' H' st R'
    cases f with
    | nx => exact (hne rfl).elim
    | bk => exact this
    | ct => exact this
    | rt d => exact this)⟩
theorem k_if {t : T} {a b : B} {u : Expr} {xs ys : List Stmt} (ht : PT X u (tT En c t)) (ha : PSs X xs (tB En c a)) (hb : PSs X ys (tB En c b)) : PS X (.If u xs ys pos) (tS En c (.ifS t a b)) := by
  refine ⟨fun pins s σ H D I w => (ps_if ht ha hb).run pins s σ H D I ?_⟩
  obtain ⟨S, Z, A, f, S', e, R, k⟩ := w
  simp only [exS] at e
  split at e
  · cases e
  · rename_i S1 e1
    refine ⟨S, Z, A, _, S1, e1, R, fun Z1 A1 H1 st1 R1 => ?_⟩
    dsimp only
    rw [if_pos rfl]
    exact ⟨S1, Z1, A1, f, S', e, R1, k.after st1⟩
  · rename_i S1 e1
    refine ⟨S, Z, A, _, S1, e1, R, fun Z1 A1 H1 st1 R1 => ?_⟩
    dsimp only
    rw [if_neg Bool.false_ne_true]
    exact ⟨S1, Z1, A1, f, S', e, R1, k.after st1⟩
theorem k_ret {e : E} {v : Expr} (he : PE X v (tE En c e)) : PS X (.Return (some v) pos) (tS En c (.ret e)) := by
  refine ⟨fun pins s σ H D I w => (ps_ret he).run pins s σ H D I ?_⟩
  obtain ⟨S, Z, A, f, S', e1, R, k⟩ := w
  simp only [exS] at e1
  split at e1
  · cases e1
  rename_i d S1 e2
  cases e1
  exact ⟨S, Z, A, d, _, e2, R, fun v1 Z1 A1 H1 st1 R1 r1 => k _ _ _ _ st1 R1 v1 r1⟩
theorem k_retN : PS X (.Return none pos) (tS En c .retN) := by
  refine ⟨fun pins s σ H D I w => ps_retN.run pins s σ H D I ?_⟩
  obtain ⟨S, Z, A, f, S', e1, R, k⟩ := w
  simp only [exS] at e1
  cases e1
  exact k _ _ _ _ (Step.refl _) R .non .non
theorem k_pass : PS X (.Pass pos) (tS En c .pass) := by
  refine ⟨fun pins s σ H D I w => ps_pass.run pins s σ H D I ?_⟩
  obtain ⟨S, Z, A, f, S', e1, R, k⟩ := w
  simp only [exS] at e1
  cases e1
  exact k _ _ _ _ (Step.refl _) R
theorem k_brk : PS X (.Break pos) (tS En c .brk) := by
  refine ⟨fun pins s σ H D I w => ps_break.run pins s σ H D I ?_⟩
  obtain ⟨S, Z, A, f, S', e1, R, k⟩ := w
  simp only [exS] at e1
  cases e1
  exact k _ _ _ _ (Step.refl _) R
theorem k_cont : PS X (.Continue pos) (tS En c .cont) := by
  refine ⟨fun pins s σ H D I w => ps_continue.run pins s σ H D I ?_⟩
  obtain ⟨S, Z, A, f, S', e1, R, k⟩ := w
  simp only [exS] at e1
  cases e1
  exact k _ _ _ _ (Step.refl _) R
theorem k_neverS {st : Stmt} : PS X st (tS En c .never) := ⟨fun pins s σ H D I w => by
  obtain ⟨S, Z, A, f, S', e1, R, k⟩ := w
  simp only [exS] at e1
  cases e1⟩
theorem Cok.passes (ok : Cok X C c) : PassesOwn (model X.prog X.w) X.A X.env X.xe := by
  rw [ok.xe]
  exact PassesOwn.never
theorem k_while (ok : Cok X C c) {t : T} {b : B} {u : Expr} {xs : List Stmt} (ht : PT X u (tT En c t)) (hb : PSs X xs (tB En c b)) : PS X (.While u xs [] pos) (tS En c (.whileS t b)) := by
  refine ⟨fun pins s σ H D I w => (ps_while ok.passes ht hb).run pins s σ H D I ?_⟩
  obtain ⟨S, Z, A, f, S', e, R, k⟩ := w
  simp only [exS] at e
  obtain ⟨n, en⟩ := whF_is e
  refine ⟨fun m σ' H' => ∃ T Z' A', Rl En T Z' A' σ' H' ∧ Step (sn S Z A σ H) (sn T Z' A' σ' H') ∧ whN (evT c t) (exB c b) m T = some (f, S'), ⟨n, S, Z, A, R, Step.refl _, en⟩, ?_⟩
  rintro m σ1 H1 ⟨T, Z1, A1, R1, st1, em⟩
  cases m with
  | zero => cases em
  | succ m =>
    simp only [whN] at em
    split at em
    · cases em
    · rename_i T1 e1
      cases em
      refine ⟨T, Z1, A1, _, _, e1, R1, fun Z2 A2 H2 st2 R2 => ?_⟩
      dsimp only
      rw [if_neg Bool.false_ne_true]
      exact k _ _ _ _ (st1.trans st2) R2
    · rename_i T1 e1
      refine ⟨T, Z1, A1, _, T1, e1, R1, fun Z2 A2 H2 st2 R2 => ?_⟩
      dsimp only
      rw [if_pos rfl]
      refine ⟨fun σ' H' => ∃ T Z' A', Rl En T Z' A' σ' H' ∧ Step (sn S Z A σ H) (sn T Z' A' σ' H') ∧ whN (evT c t) (exB c b) m T = some (f, S'), fun σ' H' q => ⟨m, Nat.lt_succ_self m, q⟩, ?_⟩
      split at em
      · cases em
      · rename_i T2 e2
        exact ⟨T1, Z2, A2, .nx, T2, e2, R2, fun σ3 Z3 A3 H3 st3 R3 => ⟨T2, Z3, A3, R3, (st1.trans st2).trans st3, em⟩⟩
      · rename_i T2 e2
        exact ⟨T1, Z2, A2, .ct, T2, e2, R2, fun σ3 Z3 A3 H3 st3 R3 => ⟨T2, Z3, A3, R3, (st1.trans st2).trans st3, em⟩⟩
      · rename_i T2 e2
        cases em
        exact ⟨T1, Z2, A2, .bk, _, e2, R2, fun σ3 Z3 A3 H3 st3 R3 => k _ _ _ _ ((st1.trans st2).trans st3) R3⟩
      · rename_i d T2 e2
        cases em
        exact ⟨T1, Z2, A2, .rt d, _, e2, R2, fun σ3 Z3 A3 H3 st3 R3 => k _ _ _ _ ((st1.trans st2).trans st3) R3⟩
theorem k_for (ok : Cok X C c) {tg : Tg} {it : It} {b : B} {t iter : Expr} {xs : List Stmt} (hn : noSet iter = true) (hi : PI X t iter (tI En c it)) (hg : PG X t (tG En tg)) (hb : PSs X xs (tB En c b)) : PS X (.For t iter xs [] pos) (tS En c (.forS tg it b)) := by
  refine ⟨fun pins s σ H D I w => (ps_for ok.passes ok.calm hi hg hb fun v => k_comp.set_no hn v).run pins s σ H D I ?_⟩
  obtain ⟨S, Z, A, f, S', e, R, k⟩ := w
  simp only [exS] at e
  split at e
  · cases e
  rename_i items S1 e1
  refine ⟨S, Z, A, items, S1, e1, R, fun J Z1 A1 H1 sth R1 hJ => ?_⟩
  have st1 := hid_step sth
  generalize hF : (fun (d : Px.D) (S : ES) => match asgTg tg d S.r with
      | none => (none : Option (Fl × ES))
      | some r => exB c b { S with r := r }) = F at e
  refine ⟨fun i m σ' H' => m = items.length - i ∧ i ≤ items.length ∧ ∃ T Z' A', Rl En T Z' A' σ' H' ∧ Step (sn S1 Z1 A1 σ H1) (sn T Z' A' σ' H') ∧ forF F (items.drop i) T = some (f, S'), ⟨items.length, by simp, Nat.zero_le _, S1, Z1, A1, R1, Step.refl _, e⟩, ?_⟩
  rintro i m σ1 H0 ⟨rfl, hil, T, Z0, A0, R0, st0, ef⟩
  obtain ⟨go, stop⟩ := hJ i T Z0 A0 σ1 H0 st0 R0
  by_cases hlt : i < items.length
  · obtain ⟨go, hy⟩ := go hlt
    refine .inr ⟨go, fun σ' H' => items.length - (i + 1) < items.length - i ∧ items.length - (i + 1) = items.length - (i + 1) ∧ i + 1 ≤ items.length ∧ ∃ T Z' A', Rl En T Z' A' σ' H' ∧ Step (sn S1 Z1 A1 σ H1) (sn T Z' A' σ' H') ∧ forF F (items.drop (i + 1)) T = some (f, S'),
      fun σ' H' q => ⟨items.length - (i + 1), q.1, q.2⟩, fun u H' y => ?_⟩
    obtain ⟨d, hd, R', st', rd⟩ := hy u H' y
    rw [drop_cons hd] at ef
    simp only [forF] at ef
    have nxt : ∀ {T2 : ES} {σ3 : St} {Z3 : Addr → Prop} {A3 : List Addr} {H3 : Hp}, Step (sn S1 Z1 A1 σ H1) (sn T2 Z3 A3 σ3 H3) → Rl En T2 Z3 A3 σ3 H3 → forF F (items.drop (i + 1)) T2 = some (f, S') → items.length - (i + 1) < items.length - i ∧ items.length - (i + 1) = items.length - (i + 1) ∧ i + 1 ≤ items.length ∧ ∃ T Z' A', Rl En T Z' A' σ3 H3 ∧ Step (sn S1 Z1 A1 σ H1) (sn T Z' A' σ3 H3) ∧ forF F (items.drop (i + 1)) T = some (f, S') :=
      fun st R e => ⟨by omega, rfl, hlt, _, _, _, R, st, e⟩
    -- the body's run
    have body : ∀ {fl : Fl} {T2 : ES}, F d T = some (fl, T2) → ∃ r, asgTg tg d T.r = some r ∧ exB c b { T with r := r } = some (fl, T2) := fun {fl T2} q => by
      rw [← hF] at q
      simp only at q
      split at q
      · cases q
      · exact ⟨_, by assumption, q⟩
    split at ef
    · cases ef
    · rename_i T2 e2
      obtain ⟨r, ea, eb⟩ := body e2
      exact ⟨T, Z0, A0, d, r, ea, R', rd, fun σ2 _ _ st2 R2 => ⟨_, Z0, A0, .nx, T2, eb, R2, fun σ3 Z3 A3 H3 st3 R3 => nxt (((st0.trans st').trans st2).trans st3) R3 ef⟩⟩
    · rename_i T2 e2
      obtain ⟨r, ea, eb⟩ := body e2
      exact ⟨T, Z0, A0, d, r, ea, R', rd, fun σ2 _ _ st2 R2 => ⟨_, Z0, A0, .ct, T2, eb, R2, fun σ3 Z3 A3 H3 st3 R3 => nxt (((st0.trans st').trans st2).trans st3) R3 ef⟩⟩
    · rename_i T2 e2
      cases ef
      obtain ⟨r, ea, eb⟩ := body e2
      exact ⟨T, Z0, A0, d, r, ea, R', rd, fun σ2 _ _ st2 R2 => ⟨_, Z0, A0, .bk, _, eb, R2, fun σ3 Z3 A3 H3 st3 R3 => k _ _ _ _ (st1.trans (((st0.trans st').trans st2).trans st3)) R3⟩⟩
    · rename_i dd T2 e2
      cases ef
      obtain ⟨r, ea, eb⟩ := body e2
      exact ⟨T, Z0, A0, d, r, ea, R', rd, fun σ2 _ _ st2 R2 => ⟨_, Z0, A0, .rt dd, _, eb, R2, fun σ3 Z3 A3 H3 st3 R3 => k _ _ _ _ (st1.trans (((st0.trans st').trans st2).trans st3)) R3⟩⟩
  · have ei : i = items.length := by omega
    subst ei
    rw [List.drop_length] at ef
    simp only [forF] at ef
    cases ef
    exact .inl ⟨stop (Nat.le_refl _), k _ _ _ _ (st1.trans st0) R0⟩
end
section
variable {c : CallF} {En : Sn}
mutual
theorem sS {X : Cx} {C : Ctx} (ok : Cok X C c) (kd : C.sc.kind = .function) (s : S) (x : Stmt) (h : chkS C s x = true) : PS X x (tS En c s) := by
  unfold chkS at h
  split at h
  · simp only [Bool.and_eq_true, decide_eq_true_eq, Bool.or_eq_true] at h
    obtain ⟨⟨⟨⟨h1, h2⟩, h3⟩, h4⟩, h5⟩ := h
    exact k_asg ok kd h1 h2 h3 h4 (sE ok _ _ h5)
  · simp only [Bool.and_eq_true, decide_eq_true_eq] at h
    obtain ⟨⟨h1, h2⟩, h3⟩ := h
    split at h2
    · rename_i names hs
      exact k_par ok kd hs h2 h3 (sA ok _ _ h3)
    · cases h2
  · simp only [Bool.and_eq_true] at h
    exact s_asgL ok h.1 h.2
  · simp only [Bool.and_eq_true] at h
    exact s_asgD ok h.1 h.2
  · simp only [Bool.and_eq_true] at h
    exact k_drop h.1 (sE ok _ _ h.2)
  · simp only [Bool.and_eq_true, decide_eq_true_eq] at h
    obtain ⟨⟨⟨⟨rfl, h2⟩, h3⟩, h4⟩, h5⟩ := h
    exact k_app ok h2 h3 h4 (sE ok _ _ h5)
  · simp only [Bool.and_eq_true, decide_eq_true_eq] at h
    obtain ⟨⟨⟨⟨rfl, h2⟩, h3⟩, h4⟩, h5⟩ := h
    exact k_ext ok h2 h3 h4 (sP ok _ _ h5)
  · simp only [Bool.and_eq_true] at h
    obtain ⟨⟨⟨⟨h1, h2⟩, h3⟩, h4⟩, h5⟩ := h
    exact k_setL ok h1 h2 h3 (sE ok _ _ h4) (sE ok _ _ h5)
  · simp only [Bool.and_eq_true] at h
    obtain ⟨⟨⟨⟨h1, h2⟩, h3⟩, h4⟩, h5⟩ := h
    exact k_put ok h1 h3 (sE ok _ _ h4) (sE ok _ _ h5)
  · simp only [Bool.and_eq_true] at h
    obtain ⟨⟨⟨⟨h1, h2⟩, h3⟩, h4⟩, h5⟩ := h
    exact k_hset ok h1 h2 (sP ok _ _ h3) (sE ok _ _ h4) (sE ok _ _ h5)
  · simp only [Bool.and_eq_true] at h
    exact k_if (sT ok _ _ h.1.1) (sB ok kd _ _ h.1.2) (sB ok kd _ _ h.2)
  · simp only [Bool.and_eq_true] at h
    exact k_while ok (sT ok _ _ h.1) (sB ok kd _ _ h.2)
  · simp only [Bool.and_eq_true] at h
    exact k_for ok h.1.1.1 (sI ok _ _ _ h.1.1.2) (g_tg ok h.1.2) (sB ok kd _ _ h.2)
  · exact k_ret (sE ok _ _ h)
  · exact k_retN
  · exact k_pass
  · exact k_brk
  · exact k_cont
  · exact k_neverS
  · cases h
termination_by sizeOf s
theorem sB {X : Cx} {C : Ctx} (ok : Cok X C c) (kd : C.sc.kind = .function) (b : B) (xs : List Stmt) (h : chkB C b xs = true) : PSs X xs (tB En c b) := by
  unfold chkB at h
  split at h
  · exact k_nilB
  · simp only [Bool.and_eq_true] at h
    exact k_consB (sS ok kd _ _ h.1) (sB ok kd _ _ h.2)
  · cases h
termination_by sizeOf b
end
end
end Px
/-! Px8: a table of defs. -/
namespace Px
open PySem PySem.Spec L2
variable [KS]
/-- a def of the table as it stands in the text -/
structure DefIs (K : PySem.W.Frag) (mg : Str → Option Value) (fr : List Str) (f : Str) (m : DefM) : Prop where
  ex : ∃ (a : Addr) (fd : FuncData) (x : Str) (st : Stmt) (N ps : List Str), mg f = some (.ref a) ∧ FunD K x x (defArgs st) (defBody st) (defScope st) [] [] a fd ∧ FnScope N ps (defScope st) ∧ Binds K fd ps [] ∧ m.np = ps.length ∧ m.nn = N.length ∧ chkB ⟨defScope st, N, fun _ => true, fr⟩ m.body (defBody st) = true
section
variable {P : Program} {w : World} {K : PySem.W.Frag} {mg : Str → Option Value} {base : Heap} {fr : List Str} {tbl : Str → Option DefM}
theorem runF_len {n : Nat} {f : Str} {ds : List D} {st : Sto} {r : D × Sto} (h : runF tbl n f ds st = some r) : ∃ m, tbl f = some m ∧ ds.length = m.np := by
  cases n with
  | zero => cases h
  | succ n =>
    simp only [runF] at h
    split at h
    · cases h
    · rename_i m hm
      split at h
      · rename_i hl
        exact ⟨m, hm, hl⟩
      · cases h
theorem def_step (hd : ∀ f m, tbl f = some m → DefIs K mg fr f m) (hf : ∀ x, fr.any (fun y => decide (y = x)) = true → mg x = none) (hks : ∀ a ns, KS.at' a ns → ∀ H : Hp, SqL K H a (ns.map V.int)) (n : Nat)
    (ih : ∀ (f : Str) (m : DefM), tbl f = some m → ∃ a fd ps, mg f = some (.ref a) ∧ PySem.W.keepIn K (.ref a) = true ∧ Binds K fd ps [] ∧ FnOk P w K mg base CX0 n a fd ps (spF K (runF tbl n f))) {f : Str} {m : DefM} (hm : tbl f = some m)
    {a : Addr} {fd : FuncData} {xq : Str} {stm : Stmt} {N ps : List Str} (h2 : FunD K xq xq (defArgs stm) (defBody stm) (defScope stm) [] [] a fd) (h3 : FnScope N ps (defScope stm)) (h5 : m.np = ps.length) (h6 : m.nn = N.length) (h7 : chkB ⟨defScope stm, N, fun _ => true, fr⟩ m.body (defBody stm) = true) :
    FnOk P w K mg base CX0 (n + 1) a fd ps (spF K (runF tbl (n + 1) f)) := by
    refine h2.ok h3 (fun vs H Q E q => ?_) fun cdv A outer s H vs Q E hr q => ?_
    · obtain ⟨ds, st, r, st', Z, A, e, rd, _⟩ := q
      obtain ⟨m', hm', hl⟩ := runF_len e
      rw [hm] at hm'
      cases hm'
      rw [← rd.length, hl, h5]
    obtain ⟨ds, st, r, st', Z, A', e, rd, sr, zt, k⟩ := q
    have ok : Cok (cxOf CX0 P w K mg base N xq (defScope stm) a cdv A outer s H E).nox ⟨defScope stm, N, fun _ => true, fr⟩ (runF tbl n) := by
      refine ⟨rfl, rfl, h3.nd, rfl, rfl, hf, ?_, rfl, hks, fun g ds st r hg => ?_⟩
      · have := hr.un
        show (A.deeper _).units + 200 < cLine
        omega
      · obtain ⟨m', hm', _⟩ := runF_len hg
        obtain ⟨b, fd', ps', g1, g2, g3, g4⟩ := ih g m' hm'
        exact ⟨b, fd', ps', n, g1, g2, g3, g4, hr⟩
    simp only [runF, hm] at e
    split at e
    · rename_i hl
      have hpn : ps.length ≤ N.length := by
        have := congrArg List.length h3.pre
        rw [List.length_take] at this
        omega
      have hvl : vs.length = m.np := by rw [← rd.length]; exact hl
      have noOwn : ∀ (i : Nat) (sl : Sl), (ds.map Sl.val ++ List.replicate (m.nn - m.np) Sl.no)[i]? = some sl → isOwn sl = false := fun i sl q => by
        rcases List.mem_append.mp (List.mem_of_getElem? q) with w | w
        · obtain ⟨d, _, rfl⟩ := List.mem_map.mp w; rfl
        · rw [List.eq_of_mem_replicate w]; rfl
      have R0 : Rl (snR Z A' H) ⟨ds.map Sl.val ++ List.replicate (m.nn - m.np) Sl.no, st⟩ Z A' (L2.start N vs) H := by
        have nw : ∀ a, ¬ Own (ds.map Sl.val ++ List.replicate (m.nn - m.np) Sl.no) (L2.start N vs) a := fun a ⟨i, sl, q1, q2, _⟩ => by rw [noOwn i sl q1] at q2; cases q2
        refine ⟨⟨fun a o q _ => ⟨q, Iff.rfl⟩, ⟨[], by simp⟩, fun a q => q.elim .inl fun q => absurd q (nw a), fun a q => q⟩, ?_, fun i sl q => ?_, fun i j sl t a q1 q2 _ _ _ _ => ?_, fun a q => absurd q (nw a), sr, zt, fun a q => q⟩
        · unfold L2.start
          simp only [List.length_append, List.length_map, List.length_replicate]
          rw [rd.length, hvl, h5, h6]
        · by_cases hi : i < ds.length
          · rw [List.getElem?_append_left (by simpa using hi), List.getElem?_map] at q
            obtain ⟨d, q1, rfl⟩ := Option.map_eq_some_iff.mp q
            obtain ⟨v, q2, rv⟩ := rd.get q1
            refine ⟨some v, ?_, v, rfl, rv⟩
            unfold L2.start
            rw [List.getElem?_append_left (by rw [List.length_map, ← rd.length]; exact hi), List.getElem?_map, q2]
            rfl
          · rw [List.getElem?_append_right (by simpa using hi)] at q
            have hs : sl = .no := List.eq_of_mem_replicate (List.mem_of_getElem? q)
            have hlt := (List.getElem?_eq_some_iff.mp q).1
            simp only [List.length_map, List.length_replicate] at hlt
            subst hs
            refine ⟨none, ?_, True.intro⟩
            unfold L2.start
            rw [List.getElem?_append_right (by rw [List.length_map, ← rd.length]; omega), List.getElem?_replicate, if_pos]
            rw [List.length_map, hvl, ← h6]
            omega
        · rw [noOwn i sl q1] at q2; cases q2
      have low : ∀ {S' : ES} {Z' : Addr → Prop} {A2 : List Addr} {σ' : St} {H' : Hp}, Rl (snR Z A' H) S' Z' A2 σ' H' → Step (snR Z A' H) (snR Z' A2 H') := fun R => ⟨R.ent.keep, R.ent.pre, fun a q => R.ent.nw a (.inl q), R.ent.liv⟩
      refine ⟨_, PSs.nox (sB (En := snR Z A' H) ok h3.kind m.body (defBody stm) h7), ?_⟩
      split at e
      · rename_i d S' e2
        cases e
        exact ⟨_, Z, A', _, _, e2, R0, fun σ' Z' A2 H' st1 R' v rv => k v Z' A2 H' (low R') R'.sto R'.zt rv⟩
      · rename_i S' e2
        cases e
        exact ⟨_, Z, A', _, _, e2, R0, fun σ' Z' A2 H' st1 R' => k .non Z' A2 H' (low R') R'.sto R'.zt .non⟩
      · cases e
    · cases e
theorem def_ok (hd : ∀ f m, tbl f = some m → DefIs K mg fr f m) (hf : ∀ x, fr.any (fun y => decide (y = x)) = true → mg x = none) (hks : ∀ a ns, KS.at' a ns → ∀ H : Hp, SqL K H a (ns.map V.int)) : ∀ (n : Nat) (f : Str) (m : DefM), tbl f = some m →
    ∃ a fd ps, mg f = some (.ref a) ∧ PySem.W.keepIn K (.ref a) = true ∧ Binds K fd ps [] ∧ FnOk P w K mg base CX0 n a fd ps (spF K (runF tbl n f))
  | 0, f, m, hm => by
    obtain ⟨a, fd, xq, st, N, ps, h1, h2, h3, h4, h5, h6, h7⟩ := (hd f m hm).ex
    have no : ∀ vs H Q E, spF K (runF tbl 0 f) vs H Q E → False := fun vs H Q E q => by
      obtain ⟨ds, st, r, st', Z, A, e, _⟩ := q
      cases e
    exact ⟨a, fd, ps, h1, h2.kp, h4, ⟨fun vs H Q E q => (no vs H Q E q).elim, fun A outer s H args us vs Q E _ _ _ _ q => (no vs H Q E q).elim⟩⟩
  | n + 1, f, m, hm => by
    obtain ⟨a, fd, xq, stm, N, ps, h1, h2, h3, h4, h5, h6, h7⟩ := (hd f m hm).ex
    exact ⟨a, fd, ps, h1, h2.kp, h4, def_step hd hf hks n (def_ok hd hf hks n) hm h2 h3 h5 h6 h7⟩
end
end Px
namespace Px
open PySem L2
abbrev PR : Program := PySem.Challenge.pw_exactkinds_k51_papers_of_wrong_values
def top (i : Nat) : Stmt := PR.main.body.getD i (.Pass ⟨0, 0, 0, 0⟩)
def frB : List Str := ["len", "isinstance", "int", "str", "abs", "max", "tuple", "all", "list", "zip", "enumerate", "range", "bool", "dict"]
def N_put : List Str := ["term", "assignment", "part"]
def m_put : DefM := ⟨2, 3,
 (.cons (.ifS (.val (.isI (.s 0) "str"))
 (.cons (.ret (.get2 (.s 1) (.var 0) (.var 0)))
 .nil)
 .nil)
 (.cons (.ret (.bin .add (.tup (.cons (.idx (.s 0) (.int 0)) .nil)) (.tupOf (.l (.comp (.call "put_indices" (.cons (.var 2) (.cons (.var 1) .nil))) (.v 2) (.p (.e (.slT (.s 0) (.e (.int 1)) .no))) .no [("part", 2)])))))
 .nil))⟩
theorem chk_put : chkB ⟨defScope (top 2), N_put, fun _ => true, frB⟩ m_put.body (defBody (top 2)) = true := by decide +kernel
def l_fitted_1 : B :=
 (.cons (.asg (.tup (.cons (.v 4) (.cons (.v 5) .nil))) (.pop 3))
 (.cons (.ifS (.val (.isI (.s 4) "str"))
 (.cons (.ifS (.cmp .NotEq (.e (.get2 (.s 2) (.var 4) (.var 5))) (.s 5))
 (.cons (.ret .non)
 .nil)
 .nil)
 (.cons (.put 2 (.var 4) (.var 5))
 .nil))
 (.cons (.ifS (.orT (.val (.isI (.s 5) "str")) (.oneT (.cmp .NotEq (.e (.idx (.s 4) (.int 0))) (.e (.idx (.s 5) (.int 0))))))
 (.cons (.ret .non)
 .nil)
 (.cons (.ext 3 (.l (.zip (.e (.slT (.s 4) (.e (.int 1)) .no)) (.e (.slT (.s 5) (.e (.int 1)) .no)))))
 .nil))
 .nil))
 .nil))
def N_fitted : List Str := ["patterns", "terms", "found", "waiting", "pattern", "term"]
def m_fitted : DefM := ⟨2, 6,
 (.cons (.asgD 2 .nil)
 (.cons (.asgL 3 (.zip (.s 0) (.s 1)))
 (.cons (.whileS (.tru (.s 3)) l_fitted_1)
 (.cons (.ret (.var 2))
 .nil))))⟩
theorem chk_fitted : chkB ⟨defScope (top 4), N_fitted, fun _ => true, frB⟩ m_fitted.body (defBody (top 4)) = true := by decide +kernel
def l_constructor_of_1 : B :=
 (.cons (.ifS (.cmp .Eq (.e (.idx (.s 2) (.int 0))) (.s 1))
 (.cons (.ret (.var 2))
 .nil)
 .nil)
 .nil)
def N_constructor_of : List Str := ["table", "word", "one"]
def m_constructor_of : DefM := ⟨2, 3,
 (.cons (.forS (.v 2) (.p (.e (.idx (.s 0) (.int 3)))) l_constructor_of_1)
 (.cons (.ret .non)
 .nil))⟩
theorem chk_constructor_of : chkB ⟨defScope (top 10), N_constructor_of, fun _ => true, frB⟩ m_constructor_of.body (defBody (top 10)) = true := by decide +kernel
def l_function_of_1 : B :=
 (.cons (.ifS (.cmp .Eq (.e (.idx (.s 2) (.int 0))) (.s 1))
 (.cons (.ret (.var 2))
 .nil)
 .nil)
 .nil)
def N_function_of : List Str := ["program", "word", "row"]
def m_function_of : DefM := ⟨2, 3,
 (.cons (.forS (.v 2) (.p (.e (.idx (.s 0) (.int 1)))) l_function_of_1)
 (.cons (.ret .non)
 .nil))⟩
theorem chk_function_of : chkB ⟨defScope (top 30), N_function_of, fun _ => true, frB⟩ m_function_of.body (defBody (top 30)) = true := by decide +kernel
def l_taken_1 : B :=
 (.cons (.asg (.tup (.cons (.v 4) (.cons (.v 5) .nil))) (.pop 3))
 (.cons (.ifS (.val (.isI (.s 4) "str"))
 (.cons (.put 2 (.var 4) (.var 5))
 .nil)
 (.cons (.ifS (.cmp .NotEq (.e (.idx (.s 4) (.int 0))) (.e (.idx (.s 5) (.int 0))))
 (.cons (.ret .non)
 .nil)
 (.cons (.ext 3 (.l (.zip (.e (.slT (.s 4) (.e (.int 1)) .no)) (.e (.slT (.s 5) (.e (.int 1)) .no)))))
 .nil))
 .nil))
 .nil))
def N_taken : List Str := ["patterns", "values", "found", "waiting", "pattern", "value"]
def m_taken : DefM := ⟨2, 6,
 (.cons (.asgD 2 .nil)
 (.cons (.asgL 3 (.zip (.s 0) (.s 1)))
 (.cons (.whileS (.tru (.s 3)) l_taken_1)
 (.cons (.ret (.var 2))
 .nil))))⟩
theorem chk_taken : chkB ⟨defScope (top 32), N_taken, fun _ => true, frB⟩ m_taken.body (defBody (top 32)) = true := by decide +kernel
def l_clause_for_1 : B :=
 (.cons (.ifS (.cmp .IsNot (.e (.call "taken" (.cons (.idx (.s 3) (.int 0)) (.cons (.var 1) .nil)))) (.e .non))
 (.cons (.ret (.var 2))
 .nil)
 .nil)
 .nil)
def N_clause_for : List Str := ["function", "values", "at", "clause"]
def m_clause_for : DefM := ⟨2, 4,
 (.cons (.forS (.tup (.cons (.v 2) (.cons (.v 3) .nil))) (.enum (.e (.idx (.s 0) (.int 5)))) l_clause_for_1)
 (.cons (.ret (.int (-1)))
 .nil))⟩
theorem chk_clause_for : chkB ⟨defScope (top 33), N_clause_for, fun _ => true, frB⟩ m_clause_for.body (defBody (top 33)) = true := by decide +kernel
def N_is_raw : List Str := ["table", "value", "constructor", "part"]
def m_is_raw : DefM := ⟨2, 4,
 (.cons (.ifS (.orT (.notT (.val (.isI (.s 1) "tuple"))) (.orT (.cmp .Eq (.e (.len (.s 1))) (.e (.int 0))) (.oneT (.notT (.val (.isI (.e (.idx (.s 1) (.int 0))) "str"))))))
 (.cons (.ret (.bl false))
 .nil)
 .nil)
 (.cons (.asg (.v 2) (.call "constructor_of" (.cons (.var 0) (.cons (.idx (.s 1) (.int 0)) .nil))))
 (.cons (.ifS (.orT (.cmp .Is (.s 2) (.e .non)) (.oneT (.cmp .NotEq (.e (.len (.s 1))) (.e (.bin .add (.len (.e (.idx (.s 2) (.int 1)))) (.int 1))))))
 (.cons (.ret (.bl false))
 .nil)
 .nil)
 (.cons (.ret (.allL (.l (.comp (.call "is_raw" (.cons (.var 0) (.cons (.var 3) .nil))) (.v 3) (.p (.e (.slT (.s 1) (.e (.int 1)) .no))) .no [("part", 3)]))))
 .nil))))⟩
theorem chk_is_raw : chkB ⟨defScope (top 48), N_is_raw, fun _ => true, frB⟩ m_is_raw.body (defBody (top 48)) = true := by decide +kernel
def N_index_of : List Str := ["table", "value", "constructor", "found", "trees", "part", "pair"]
def m_index_of : DefM := ⟨2, 7,
 (.cons (.asg (.v 2) (.call "constructor_of" (.cons (.var 0) (.cons (.idx (.s 1) (.int 0)) .nil))))
 (.cons (.asgL 3 (.comp (.call "index_of" (.cons (.var 0) (.cons (.var 5) .nil))) (.v 5) (.p (.e (.slT (.s 1) (.e (.int 1)) .no))) .no [("part", 5)]))
 (.cons (.ifS (.orT (.cmp .In (.e .non) (.s 3)) (.oneT (.cmp .NotEq (.l (.comp (.idx (.s 6) (.int 0)) (.v 6) (.p (.e (.var 3))) .no [("pair", 6)])) (.l (.comp (.idx (.s 5) (.int 0)) (.v 5) (.p (.e (.idx (.s 2) (.int 1)))) .no [("part", 5)])))))
 (.cons (.ret .non)
 .nil)
 .nil)
 (.cons (.asg (.v 4) (.call "fitted" (.cons (.ofL (.comp (.idx (.s 5) (.int 1)) (.v 5) (.p (.e (.idx (.s 2) (.int 1)))) .no [("part", 5)])) (.cons (.ofL (.comp (.idx (.s 6) (.int 1)) (.v 6) (.p (.e (.var 3))) .no [("pair", 6)])) .nil))))
 (.cons (.ifS (.cmp .Is (.s 4) (.e .non))
 (.cons (.ret .non)
 .nil)
 .nil)
 (.cons (.ret (.tup (.cons (.idx (.s 2) (.int 2)) (.cons (.call "put_indices" (.cons (.idx (.s 2) (.int 3)) (.cons (.var 4) .nil))) .nil))))
 .nil))))))⟩
theorem chk_index_of : chkB ⟨defScope (top 49), N_index_of, fun _ => true, frB⟩ m_index_of.body (defBody (top 49)) = true := by decide +kernel
def N_demanded : List Str := ["table", "function", "values", "found", "value", "param", "pair"]
def m_demanded : DefM := ⟨3, 7,
 (.cons (.asgL 3 (.comp (.call "index_of" (.cons (.var 0) (.cons (.var 4) .nil))) (.v 4) (.p (.e (.var 2))) .no [("value", 4)]))
 (.cons (.ifS (.orT (.cmp .In (.e .non) (.s 3)) (.oneT (.cmp .NotEq (.l (.comp (.idx (.s 6) (.int 0)) (.v 6) (.p (.e (.var 3))) .no [("pair", 6)])) (.l (.comp (.idx (.s 5) (.int 0)) (.v 5) (.p (.e (.idx (.s 1) (.int 1)))) .no [("param", 5)])))))
 (.cons (.ret .non)
 .nil)
 .nil)
 (.cons (.ret (.call "fitted" (.cons (.ofL (.comp (.idx (.s 5) (.int 1)) (.v 5) (.p (.e (.idx (.s 1) (.int 1)))) .no [("param", 5)])) (.cons (.ofL (.comp (.idx (.s 6) (.int 1)) (.v 6) (.p (.e (.var 3))) .no [("pair", 6)])) .nil))))
 .nil)))⟩
theorem chk_demanded : chkB ⟨defScope (top 50), N_demanded, fun _ => true, frB⟩ m_demanded.body (defBody (top 50)) = true := by decide +kernel
def N_head_of : List Str := ["table", "program", "word", "row", "_", "term"]
def m_head_of : DefM := ⟨3, 6,
 (.cons (.asg (.v 3) (.call "constructor_of" (.cons (.var 0) (.cons (.var 2) .nil))))
 (.cons (.ifS (.cmp .IsNot (.s 3) (.e .non))
 (.cons (.ret (.tup (.cons (.ofL (.comp (.var 5) (.tup (.cons (.v 4) (.cons (.v 5) .nil))) (.p (.e (.idx (.s 3) (.int 1)))) .no [("_", 4), ("term", 5)])) (.cons (.idx (.s 3) (.int 3)) (.cons (.str "make") .nil)))))
 .nil)
 .nil)
 (.cons (.asg (.v 3) (.call "function_of" (.cons (.var 1) (.cons (.var 2) .nil))))
 (.cons (.ret (.tup (.cons (.ofL (.comp (.var 5) (.tup (.cons (.v 4) (.cons (.v 5) .nil))) (.p (.e (.idx (.s 3) (.int 1)))) .no [("_", 4), ("term", 5)])) (.cons (.idx (.s 3) (.int 3)) (.cons (.str "demand") .nil)))))
 .nil))))⟩
theorem chk_head_of : chkB ⟨defScope (top 52), N_head_of, fun _ => true, frB⟩ m_head_of.body (defBody (top 52)) = true := by decide +kernel
def l_reckoned_1 : B :=
 (.cons (.asg (.v 9) (.call "reckoned" (.cons (.var 0) (.cons (.var 1) (.cons (.var 8) (.cons (.var 3) (.cons (.bin .add (.var 4) (.tup (.cons (.var 7) .nil))) .nil)))))))
 (.cons (.ifS (.cmp .NotEq (.e (.idx (.s 9) (.int 0))) (.e (.str "index")))
 (.cons (.ret (.var 9))
 .nil)
 .nil)
 (.cons (.app 5 (.idx (.s 9) (.int 1)))
 .nil)))
def N_reckoned : List Str := ["table", "program", "body", "trees", "way", "found", "binding", "at", "part", "answer", "terms", "index", "word"]
def m_reckoned : DefM := ⟨5, 13,
 (.cons (.ifS (.val (.isI (.s 2) "str"))
 (.cons (.ret (.tup (.cons (.str "index") (.cons (.idx (.s 3) (.var 2)) .nil))))
 .nil)
 .nil)
 (.cons (.asgL 5 (.disp .nil))
 (.cons (.forS (.tup (.cons (.v 7) (.cons (.v 8) .nil))) (.enum (.e (.slT (.s 2) (.e (.int 1)) .no))) l_reckoned_1)
 (.cons (.asg (.tup (.cons (.v 10) (.cons (.v 11) (.cons (.v 12) .nil)))) (.call "head_of" (.cons (.var 0) (.cons (.var 1) (.cons (.idx (.s 2) (.int 0)) .nil)))))
 (.cons (.asg (.v 6) (.call "fitted" (.cons (.var 10) (.cons (.var 5) .nil))))
 (.cons (.ret (.ifx (.cmp .Is (.s 6) (.e .non)) (.tup (.cons (.var 12) (.cons (.var 4) .nil))) (.tup (.cons (.str "index") (.cons (.call "put_indices" (.cons (.var 11) (.cons (.var 6) .nil))) .nil)))))
 .nil))))))⟩
theorem chk_reckoned : chkB ⟨defScope (top 53), N_reckoned, fun _ => true, frB⟩ m_reckoned.body (defBody (top 53)) = true := by decide +kernel
def N_told_index : List Str := ["table", "program", "word", "clause", "trees"]
def m_told_index : DefM := ⟨5, 5,
 (.cons (.ret (.call "reckoned" (.cons (.var 0) (.cons (.var 1) (.cons (.idx (.e (.idx (.e (.idx (.e (.call "function_of" (.cons (.var 1) (.cons (.var 2) .nil)))) (.int 5))) (.var 3))) (.int 1)) (.cons (.var 4) (.cons (.tup .nil) .nil)))))))
 .nil)⟩
theorem chk_told_index : chkB ⟨defScope (top 54), N_told_index, fun _ => true, frB⟩ m_told_index.body (defBody (top 54)) = true := by decide +kernel
def N_told : List Str := ["table", "program", "word", "values", "function", "clause", "names", "trees", "answer", "right", "name", "value"]
def m_told : DefM := ⟨4, 12,
 (.cons (.asg (.v 4) (.call "function_of" (.cons (.var 1) (.cons (.var 2) .nil))))
 (.cons (.asg (.v 5) (.call "clause_for" (.cons (.var 4) (.cons (.var 3) .nil))))
 (.cons (.ifS (.cmp .Eq (.s 5) (.e (.int (-1))))
 (.cons (.ret (.tup (.cons (.str "hole") (.cons (.tup .nil) .nil))))
 .nil)
 .nil)
 (.cons (.asg (.v 6) (.call "taken" (.cons (.idx (.e (.idx (.e (.idx (.s 4) (.int 5))) (.var 5))) (.int 0)) (.cons (.var 3) .nil))))
 (.cons (.asgD 7 (.comp (.var 10) (.idx (.e (.call "index_of" (.cons (.var 0) (.cons (.var 11) .nil)))) (.int 1)) (.tup (.cons (.v 10) (.cons (.v 11) .nil))) (.items (.e (.var 6))) [("name", 10), ("value", 11)]))
 (.cons (.asg (.v 8) (.call "told_index" (.cons (.var 0) (.cons (.var 1) (.cons (.var 2) (.cons (.var 5) (.cons (.var 7) .nil)))))))
 (.cons (.ifS (.cmp .NotEq (.e (.idx (.s 8) (.int 0))) (.e (.str "index")))
 (.cons (.ret (.var 8))
 .nil)
 .nil)
 (.cons (.asg (.v 9) (.cmp .Eq (.e (.idx (.s 8) (.int 1))) (.e (.call "put_indices" (.cons (.idx (.s 4) (.int 3)) (.cons (.call "demanded" (.cons (.var 0) (.cons (.var 4) (.cons (.var 3) .nil)))) .nil))))))
 (.cons (.ret (.ifx (.tru (.s 9)) .non (.tup (.cons (.str "result") (.cons (.tup .nil) .nil)))))
 .nil)))))))))⟩
theorem chk_told : chkB ⟨defScope (top 55), N_told, fun _ => true, frB⟩ m_told.body (defBody (top 55)) = true := by decide +kernel
def N_is_word_row : List Str := ["value", "word", "size"]
def m_is_word_row : DefM := ⟨3, 3,
 (.cons (.ifS (.orT (.notT (.val (.isI (.s 0) "tuple"))) (.oneT (.cmp .NotEq (.e (.len (.s 0))) (.s 2))))
 (.cons (.ret (.bl false))
 .nil)
 .nil)
 (.cons (.ret (.andE (.isI (.e (.idx (.s 0) (.int 0))) "str") (.oneE (.cmp .Eq (.e (.idx (.s 0) (.int 0))) (.s 1)))))
 .nil))⟩
theorem chk_is_word_row : chkB ⟨defScope (top 70), N_is_word_row, fun _ => true, frB⟩ m_is_word_row.body (defBody (top 70)) = true := by decide +kernel
def N_accepts : List Str := ["table", "program", "value", "checker", "machine", "trees", "row", "tree"]
def m_accepts : DefM := ⟨3, 8,
 (.cons (.ifS (.val (.call "is_word_row" (.cons (.var 2) (.cons (.str "not") (.cons (.int 3) .nil)))))
 (.cons (.ret (.call "accepts_not" (.cons (.var 0) (.cons (.var 1) (.cons (.var 2) .nil)))))
 .nil)
 .nil)
 (.cons (.ifS (.orT (.notT (.val (.call "is_word_row" (.cons (.var 2) (.cons (.str "let") (.cons (.int 3) .nil)))))) (.orT (.notT (.val .never)) (.oneT (.notT (.val .never)))))
 (.cons (.ret (.bl false))
 .nil)
 .nil)
 (.cons .never
 (.cons .never
 (.cons .never
 (.cons .never
 .nil))))))⟩
theorem chk_accepts : chkB ⟨defScope (top 72), N_accepts, fun _ => true, frB⟩ m_accepts.body (defBody (top 72)) = true := by decide +kernel
def N_accepts_not : List Str := ["table", "program", "value", "function", "_", "word", "values", "one"]
def m_accepts_not : DefM := ⟨3, 8,
 (.cons (.asg (.tup (.cons (.v 4) (.cons (.v 5) (.cons (.v 6) .nil)))) (.var 2))
 (.cons (.ifS (.orT (.notT (.val (.isI (.s 5) "str"))) (.oneT (.notT (.val (.isI (.s 6) "tuple")))))
 (.cons (.ret (.bl false))
 .nil)
 .nil)
 (.cons (.asg (.v 3) (.call "function_of" (.cons (.var 1) (.cons (.var 5) .nil))))
 (.cons (.ifS (.orT (.cmp .Is (.s 3) (.e .non)) (.oneT (.cmp .NotEq (.e (.len (.s 6))) (.e (.len (.e (.idx (.s 3) (.int 1))))))))
 (.cons (.ret (.bl false))
 .nil)
 .nil)
 (.cons (.ifS (.orT (.notT (.val (.allL (.l (.comp (.call "is_raw" (.cons (.var 0) (.cons (.var 7) .nil))) (.v 7) (.p (.e (.var 6))) .no [("one", 7)]))))) (.oneT (.cmp .Is (.e (.call "demanded" (.cons (.var 0) (.cons (.var 3) (.cons (.var 6) .nil))))) (.e .non))))
 (.cons (.ret (.bl false))
 .nil)
 .nil)
 (.cons (.ret (.cmp .IsNot (.e (.call "told" (.cons (.var 0) (.cons (.var 1) (.cons (.var 5) (.cons (.var 6) .nil)))))) (.e .non)))
 .nil))))))⟩
theorem chk_accepts_not : chkB ⟨defScope (top 73), N_accepts_not, fun _ => true, frB⟩ m_accepts_not.body (defBody (top 73)) = true := by decide +kernel
def l__law_state_1 : B :=
 (.cons (.asg (.v 1) (.bin .mod (.toInt (.bin .add (.bin .mul (.var 1) (.int 31)) (.var 2))) (.int 1000003)))
 .nil)
def N__law_state : List Str := ["script", "seed", "cell"]
def m__law_state : DefM := ⟨1, 3,
 (.cons (.asg (.v 1) (.int 7))
 (.cons (.forS (.v 2) (.p (.e (.var 0))) l__law_state_1)
 (.cons (.ret (.newH (.disp (.cons (.newH (.comp (.absI (.toInt (.var 2))) (.v 2) (.p (.e (.var 0))) .no [("cell", 2)])) (.cons (.bin .add (.var 1) (.int 1)) (.cons (.bl false) .nil))))))
 .nil)))⟩
theorem chk__law_state : chkB ⟨defScope (top 77), N__law_state, fun _ => true, frB⟩ m__law_state.body (defBody (top 77)) = true := by decide +kernel
def l__law_draw_1 : B :=
 (.cons (.drop (.hpop (.s 2) (.int 0)))
 .nil)
def N__law_draw : List Str := ["state", "many", "cells", "mixed", "value"]
def m__law_draw : DefM := ⟨2, 5,
 (.cons (.asg (.v 2) (.idx (.s 0) (.int 0)))
 (.cons (.whileS (.andT (.cmp .Gt (.e (.len (.s 2))) (.e (.int 0))) (.oneT (.cmp .Eq (.e (.idx (.s 2) (.int 0))) (.e (.int 0))))) l__law_draw_1)
 (.cons (.ifS (.cmp .Gt (.e (.len (.s 2))) (.e (.int 0)))
 (.cons (.asg (.v 4) (.idx (.s 2) (.int 0)))
 (.cons (.hset (.s 2) (.int 0) (.bin .fdiv (.var 4) (.var 1)))
 (.cons (.ret (.bin .mod (.toInt (.var 4)) (.var 1)))
 .nil)))
 .nil)
 (.cons (.asg (.v 3) (.bin .mod (.toInt (.bin .add (.bin .mul (.idx (.s 0) (.int 1)) (.int 48271)) (.int 12345))) (.int 2147483647)))
 (.cons (.hset (.s 0) (.int 1) (.var 3))
 (.cons (.ret (.bin .mod (.toInt (.bin .fdiv (.var 3) (.int 64))) (.var 1)))
 .nil))))))⟩
theorem chk__law_draw : chkB ⟨defScope (top 78), N__law_draw, fun _ => true, frB⟩ m__law_draw.body (defBody (top 78)) = true := by decide +kernel
def N__law_pick : List Str := ["state", "row"]
def m__law_pick : DefM := ⟨2, 2,
 (.cons (.ret (.idx (.s 1) (.call "_law_draw" (.cons (.var 0) (.cons (.len (.s 1)) .nil)))))
 .nil)⟩
theorem chk__law_pick : chkB ⟨defScope (top 79), N__law_pick, fun _ => true, frB⟩ m__law_pick.body (defBody (top 79)) = true := by decide +kernel
def N__law_shape : List Str := ["kind", "own", "other", "third", "grown", "zero", "next_n", "pair"]
def m__law_shape : DefM := ⟨4, 8,
 (.cons (.asg (.tup (.cons (.v 5) (.cons (.v 6) .nil))) (.tup (.cons (.tup (.cons (.str "z") .nil)) (.cons (.tup (.cons (.str "s") (.cons (.str "n") .nil))) .nil))))
 (.cons (.asg (.v 4) (.tup (.cons (.tup (.cons (.var 2) (.cons (.str "n") .nil))) .nil)))
 (.cons (.ifS (.cmp .Eq (.s 0) (.e (.int 0)))
 (.cons (.ret (.ofL (.disp (.cons (.tup (.cons (.tup .nil) (.cons (.var 5) .nil))) (.cons (.tup (.cons (.tup (.cons (.tup (.cons (.var 1) (.cons (.str "n") .nil))) .nil)) (.cons (.var 6) .nil))) .nil)))))
 .nil)
 .nil)
 (.cons (.ifS (.cmp .Eq (.s 0) (.e (.int 1)))
 (.cons (.ret (.ofL (.disp (.cons (.tup (.cons (.tup .nil) (.cons (.var 5) .nil))) .nil))))
 .nil)
 .nil)
 (.cons (.ifS (.cmp .Eq (.s 0) (.e (.int 2)))
 (.cons (.ret (.ofL (.disp (.cons (.tup (.cons (.var 4) (.cons (.var 6) .nil))) .nil))))
 .nil)
 .nil)
 (.cons (.ifS (.cmp .Eq (.s 0) (.e (.int 3)))
 (.cons (.ret (.ofL (.disp (.cons (.tup (.cons (.var 4) (.cons (.var 6) .nil))) (.cons (.tup (.cons (.tup (.cons (.tup (.cons (.var 1) (.cons (.str "n") .nil))) .nil)) (.cons (.var 6) .nil))) .nil)))))
 .nil)
 .nil)
 (.cons (.ifS (.cmp .Eq (.s 0) (.e (.int 4)))
 (.cons (.ret (.ofL (.disp (.cons (.tup (.cons (.tup .nil) (.cons (.var 5) .nil))) (.cons (.tup (.cons (.tup (.cons (.tup (.cons (.var 2) (.cons (.var 5) .nil))) (.cons (.tup (.cons (.var 1) (.cons (.str "n") .nil))) .nil))) (.cons (.var 6) .nil))) .nil)))))
 .nil)
 .nil)
 (.cons (.ifS (.cmp .Eq (.s 0) (.e (.int 5)))
 (.cons (.ret (.ofL (.disp (.cons (.tup (.cons (.tup .nil) (.cons (.var 5) .nil))) (.cons (.tup (.cons (.var 4) (.cons (.var 6) .nil))) .nil)))))
 .nil)
 .nil)
 (.cons (.ifS (.cmp .Eq (.s 0) (.e (.int 6)))
 (.cons (.ret (.ofL (.disp (.cons (.tup (.cons (.tup (.cons (.tup (.cons (.var 2) (.cons (.var 6) .nil))) .nil)) (.cons (.str "n") .nil))) .nil))))
 .nil)
 .nil)
 (.cons (.ifS (.cmp .Eq (.s 0) (.e (.int 7)))
 (.cons (.ret (.ofL (.disp (.cons (.tup (.cons (.tup (.cons (.tup (.cons (.var 2) (.cons (.str "n") .nil))) (.cons (.tup (.cons (.var 3) (.cons (.str "n") .nil))) .nil))) (.cons (.var 6) .nil))) .nil))))
 .nil)
 .nil)
 (.cons (.ifS (.cmp .Eq (.s 0) (.e (.int 8)))
 (.cons (.ret (.ofL (.disp (.cons (.tup (.cons (.tup (.cons (.tup (.cons (.var 2) (.cons (.str "n") .nil))) (.cons (.tup (.cons (.var 3) (.cons (.str "n") .nil))) .nil))) (.cons (.var 5) .nil))) .nil))))
 .nil)
 .nil)
 (.cons (.ifS (.cmp .Eq (.s 0) (.e (.int 9)))
 (.cons (.ret (.ofL (.disp (.cons (.tup (.cons (.tup (.cons (.tup (.cons (.var 1) (.cons (.str "n") .nil))) .nil)) (.cons (.var 6) .nil))) .nil))))
 .nil)
 .nil)
 (.cons (.ifS (.cmp .Eq (.s 0) (.e (.int 10)))
 (.cons (.ret (.ofL (.disp (.cons (.tup (.cons (.tup .nil) (.cons (.var 5) .nil))) (.cons (.tup (.cons (.var 4) (.cons (.var 6) .nil))) (.cons (.tup (.cons (.tup (.cons (.tup (.cons (.var 3) (.cons (.str "n") .nil))) .nil)) (.cons (.var 6) .nil))) .nil))))))
 .nil)
 .nil)
 (.cons (.ifS (.cmp .Eq (.s 0) (.e (.int 11)))
 (.cons (.asg (.v 7) (.tup (.cons (.str "p") (.cons (.str "n") (.cons (.str "m") .nil)))))
 (.cons (.ret (.ofL (.disp (.cons (.tup (.cons (.tup .nil) (.cons (.var 5) .nil))) (.cons (.tup (.cons (.tup (.cons (.tup (.cons (.var 1) (.cons (.str "n") .nil))) (.cons (.tup (.cons (.var 2) (.cons (.str "m") .nil))) .nil))) (.cons (.var 7) .nil))) (.cons (.tup (.cons (.tup (.cons (.tup (.cons (.var 1) (.cons (.var 7) .nil))) .nil)) (.cons (.str "n") .nil))) .nil))))))
 .nil))
 .nil)
 (.cons (.ifS (.cmp .Eq (.s 0) (.e (.int 12)))
 (.cons (.ret (.ofL (.disp (.cons (.tup (.cons (.tup .nil) (.cons (.var 5) .nil))) (.cons (.tup (.cons (.tup (.cons (.tup (.cons (.var 1) (.cons (.str "n") .nil))) .nil)) (.cons (.var 6) .nil))) (.cons (.tup (.cons (.tup (.cons (.tup (.cons (.var 1) (.cons (.var 6) .nil))) .nil)) (.cons (.str "n") .nil))) .nil))))))
 .nil)
 .nil)
 (.cons (.ifS (.cmp .Eq (.s 0) (.e (.int 13)))
 (.cons (.ret (.ofL (.disp (.cons (.tup (.cons (.tup .nil) (.cons (.tup (.cons (.str "o") .nil)) .nil))) (.cons (.tup (.cons (.var 4) (.cons (.var 6) .nil))) .nil)))))
 .nil)
 .nil)
 (.cons (.ifS (.cmp .Eq (.s 0) (.e (.int 15)))
 (.cons (.ret (.ofL (.disp (.cons (.tup (.cons (.tup .nil) (.cons (.var 5) .nil))) (.cons (.tup (.cons (.tup (.cons (.tup (.cons (.var 1) (.cons (.str "n") .nil))) (.cons (.tup (.cons (.var 2) (.cons (.str "m") .nil))) (.cons (.tup (.cons (.var 3) (.cons (.str "m") .nil))) .nil)))) (.cons (.var 6) .nil))) .nil)))))
 .nil)
 .nil)
 (.cons (.ret (.ofL (.disp (.cons (.tup (.cons (.tup .nil) (.cons (.var 5) .nil))) (.cons (.tup (.cons (.tup (.cons (.tup (.cons (.var 1) (.cons (.str "n") .nil))) (.cons (.tup (.cons (.var 2) (.cons (.str "m") .nil))) .nil))) (.cons (.var 6) .nil))) .nil)))))
 .nil))))))))))))))))))⟩
theorem chk__law_shape : chkB ⟨defScope (top 80), N__law_shape, fun _ => true, frB⟩ m__law_shape.body (defBody (top 80)) = true := by decide +kernel
def l__law_table_1 : B :=
 (.cons (.app 3 (.tup (.cons (.bin .add (.str "K") (.toStr (.len (.s 3)))) (.cons (.var 6) (.cons (.var 4) (.cons (.var 7) .nil))))))
 .nil)
def l__law_table_2 : B :=
 (.cons (.asg (.v 5) (.call "_law_draw" (.cons (.var 0) (.cons (.int 16) .nil))))
 (.cons (.ifS (.andT (.cmp .Lt (.e (.len (.s 1))) (.e (.int 4))) (.oneT (.cmp .In (.s 5) (.e (.tup (.cons (.int 11) (.cons (.int 13) .nil)))))))
 (.cons (.asg (.v 5) (.int 0))
 .nil)
 .nil)
 (.cons (.forS (.tup (.cons (.v 6) (.cons (.v 7) .nil))) (.p (.e (.call "_law_shape" (.cons (.var 5) (.cons (.var 4) (.cons (.call "_law_pick" (.cons (.var 0) (.cons (.var 2) .nil))) (.cons (.call "_law_pick" (.cons (.var 0) (.cons (.var 2) .nil))) .nil))))))) l__law_table_1)
 .nil)))
def N__law_table : List Str := ["state", "makers", "families", "constructors", "own", "kind", "parts", "index"]
def m__law_table : DefM := ⟨1, 8,
 (.cons (.asg (.v 1) (.slT (.e (.tup (.cons (.tup (.cons (.str "z") (.cons (.int 0) .nil))) (.cons (.tup (.cons (.str "s") (.cons (.int 1) .nil))) (.cons (.tup (.cons (.str "p") (.cons (.int 2) .nil))) (.cons (.tup (.cons (.str "o") (.cons (.int 0) .nil))) .nil)))))) .no (.e (.idx (.l (.disp (.cons (.int 2) (.cons (.int 2) (.cons (.int 4) .nil))))) (.call "_law_draw" (.cons (.var 0) (.cons (.int 3) .nil)))))))
 (.cons (.asgL 2 (.sl (.l (.disp (.cons (.str "Fa") (.cons (.str "Fb") (.cons (.str "Fc") (.cons (.str "Fd") .nil)))))) .no (.e (.bin .add (.int 2) (.call "_law_draw" (.cons (.var 0) (.cons (.int 3) .nil)))))))
 (.cons (.asgL 3 (.disp .nil))
 (.cons (.forS (.v 4) (.p (.e (.var 2))) l__law_table_2)
 (.cons (.ret (.tup (.cons (.str "table") (.cons (.var 1) (.cons (.tupOf (.s 2)) (.cons (.tupOf (.s 3)) .nil))))))
 .nil)))))⟩
theorem chk__law_table : chkB ⟨defScope (top 81), N__law_table, fun _ => true, frB⟩ m__law_table.body (defBody (top 81)) = true := by decide +kernel
def N__law_constructors : List Str := ["table", "family", "row"]
def m__law_constructors : DefM := ⟨2, 3,
 (.cons (.ret (.ofL (.comp (.var 2) (.v 2) (.p (.e (.idx (.s 0) (.int 3)))) (.t (.cmp .Eq (.e (.idx (.s 2) (.int 2))) (.s 1))) [("row", 2)])))
 .nil)⟩
theorem chk__law_constructors : chkB ⟨defScope (top 82), N__law_constructors, fun _ => true, frB⟩ m__law_constructors.body (defBody (top 82)) = true := by decide +kernel
def l__law_heads_1 : B :=
 (.cons (.par [6, 7] (.cons (.call "_law_pick" (.cons (.var 0) (.cons (.idx (.s 1) (.int 2)) .nil))) (.cons (.call "_law_pick" (.cons (.var 0) (.cons (.idx (.s 1) (.int 2)) .nil))) .nil)))
 (.cons (.asg (.v 4) (.call "_law_pick" (.cons (.var 0) (.cons (.idx (.s 1) (.int 2)) .nil))))
 (.cons (.asg (.v 5) (.call "_law_draw" (.cons (.var 0) (.cons (.int 7) .nil))))
 (.cons (.ifS (.cmp .Eq (.s 5) (.e (.int 0)))
 (.cons (.par [8, 9, 10] (.cons (.tup (.cons (.tup (.cons (.var 6) (.cons (.str "a") .nil))) .nil)) (.cons (.var 6) (.cons (.str "a") .nil))))
 .nil)
 (.cons (.ifS (.cmp .Eq (.s 5) (.e (.int 1)))
 (.cons (.par [8, 9, 10] (.cons (.tup (.cons (.tup (.cons (.var 6) (.cons (.str "a") .nil))) (.cons (.tup (.cons (.var 7) (.cons (.str "a") .nil))) .nil))) (.cons (.var 6) (.cons (.str "a") .nil))))
 .nil)
 (.cons (.ifS (.cmp .Eq (.s 5) (.e (.int 2)))
 (.cons (.par [8, 9, 10] (.cons (.tup (.cons (.tup (.cons (.var 6) (.cons (.str "a") .nil))) (.cons (.tup (.cons (.var 7) (.cons (.str "b") .nil))) .nil))) (.cons (.var 7) (.cons (.str "b") .nil))))
 .nil)
 (.cons (.ifS (.cmp .Eq (.s 5) (.e (.int 3)))
 (.cons (.par [8, 9, 10] (.cons (.tup (.cons (.tup (.cons (.var 6) (.cons (.tup (.cons (.str "s") (.cons (.str "a") .nil))) .nil))) .nil)) (.cons (.var 4) (.cons (.str "a") .nil))))
 .nil)
 (.cons (.ifS (.cmp .Eq (.s 5) (.e (.int 4)))
 (.cons (.par [8, 9, 10] (.cons (.tup (.cons (.tup (.cons (.var 6) (.cons (.str "a") .nil))) (.cons (.tup (.cons (.var 7) (.cons (.tup (.cons (.str "s") (.cons (.str "a") .nil))) .nil))) .nil))) (.cons (.var 4) (.cons (.idx (.l (.disp (.cons (.tup (.cons (.str "s") (.cons (.str "a") .nil))) (.cons (.str "a") .nil)))) (.call "_law_draw" (.cons (.var 0) (.cons (.int 2) .nil)))) .nil))))
 .nil)
 (.cons (.ifS (.cmp .Eq (.s 5) (.e (.int 6)))
 (.cons (.par [8, 9, 10] (.cons (.tup (.cons (.tup (.cons (.var 6) (.cons (.str "a") .nil))) (.cons (.tup (.cons (.var 7) (.cons (.str "b") .nil))) (.cons (.tup (.cons (.var 6) (.cons (.str "b") .nil))) .nil)))) (.cons (.var 6) (.cons (.str "a") .nil))))
 .nil)
 (.cons (.par [8, 9, 10] (.cons (.tup (.cons (.tup (.cons (.var 6) (.cons (.str "a") .nil))) .nil)) (.cons (.var 4) (.cons (.idx (.l (.disp (.cons (.str "a") (.cons (.tup (.cons (.str "s") (.cons (.str "a") .nil))) (.cons (.tup (.cons (.str "z") .nil)) .nil))))) (.call "_law_draw" (.cons (.var 0) (.cons (.int 3) .nil)))) .nil))))
 .nil))
 .nil))
 .nil))
 .nil))
 .nil))
 .nil))
 (.cons (.app 2 (.tup (.cons (.bin .add (.str "f") (.toStr (.var 3))) (.cons (.var 8) (.cons (.var 9) (.cons (.var 10) (.cons (.call "_law_draw" (.cons (.var 0) (.cons (.len (.s 8)) .nil))) .nil)))))))
 .nil)))))
def N__law_heads : List Str := ["state", "table", "heads", "k", "made", "kind", "one", "other", "params", "family", "index"]
def m__law_heads : DefM := ⟨2, 11,
 (.cons (.asgL 2 (.disp .nil))
 (.cons (.forS (.v 3) (.rng1 (.bin .add (.int 1) (.call "_law_draw" (.cons (.var 0) (.cons (.int 3) .nil))))) l__law_heads_1)
 (.cons (.ret (.var 2))
 .nil)))⟩
theorem chk__law_heads : chkB ⟨defScope (top 83), N__law_heads, fun _ => true, frB⟩ m__law_heads.body (defBody (top 83)) = true := by decide +kernel
def N__law_deeper : List Str := ["state", "table", "row", "first_v", "at", "rows", "inner", "part", "k"]
def m__law_deeper : DefM := ⟨4, 9,
 (.cons (.asg (.v 4) (.call "_law_draw" (.cons (.var 0) (.cons (.int 4) .nil))))
 (.cons (.ifS (.cmp .GtE (.s 4) (.e (.len (.e (.idx (.s 2) (.int 1))))))
 (.cons (.ret (.var 3))
 .nil)
 .nil)
 (.cons (.asg (.v 5) (.call "_law_constructors" (.cons (.var 1) (.cons (.idx (.e (.idx (.e (.idx (.s 2) (.int 1))) (.var 4))) (.int 0)) .nil))))
 (.cons (.ifS (.cmp .Eq (.e (.len (.s 5))) (.e (.int 0)))
 (.cons (.ret (.var 3))
 .nil)
 .nil)
 (.cons (.asg (.v 6) (.call "_law_pick" (.cons (.var 0) (.cons (.var 5) .nil))))
 (.cons (.asg (.v 7) (.bin .add (.tup (.cons (.idx (.s 6) (.int 0)) .nil)) (.tupOf (.l (.comp (.bin .add (.str "u") (.toStr (.var 8))) (.v 8) (.rng1 (.len (.e (.idx (.s 6) (.int 1))))) .no [("k", 8)])))))
 (.cons (.ret (.bin .add (.bin .add (.slT (.s 3) .no (.e (.bin .add (.int 1) (.var 4)))) (.tup (.cons (.var 7) .nil))) (.slT (.s 3) (.e (.bin .add (.int 2) (.var 4))) .no)))
 .nil)))))))⟩
theorem chk__law_deeper : chkB ⟨defScope (top 84), N__law_deeper, fun _ => true, frB⟩ m__law_deeper.body (defBody (top 84)) = true := by decide +kernel
def l__law_patterns_1 : B :=
 (.cons (.app 3 (.bin .add (.tup (.cons (.var 7) (.cons (.bin .add (.tup (.cons (.idx (.s 9) (.int 0)) .nil)) (.tupOf (.l (.comp (.bin .add (.str "y") (.toStr (.var 10))) (.v 10) (.rng1 (.len (.e (.idx (.s 9) (.int 1))))) .no [("k", 10)])))) .nil))) (.var 4)))
 .nil)
def l__law_patterns_2 : B :=
 (.cons (.asg (.v 7) (.bin .add (.tup (.cons (.idx (.s 5) (.int 0)) .nil)) (.tupOf (.l (.comp (.bin .add (.str "x") (.toStr (.var 10))) (.v 10) (.rng1 (.len (.e (.idx (.s 5) (.int 1))))) .no [("k", 10)])))))
 (.cons (.ifS (.cmp .Eq (.e (.call "_law_draw" (.cons (.var 0) (.cons (.int 3) .nil)))) (.e (.int 0)))
 (.cons (.asg (.v 8) (.call "_law_deeper" (.cons (.var 0) (.cons (.var 1) (.cons (.var 5) (.cons (.var 7) .nil))))))
 (.cons (.ifS (.cmp .NotEq (.s 8) (.s 7))
 (.cons (.app 3 (.bin .add (.slT (.e (.tup (.cons (.var 8) (.cons (.str "y") .nil)))) .no (.e (.len (.e (.idx (.s 2) (.int 1)))))) (.var 4)))
 .nil)
 .nil)
 .nil))
 .nil)
 (.cons (.ifS (.cmp .Eq (.e (.len (.e (.idx (.s 2) (.int 1))))) (.e (.int 1)))
 (.cons (.app 3 (.tup (.cons (.var 7) .nil)))
 .nil)
 (.cons (.ifS (.cmp .Eq (.e (.call "_law_draw" (.cons (.var 0) (.cons (.int 2) .nil)))) (.e (.int 0)))
 (.cons (.app 3 (.bin .add (.tup (.cons (.var 7) (.cons (.str "y") .nil))) (.var 4)))
 .nil)
 (.cons (.forS (.v 9) (.p (.e (.call "_law_constructors" (.cons (.var 1) (.cons (.idx (.e (.idx (.e (.idx (.s 2) (.int 1))) (.int 1))) (.int 0)) .nil))))) l__law_patterns_1)
 .nil))
 .nil))
 .nil)))
def N__law_patterns : List Str := ["state", "table", "head", "rows", "rest", "row", "turn", "first_v", "deeper", "other", "k"]
def m__law_patterns : DefM := ⟨3, 11,
 (.cons (.asgL 3 (.disp .nil))
 (.cons (.asg (.v 4) (.bin .mul (.tup (.cons (.str "w") .nil)) (.max2 (.int 0) (.bin .sub (.len (.e (.idx (.s 2) (.int 1)))) (.int 2)))))
 (.cons (.forS (.v 5) (.p (.e (.call "_law_constructors" (.cons (.var 1) (.cons (.idx (.e (.idx (.e (.idx (.s 2) (.int 1))) (.int 0))) (.int 0)) .nil))))) l__law_patterns_2)
 (.cons (.asg (.v 6) (.call "_law_draw" (.cons (.var 0) (.cons (.int 5) .nil))))
 (.cons (.ifS (.andT (.cmp .Eq (.s 6) (.e (.int 0))) (.oneT (.cmp .Gt (.e (.len (.s 3))) (.e (.int 0)))))
 (.cons (.drop (.popAt 3 (.call "_law_draw" (.cons (.var 0) (.cons (.len (.s 3)) .nil)))))
 .nil)
 .nil)
 (.cons (.ifS (.andT (.cmp .Eq (.s 6) (.e (.int 1))) (.oneT (.cmp .Gt (.e (.len (.s 3))) (.e (.int 0)))))
 (.cons (.asgL 3 (.cat (.l (.disp (.cons (.call "_law_pick" (.cons (.var 0) (.cons (.var 3) .nil))) .nil))) (.s 3)))
 .nil)
 .nil)
 (.cons (.ifS (.orT (.cmp .Lt (.s 6) (.e (.int 3))) (.oneT (.cmp .Eq (.e (.len (.s 3))) (.e (.int 0)))))
 (.cons (.app 3 (.tupOf (.l (.comp (.bin .add (.str "x") (.toStr (.bin .mul (.int 9) (.var 10)))) (.v 10) (.rng1 (.len (.e (.idx (.s 2) (.int 1))))) .no [("k", 10)]))))
 .nil)
 .nil)
 (.cons (.ret (.ofL (.sl (.s 3) .no (.e (.int 10)))))
 .nil))))))))⟩
theorem chk__law_patterns : chkB ⟨defScope (top 85), N__law_patterns, fun _ => true, frB⟩ m__law_patterns.body (defBody (top 85)) = true := by decide +kernel
def l__law_names_at_1 : B :=
 (.cons (.asgL 4 (.cat (.s 4) (.e (.call "_law_names_at" (.cons (.var 0) (.cons (.idx (.s 1) (.bin .add (.int 1) (.var 5))) (.cons (.idx (.e (.idx (.e (.idx (.s 3) (.int 1))) (.var 5))) (.int 0)) .nil)))))))
 .nil)
def N__law_names_at : List Str := ["table", "pattern", "family", "row", "names", "j", "one"]
def m__law_names_at : DefM := ⟨3, 7,
 (.cons (.ifS (.val (.isI (.s 1) "str"))
 (.cons (.ret (.ofL (.disp (.cons (.tup (.cons (.var 1) (.cons (.var 2) .nil))) .nil))))
 .nil)
 .nil)
 (.cons (.asg (.v 3) (.idx (.l (.comp (.var 6) (.v 6) (.p (.e (.idx (.s 0) (.int 3)))) (.t (.cmp .Eq (.e (.idx (.s 6) (.int 0))) (.e (.idx (.s 1) (.int 0))))) [("one", 6)])) (.int 0)))
 (.cons (.asgL 4 (.disp .nil))
 (.cons (.forS (.v 5) (.rng1 (.len (.e (.idx (.s 3) (.int 1))))) l__law_names_at_1)
 (.cons (.ret (.var 4))
 .nil)))))⟩
theorem chk__law_names_at : chkB ⟨defScope (top 86), N__law_names_at, fun _ => true, frB⟩ m__law_names_at.body (defBody (top 86)) = true := by decide +kernel
def l__law_named_1 : B :=
 (.cons (.asg (.v 6) (.call "_law_names_at" (.cons (.var 0) (.cons (.idx (.s 2) (.var 5)) (.cons (.idx (.e (.idx (.e (.idx (.s 1) (.int 1))) (.var 5))) (.int 0)) .nil)))))
 (.cons (.asgL 3 (.cat (.s 3) (.s 6)))
 (.cons (.ifS (.andT (.cmp .Eq (.s 5) (.e (.idx (.s 1) (.int 4)))) (.oneT (.notT (.val (.isI (.e (.idx (.s 2) (.var 5))) "str")))))
 (.cons (.asg (.v 4) (.var 6))
 .nil)
 .nil)
 .nil)))
def N__law_named : List Str := ["table", "head", "patterns", "names", "below", "k", "inner"]
def m__law_named : DefM := ⟨3, 7,
 (.cons (.asgL 3 (.disp .nil))
 (.cons (.asgL 4 (.disp .nil))
 (.cons (.forS (.v 5) (.rng1 (.len (.s 2))) l__law_named_1)
 (.cons (.ret (.tup (.cons (.var 3) (.cons (.var 4) .nil))))
 .nil))))⟩
theorem chk__law_named : chkB ⟨defScope (top 87), N__law_named, fun _ => true, frB⟩ m__law_named.body (defBody (top 87)) = true := by decide +kernel
def l__law_call_1 : B :=
 (.cons (.asg (.v 9) (.idx (.e (.idx (.e (.idx (.e (.idx (.s 2) (.var 4))) (.int 1))) (.var 8))) (.int 0)))
 (.cons (.ifS (.andT (.orT (.cmp .Eq (.s 4) (.s 3)) (.oneT (.tru (.e (.idx (.s 0) (.int 2)))))) (.oneT (.cmp .Eq (.s 8) (.e (.idx (.e (.idx (.s 2) (.var 4))) (.int 4))))))
 (.cons (.asgL 10 (.comp (.var 11) (.tup (.cons (.v 11) (.cons (.v 12) .nil))) (.p (.e (.idx (.s 5) (.int 1)))) (.t (.cmp .Eq (.s 12) (.s 9))) [("name", 11), ("kind", 12)]))
 (.cons (.app 7 (.idx (.l (.disp (.cons .non (.cons (.var 10) .nil)))) (.toInt (.cmp .Gt (.e (.len (.s 10))) (.e (.int 0))))))
 (.cons (.ifS (.cmp .IsNot (.e (.idx (.s 7) (.var 8))) (.e .non))
 (.cons (.setL 7 (.var 8) (.call "_law_pick" (.cons (.var 0) (.cons (.var 10) .nil))))
 .nil)
 .nil)
 .nil)))
 (.cons (.app 7 (.call "_law_body" (.cons (.var 0) (.cons (.var 1) (.cons (.var 2) (.cons (.var 3) (.cons (.var 5) (.cons (.var 9) (.cons (.bin .sub (.var 6) (.int 1)) .nil)))))))))
 .nil))
 .nil))
def N__law_call : List Str := ["state", "table", "heads", "k", "j", "known", "deep", "args", "at", "family", "found", "name", "kind"]
def m__law_call : DefM := ⟨7, 13,
 (.cons (.asgL 7 (.disp .nil))
 (.cons (.forS (.v 8) (.rng1 (.len (.e (.idx (.e (.idx (.s 2) (.var 4))) (.int 1))))) l__law_call_1)
 (.cons (.ifS (.cmp .In (.e .non) (.s 7))
 (.cons (.ret .non)
 .nil)
 .nil)
 (.cons (.ret (.bin .add (.tup (.cons (.idx (.e (.idx (.s 2) (.var 4))) (.int 0)) .nil)) (.tupOf (.s 7))))
 .nil))))⟩
theorem chk__law_call : chkB ⟨defScope (top 88), N__law_call, fun _ => true, frB⟩ m__law_call.body (defBody (top 88)) = true := by decide +kernel
def N__law_made : List Str := ["state", "table", "heads", "k", "known", "row", "deep", "parts", "family", "term"]
def m__law_made : DefM := ⟨7, 10,
 (.cons (.asgL 7 (.comp (.call "_law_body" (.cons (.var 0) (.cons (.var 1) (.cons (.var 2) (.cons (.var 3) (.cons (.var 4) (.cons (.var 8) (.cons (.bin .sub (.var 6) (.int 1)) .nil)))))))) (.tup (.cons (.v 8) (.cons (.v 9) .nil))) (.p (.e (.idx (.s 5) (.int 1)))) .no [("family", 8), ("term", 9)]))
 (.cons (.ifS (.cmp .In (.e .non) (.s 7))
 (.cons (.ret .non)
 .nil)
 .nil)
 (.cons (.ret (.bin .add (.tup (.cons (.idx (.s 5) (.int 0)) .nil)) (.tupOf (.s 7))))
 .nil)))⟩
theorem chk__law_made : chkB ⟨defScope (top 89), N__law_made, fun _ => true, frB⟩ m__law_made.body (defBody (top 89)) = true := by decide +kernel
def N__law_body : List Str := ["state", "table", "heads", "k", "known", "family", "deep", "names", "rows", "calls", "pick", "flat", "found", "j", "row", "name", "kind"]
def m__law_body : DefM := ⟨7, 17,
 (.cons (.asgL 7 (.comp (.var 15) (.tup (.cons (.v 15) (.cons (.v 16) .nil))) (.p (.e (.idx (.s 4) (.int 0)))) (.t (.cmp .Eq (.s 16) (.s 5))) [("name", 15), ("kind", 16)]))
 (.cons (.asg (.v 8) (.call "_law_constructors" (.cons (.var 1) (.cons (.var 5) .nil))))
 (.cons (.asgL 9 (.comp (.var 13) (.v 13) (.rng1 (.len (.s 2))) (.t (.andT (.cmp .Eq (.e (.idx (.e (.idx (.s 2) (.var 13))) (.int 2))) (.s 5)) (.oneT (.orT (.cmp .LtE (.s 13) (.s 3)) (.oneT (.tru (.e (.idx (.s 0) (.int 2))))))))) [("j", 13)]))
 (.cons (.asg (.v 10) (.call "_law_draw" (.cons (.var 0) (.cons (.int 6) .nil))))
 (.cons (.ifS (.andT (.cmp .Lt (.s 10) (.e (.int 2))) (.andT (.cmp .Gt (.e (.len (.s 9))) (.e (.int 0))) (.oneT (.cmp .Gt (.s 6) (.e (.int 0))))))
 (.cons (.asg (.v 12) (.call "_law_call" (.cons (.var 0) (.cons (.var 1) (.cons (.var 2) (.cons (.var 3) (.cons (.call "_law_pick" (.cons (.var 0) (.cons (.var 9) .nil))) (.cons (.var 4) (.cons (.var 6) .nil)))))))))
 (.cons (.ifS (.cmp .IsNot (.s 12) (.e .non))
 (.cons (.ret (.var 12))
 .nil)
 .nil)
 .nil))
 .nil)
 (.cons (.ifS (.andT (.cmp .Lt (.s 10) (.e (.int 4))) (.andT (.cmp .Gt (.e (.len (.s 8))) (.e (.int 0))) (.oneT (.cmp .Gt (.s 6) (.e (.int 0))))))
 (.cons (.asg (.v 12) (.call "_law_made" (.cons (.var 0) (.cons (.var 1) (.cons (.var 2) (.cons (.var 3) (.cons (.var 4) (.cons (.call "_law_pick" (.cons (.var 0) (.cons (.var 8) .nil))) (.cons (.var 6) .nil)))))))))
 (.cons (.ifS (.cmp .IsNot (.s 12) (.e .non))
 (.cons (.ret (.var 12))
 .nil)
 .nil)
 .nil))
 .nil)
 (.cons (.ifS (.cmp .Gt (.e (.len (.s 7))) (.e (.int 0)))
 (.cons (.ret (.call "_law_pick" (.cons (.var 0) (.cons (.var 7) .nil))))
 .nil)
 .nil)
 (.cons (.asgL 11 (.comp (.var 14) (.v 14) (.p (.e (.var 8))) (.t (.cmp .Eq (.e (.len (.e (.idx (.s 14) (.int 1))))) (.e (.int 0)))) [("row", 14)]))
 (.cons (.ifS (.cmp .Gt (.e (.len (.s 11))) (.e (.int 0)))
 (.cons (.ret (.tup (.cons (.idx (.e (.call "_law_pick" (.cons (.var 0) (.cons (.var 11) .nil)))) (.int 0)) .nil)))
 .nil)
 .nil)
 (.cons (.ret .non)
 .nil))))))))))⟩
theorem chk__law_body : chkB ⟨defScope (top 90), N__law_body, fun _ => true, frB⟩ m__law_body.body (defBody (top 90)) = true := by decide +kernel
def l__law_copy_1 : B :=
 (.cons (.asg (.v 8) (.cmp .Gt (.e (.len (.l (.comp (.var 9) (.v 9) (.p (.e (.idx (.s 4) (.int 1)))) (.t (.cmp .Eq (.s 9) (.e (.tup (.cons (.var 7) (.cons (.idx (.e (.idx (.e (.idx (.s 5) (.int 1))) (.int 0))) (.int 0)) .nil)))))) [("pair", 9)])))) (.e (.int 0))))
 (.cons (.ifS (.andT (.val (.isI (.s 7) "str")) (.andT (.tru (.s 8)) (.andT (.cmp .Eq (.e (.len (.s 3))) (.e (.int 1))) (.oneT (.cmp .Eq (.e (.call "_law_draw" (.cons (.var 0) (.cons (.int 2) .nil)))) (.e (.int 0)))))))
 (.cons (.app 6 (.tup (.cons (.idx (.s 5) (.int 0)) (.cons (.var 7) .nil))))
 .nil)
 (.cons (.app 6 (.var 7))
 .nil))
 .nil))
def N__law_copy : List Str := ["state", "heads", "k", "patterns", "known", "head", "parts", "name", "inner", "pair"]
def m__law_copy : DefM := ⟨5, 10,
 (.cons (.asg (.v 5) (.idx (.s 1) (.var 2)))
 (.cons (.ifS (.val (.isI (.e (.idx (.s 3) (.int 0))) "str"))
 (.cons (.ret (.idx (.s 3) (.int 0)))
 .nil)
 .nil)
 (.cons (.asgL 6 (.disp .nil))
 (.cons (.forS (.v 7) (.p (.e (.slT (.e (.idx (.s 3) (.int 0))) (.e (.int 1)) .no))) l__law_copy_1)
 (.cons (.ret (.bin .add (.tup (.cons (.idx (.e (.idx (.s 3) (.int 0))) (.int 0)) .nil)) (.tupOf (.s 6))))
 .nil)))))⟩
theorem chk__law_copy : chkB ⟨defScope (top 91), N__law_copy, fun _ => true, frB⟩ m__law_copy.body (defBody (top 91)) = true := by decide +kernel
def l__law_program_1 : B :=
 (.cons (.asg (.v 7) (.call "_law_named" (.cons (.var 1) (.cons (.idx (.s 2) (.var 4)) (.cons (.var 6) .nil)))))
 (.cons (.asg (.v 8) .non)
 (.cons (.ifS (.andT (.cmp .Eq (.e (.idx (.e (.idx (.s 2) (.var 4))) (.int 2))) (.e (.idx (.e (.idx (.e (.idx (.e (.idx (.s 2) (.var 4))) (.int 1))) (.int 0))) (.int 0)))) (.oneT (.cmp .Gt (.e (.call "_law_draw" (.cons (.var 0) (.cons (.int 3) .nil)))) (.e (.int 0)))))
 (.cons (.asg (.v 8) (.call "_law_copy" (.cons (.var 0) (.cons (.var 2) (.cons (.var 4) (.cons (.var 6) (.cons (.var 7) .nil)))))))
 .nil)
 .nil)
 (.cons (.ifS (.cmp .Is (.s 8) (.e .non))
 (.cons (.asg (.v 8) (.call "_law_body" (.cons (.var 0) (.cons (.var 1) (.cons (.var 2) (.cons (.var 4) (.cons (.var 7) (.cons (.idx (.e (.idx (.s 2) (.var 4))) (.int 2)) (.cons (.int 2) .nil)))))))))
 .nil)
 .nil)
 (.cons (.ifS (.cmp .IsNot (.s 8) (.e .non))
 (.cons (.app 5 (.tup (.cons (.var 6) (.cons (.var 8) .nil))))
 .nil)
 .nil)
 .nil)))))
def l__law_program_2 : B :=
 (.cons (.asgL 5 (.disp .nil))
 (.cons (.forS (.v 6) (.p (.e (.call "_law_patterns" (.cons (.var 0) (.cons (.var 1) (.cons (.idx (.s 2) (.var 4)) .nil)))))) l__law_program_1)
 (.cons (.app 3 (.bin .add (.idx (.s 2) (.var 4)) (.tup (.cons (.tupOf (.s 5)) .nil))))
 .nil)))
def N__law_program : List Str := ["state", "table", "heads", "functions", "k", "clauses", "patterns", "known", "body"]
def m__law_program : DefM := ⟨2, 9,
 (.cons (.asg (.v 2) (.call "_law_heads" (.cons (.var 0) (.cons (.var 1) .nil))))
 (.cons (.hset (.s 0) (.int 2) (.cmp .Eq (.e (.call "_law_draw" (.cons (.var 0) (.cons (.int 3) .nil)))) (.e (.int 0))))
 (.cons (.asgL 3 (.disp .nil))
 (.cons (.forS (.v 4) (.rng1 (.len (.s 2))) l__law_program_2)
 (.cons (.ret (.tup (.cons (.str "program") (.cons (.tupOf (.s 3)) .nil))))
 .nil)))))⟩
theorem chk__law_program : chkB ⟨defScope (top 92), N__law_program, fun _ => true, frB⟩ m__law_program.body (defBody (top 92)) = true := by decide +kernel
def l__law_fit_1 : B :=
 (.cons (.asg (.tup (.cons (.v 5) (.cons (.v 6) .nil))) (.pop 3))
 (.cons (.ifS (.val (.isI (.s 5) "str"))
 (.cons (.ifS (.andT (.cmp .In (.s 5) (.s 2)) (.oneT (.cmp .NotEq (.e (.idx (.s 2) (.var 5))) (.s 6))))
 (.cons (.ret .non)
 .nil)
 .nil)
 (.cons (.put 2 (.var 5) (.var 6))
 .nil))
 (.cons (.ifS (.cmp .NotEq (.e (.idx (.s 5) (.int 0))) (.e (.idx (.s 6) (.int 0))))
 (.cons (.ret .non)
 .nil)
 (.cons (.asgL 3 (.cat (.s 3) (.l (.comp (.tup (.cons (.idx (.s 5) (.var 4)) (.cons (.idx (.s 6) (.var 4)) .nil))) (.v 4) (.rng2 (.int 1) (.len (.s 5))) .no [("k", 4)]))))
 .nil))
 .nil))
 .nil))
def N__law_fit : List Str := ["patterns", "trees", "found", "pairs", "k", "pattern", "tree"]
def m__law_fit : DefM := ⟨2, 7,
 (.cons (.asgD 2 .nil)
 (.cons (.asgL 3 (.comp (.tup (.cons (.idx (.s 0) (.var 4)) (.cons (.idx (.s 1) (.var 4)) .nil))) (.v 4) (.rng1 (.len (.s 0))) .no [("k", 4)]))
 (.cons (.whileS (.cmp .Gt (.e (.len (.s 3))) (.e (.int 0))) l__law_fit_1)
 (.cons (.ret (.var 2))
 .nil))))⟩
theorem chk__law_fit : chkB ⟨defScope (top 93), N__law_fit, fun _ => true, frB⟩ m__law_fit.body (defBody (top 93)) = true := by decide +kernel
def N__law_put : List Str := ["term", "trees", "part"]
def m__law_put : DefM := ⟨2, 3,
 (.cons (.ifS (.val (.isI (.s 0) "str"))
 (.cons (.ret (.idx (.s 1) (.var 0)))
 .nil)
 .nil)
 (.cons (.ret (.bin .add (.tup (.cons (.idx (.s 0) (.int 0)) .nil)) (.tupOf (.l (.comp (.call "_law_put" (.cons (.var 2) (.cons (.var 1) .nil))) (.v 2) (.p (.e (.slT (.s 0) (.e (.int 1)) .no))) .no [("part", 2)])))))
 .nil))⟩
theorem chk__law_put : chkB ⟨defScope (top 94), N__law_put, fun _ => true, frB⟩ m__law_put.body (defBody (top 94)) = true := by decide +kernel
def N__law_index : List Str := ["table", "value", "row", "found", "trees", "part", "one", "pair"]
def m__law_index : DefM := ⟨2, 8,
 (.cons (.asg (.v 2) (.idx (.l (.comp (.var 6) (.v 6) (.p (.e (.idx (.s 0) (.int 3)))) (.t (.cmp .Eq (.e (.idx (.s 6) (.int 0))) (.e (.idx (.s 1) (.int 0))))) [("one", 6)])) (.int 0)))
 (.cons (.asgL 3 (.comp (.call "_law_index" (.cons (.var 0) (.cons (.var 5) .nil))) (.v 5) (.p (.e (.slT (.s 1) (.e (.int 1)) .no))) .no [("part", 5)]))
 (.cons (.ifS (.orT (.cmp .In (.e .non) (.s 3)) (.oneT (.cmp .NotEq (.l (.comp (.idx (.s 7) (.int 0)) (.v 7) (.p (.e (.var 3))) .no [("pair", 7)])) (.l (.comp (.idx (.s 7) (.int 0)) (.v 7) (.p (.e (.idx (.s 2) (.int 1)))) .no [("pair", 7)])))))
 (.cons (.ret .non)
 .nil)
 .nil)
 (.cons (.asg (.v 4) (.call "_law_fit" (.cons (.ofL (.comp (.idx (.s 7) (.int 1)) (.v 7) (.p (.e (.idx (.s 2) (.int 1)))) .no [("pair", 7)])) (.cons (.ofL (.comp (.idx (.s 7) (.int 1)) (.v 7) (.p (.e (.var 3))) .no [("pair", 7)])) .nil))))
 (.cons (.ifS (.cmp .Is (.s 4) (.e .non))
 (.cons (.ret .non)
 .nil)
 .nil)
 (.cons (.ret (.tup (.cons (.idx (.s 2) (.int 2)) (.cons (.call "_law_put" (.cons (.idx (.s 2) (.int 3)) (.cons (.var 4) .nil))) .nil))))
 .nil))))))⟩
theorem chk__law_index : chkB ⟨defScope (top 95), N__law_index, fun _ => true, frB⟩ m__law_index.body (defBody (top 95)) = true := by decide +kernel
def l__law_taken_1 : B :=
 (.cons (.asg (.tup (.cons (.v 5) (.cons (.v 6) .nil))) (.pop 3))
 (.cons (.ifS (.val (.isI (.s 5) "str"))
 (.cons (.put 2 (.var 5) (.var 6))
 .nil)
 (.cons (.ifS (.cmp .NotEq (.e (.idx (.s 5) (.int 0))) (.e (.idx (.s 6) (.int 0))))
 (.cons (.ret .non)
 .nil)
 (.cons (.asgL 3 (.cat (.s 3) (.l (.comp (.tup (.cons (.idx (.s 5) (.var 4)) (.cons (.idx (.s 6) (.var 4)) .nil))) (.v 4) (.rng2 (.int 1) (.len (.s 5))) .no [("k", 4)]))))
 .nil))
 .nil))
 .nil))
def N__law_taken : List Str := ["patterns", "values", "found", "pairs", "k", "pattern", "value"]
def m__law_taken : DefM := ⟨2, 7,
 (.cons (.asgD 2 .nil)
 (.cons (.asgL 3 (.comp (.tup (.cons (.idx (.s 0) (.var 4)) (.cons (.idx (.s 1) (.var 4)) .nil))) (.v 4) (.rng1 (.len (.s 0))) .no [("k", 4)]))
 (.cons (.whileS (.cmp .Gt (.e (.len (.s 3))) (.e (.int 0))) l__law_taken_1)
 (.cons (.ret (.var 2))
 .nil))))⟩
theorem chk__law_taken : chkB ⟨defScope (top 96), N__law_taken, fun _ => true, frB⟩ m__law_taken.body (defBody (top 96)) = true := by decide +kernel
def l__law_clause_1 : B :=
 (.cons (.ifS (.cmp .IsNot (.e (.call "_law_taken" (.cons (.idx (.e (.idx (.e (.idx (.s 0) (.int 5))) (.var 2))) (.int 0)) (.cons (.var 1) .nil)))) (.e .non))
 (.cons (.ret (.var 2))
 .nil)
 .nil)
 .nil)
def N__law_clause : List Str := ["function", "values", "k"]
def m__law_clause : DefM := ⟨2, 3,
 (.cons (.forS (.v 2) (.rng1 (.len (.e (.idx (.s 0) (.int 5))))) l__law_clause_1)
 (.cons (.ret (.int (-1)))
 .nil))⟩
theorem chk__law_clause : chkB ⟨defScope (top 97), N__law_clause, fun _ => true, frB⟩ m__law_clause.body (defBody (top 97)) = true := by decide +kernel
def l__law_head_1 : B :=
 (.cons (.ifS (.cmp .Eq (.e (.idx (.s 3) (.int 0))) (.s 2))
 (.cons (.ret (.tup (.cons (.ofL (.comp (.idx (.s 5) (.int 1)) (.v 5) (.p (.e (.idx (.s 3) (.int 1)))) .no [("part", 5)])) (.cons (.idx (.s 3) (.int 3)) (.cons (.str "make") .nil)))))
 .nil)
 .nil)
 .nil)
def N__law_head : List Str := ["table", "program", "word", "row", "one", "part"]
def m__law_head : DefM := ⟨3, 6,
 (.cons (.forS (.v 3) (.p (.e (.idx (.s 0) (.int 3)))) l__law_head_1)
 (.cons (.asg (.v 3) (.idx (.l (.comp (.var 4) (.v 4) (.p (.e (.idx (.s 1) (.int 1)))) (.t (.cmp .Eq (.e (.idx (.s 4) (.int 0))) (.s 2))) [("one", 4)])) (.int 0)))
 (.cons (.ret (.tup (.cons (.ofL (.comp (.idx (.s 5) (.int 1)) (.v 5) (.p (.e (.idx (.s 3) (.int 1)))) .no [("part", 5)])) (.cons (.idx (.s 3) (.int 3)) (.cons (.str "demand") .nil)))))
 .nil)))⟩
theorem chk__law_head : chkB ⟨defScope (top 98), N__law_head, fun _ => true, frB⟩ m__law_head.body (defBody (top 98)) = true := by decide +kernel
def l__law_reckoned_1 : B :=
 (.cons (.asg (.v 8) (.call "_law_reckoned" (.cons (.var 0) (.cons (.var 1) (.cons (.idx (.s 2) (.var 6)) (.cons (.var 3) (.cons (.bin .add (.var 4) (.tup (.cons (.bin .sub (.var 6) (.int 1)) .nil))) .nil)))))))
 (.cons (.ifS (.cmp .NotEq (.e (.idx (.s 8) (.int 0))) (.e (.str "index")))
 (.cons (.ret (.var 8))
 .nil)
 .nil)
 (.cons (.app 5 (.idx (.s 8) (.int 1)))
 .nil)))
def N__law_reckoned : List Str := ["table", "program", "body", "trees", "way", "found", "k", "bound", "answer", "terms", "index", "word"]
def m__law_reckoned : DefM := ⟨5, 12,
 (.cons (.ifS (.val (.isI (.s 2) "str"))
 (.cons (.ret (.tup (.cons (.str "index") (.cons (.idx (.s 3) (.var 2)) .nil))))
 .nil)
 .nil)
 (.cons (.asgL 5 (.disp .nil))
 (.cons (.forS (.v 6) (.rng2 (.int 1) (.len (.s 2))) l__law_reckoned_1)
 (.cons (.asg (.tup (.cons (.v 9) (.cons (.v 10) (.cons (.v 11) .nil)))) (.call "_law_head" (.cons (.var 0) (.cons (.var 1) (.cons (.idx (.s 2) (.int 0)) .nil)))))
 (.cons (.asg (.v 7) (.call "_law_fit" (.cons (.var 9) (.cons (.var 5) .nil))))
 (.cons (.ifS (.cmp .Is (.s 7) (.e .non))
 (.cons (.ret (.tup (.cons (.var 11) (.cons (.var 4) .nil))))
 .nil)
 .nil)
 (.cons (.ret (.tup (.cons (.str "index") (.cons (.call "_law_put" (.cons (.var 10) (.cons (.var 7) .nil))) .nil))))
 .nil)))))))⟩
theorem chk__law_reckoned : chkB ⟨defScope (top 99), N__law_reckoned, fun _ => true, frB⟩ m__law_reckoned.body (defBody (top 99)) = true := by decide +kernel
def l__law_told_1 : B :=
 (.cons (.put 7 (.var 8) (.idx (.e (.call "_law_index" (.cons (.var 0) (.cons (.idx (.s 6) (.var 8)) .nil)))) (.int 1)))
 .nil)
def N__law_told : List Str := ["table", "program", "function", "values", "trees", "clause", "names", "indices", "name", "answer"]
def m__law_told : DefM := ⟨5, 10,
 (.cons (.asg (.v 5) (.call "_law_clause" (.cons (.var 2) (.cons (.var 3) .nil))))
 (.cons (.ifS (.cmp .Eq (.s 5) (.e (.int (-1))))
 (.cons (.ret (.tup (.cons (.str "hole") (.cons (.tup .nil) .nil))))
 .nil)
 .nil)
 (.cons (.asg (.v 6) (.call "_law_taken" (.cons (.idx (.e (.idx (.e (.idx (.s 2) (.int 5))) (.var 5))) (.int 0)) (.cons (.var 3) .nil))))
 (.cons (.asgD 7 .nil)
 (.cons (.forS (.v 8) (.p (.e (.var 6))) l__law_told_1)
 (.cons (.asg (.v 9) (.call "_law_reckoned" (.cons (.var 0) (.cons (.var 1) (.cons (.idx (.e (.idx (.e (.idx (.s 2) (.int 5))) (.var 5))) (.int 1)) (.cons (.var 7) (.cons (.tup .nil) .nil)))))))
 (.cons (.ifS (.cmp .NotEq (.e (.idx (.s 9) (.int 0))) (.e (.str "index")))
 (.cons (.ret (.var 9))
 .nil)
 .nil)
 (.cons (.ifS (.cmp .NotEq (.e (.idx (.s 9) (.int 1))) (.e (.call "_law_put" (.cons (.idx (.s 2) (.int 3)) (.cons (.var 4) .nil)))))
 (.cons (.ret (.tup (.cons (.str "result") (.cons (.tup .nil) .nil))))
 .nil)
 .nil)
 (.cons (.ret .non)
 .nil)))))))))⟩
theorem chk__law_told : chkB ⟨defScope (top 100), N__law_told, fun _ => true, frB⟩ m__law_told.body (defBody (top 100)) = true := by decide +kernel
def l__law_grown_1 : B :=
 (.cons (.asg (.v 11) (.bin .add (.tup (.cons (.idx (.s 4) (.int 0)) .nil)) (.var 6)))
 (.cons (.asg (.v 12) (.call "_law_index" (.cons (.var 0) (.cons (.var 11) .nil))))
 (.cons (.ifS (.andT (.cmp .IsNot (.s 12) (.e .non)) (.oneT (.cmp .Eq (.e (.len (.l (.comp (.var 13) (.v 13) (.own 3) (.t (.cmp .Eq (.e (.idx (.s 13) (.int 0))) (.s 11))) [("one", 13)])))) (.e (.int 0)))))
 (.cons (.app 3 (.tup (.cons (.var 11) (.cons (.idx (.s 12) (.int 0)) (.cons (.idx (.s 12) (.int 1)) .nil)))))
 .nil)
 .nil)
 .nil)))
def l__law_grown_2 : B :=
 (.cons (.asgL 9 (.cat (.s 9) (.l (.comp (.bin .add (.var 6) (.tup (.cons (.idx (.s 13) (.int 0)) .nil))) (.v 13) (.p (.e (.var 1))) (.t (.cmp .Eq (.e (.idx (.s 13) (.int 1))) (.s 7))) [("one", 13)]))))
 .nil)
def l__law_grown_3 : B :=
 (.cons (.asgL 9 (.disp .nil))
 (.cons (.forS (.v 6) (.p (.e (.var 5))) l__law_grown_2)
 (.cons (.asg (.v 10) (.bin .add (.int 1) (.bin .fdiv (.len (.s 9)) (.bin .add (.var 2) (.int 1)))))
 (.cons (.asgL 5 (.slS (.s 9) (.bin .mod (.len (.s 3)) (.var 10)) (.var 10)))
 .nil))))
def l__law_grown_4 : B :=
 (.cons (.asgL 5 (.disp (.cons (.tup .nil) .nil)))
 (.cons (.forS (.tup (.cons (.v 7) (.cons (.v 8) .nil))) (.p (.e (.idx (.s 4) (.int 1)))) l__law_grown_3)
 (.cons (.forS (.v 6) (.p (.e (.var 5))) l__law_grown_1)
 .nil)))
def N__law_grown : List Str := ["table", "known", "most", "more", "row", "rows", "parts", "family", "term", "longer", "step", "value", "index", "one"]
def m__law_grown : DefM := ⟨3, 14,
 (.cons (.asgL 3 (.ofP (.s 1)))
 (.cons (.forS (.v 4) (.p (.e (.idx (.s 0) (.int 3)))) l__law_grown_4)
 (.cons (.ret (.var 3))
 .nil)))⟩
theorem chk__law_grown : chkB ⟨defScope (top 101), N__law_grown, fun _ => true, frB⟩ m__law_grown.body (defBody (top 101)) = true := by decide +kernel
def l__law_values_1 : B :=
 (.cons (.asg (.v 3) (.call "_law_grown" (.cons (.var 0) (.cons (.var 3) (.cons (.var 2) .nil)))))
 .nil)
def N__law_values : List Str := ["table", "rounds", "most", "known", "k"]
def m__law_values : DefM := ⟨3, 5,
 (.cons (.asgL 3 (.disp .nil))
 (.cons (.forS (.v 4) (.rng1 (.var 1)) l__law_values_1)
 (.cons (.ret (.var 3))
 .nil)))⟩
theorem chk__law_values : chkB ⟨defScope (top 102), N__law_values, fun _ => true, frB⟩ m__law_values.body (defBody (top 102)) = true := by decide +kernel
def l__law_asked_1 : B :=
 (.cons (.asg (.v 11) (.call "_law_fit" (.cons (.ofL (.comp (.idx (.s 12) (.int 1)) (.v 12) (.p (.e (.idx (.s 0) (.int 1)))) .no [("param", 12)])) (.cons (.ofL (.comp (.idx (.s 13) (.int 2)) (.v 13) (.p (.e (.var 5))) .no [("one", 13)])) .nil))))
 (.cons (.ifS (.andT (.cmp .IsNot (.s 11) (.e .non)) (.oneT (.cmp .Lt (.e (.len (.s 4))) (.s 2))))
 (.cons (.app 4 (.tup (.cons (.tupOf (.l (.comp (.idx (.s 13) (.int 0)) (.v 13) (.p (.e (.var 5))) .no [("one", 13)]))) (.cons (.var 11) .nil))))
 .nil)
 .nil)
 .nil))
def l__law_asked_2 : B :=
 (.cons (.asgL 8 (.cat (.s 8) (.l (.comp (.bin .add (.var 9) (.tup (.cons (.var 13) .nil))) (.v 13) (.p (.e (.var 1))) (.t (.cmp .Eq (.e (.idx (.s 13) (.int 1))) (.s 6))) [("one", 13)]))))
 .nil)
def l__law_asked_3 : B :=
 (.cons (.asgL 8 (.disp .nil))
 (.cons (.forS (.v 9) (.p (.e (.var 3))) l__law_asked_2)
 (.cons (.asg (.v 10) (.bin .add (.int 1) (.bin .fdiv (.len (.s 8)) (.bin .add (.bin .mul (.int 40) (.var 2)) (.int 1)))))
 (.cons (.asgL 3 (.slS (.s 8) (.bin .fdiv (.var 10) (.int 2)) (.var 10)))
 .nil))))
def N__law_asked : List Str := ["function", "known", "most", "rows", "found", "row", "family", "term", "longer", "parts", "step", "trees", "param", "one"]
def m__law_asked : DefM := ⟨3, 14,
 (.cons (.asgL 3 (.disp (.cons (.tup .nil) .nil)))
 (.cons (.forS (.tup (.cons (.v 6) (.cons (.v 7) .nil))) (.p (.e (.idx (.s 0) (.int 1)))) l__law_asked_3)
 (.cons (.asgL 4 (.disp .nil))
 (.cons (.forS (.v 5) (.p (.e (.var 3))) l__law_asked_1)
 (.cons (.ret (.var 4))
 .nil)))))⟩
theorem chk__law_asked : chkB ⟨defScope (top 103), N__law_asked, fun _ => true, frB⟩ m__law_asked.body (defBody (top 103)) = true := by decide +kernel
def l__law_wrong_ones_1 : B :=
 (.cons (.ifS (.cmp .Is (.e (.call "_law_told" (.cons (.var 0) (.cons (.var 1) (.cons (.var 5) (.cons (.var 6) (.cons (.var 7) .nil))))))) (.e .non))
 (.cons (.app 4 (.tup (.cons (.idx (.s 5) (.int 0)) (.cons (.var 6) .nil))))
 .nil)
 (.cons (.app 3 (.tup (.cons (.idx (.s 5) (.int 0)) (.cons (.var 6) .nil))))
 .nil))
 .nil)
def l__law_wrong_ones_2 : B :=
 (.cons (.forS (.tup (.cons (.v 6) (.cons (.v 7) .nil))) (.p (.e (.call "_law_asked" (.cons (.var 5) (.cons (.var 2) (.cons (.int 20) .nil)))))) l__law_wrong_ones_1)
 .nil)
def N__law_wrong_ones : List Str := ["table", "program", "known", "wrong", "right", "function", "values", "trees"]
def m__law_wrong_ones : DefM := ⟨3, 8,
 (.cons (.asgL 3 (.disp .nil))
 (.cons (.asgL 4 (.disp .nil))
 (.cons (.forS (.v 5) (.p (.e (.idx (.s 1) (.int 1)))) l__law_wrong_ones_2)
 (.cons (.ret (.tup (.cons (.var 3) (.cons (.var 4) .nil))))
 .nil))))⟩
theorem chk__law_wrong_ones : chkB ⟨defScope (top 104), N__law_wrong_ones, fun _ => true, frB⟩ m__law_wrong_ones.body (defBody (top 104)) = true := by decide +kernel
def N__law_raw : List Str := ["state", "table", "family", "deep", "rows", "flat", "row", "parts", "part"]
def m__law_raw : DefM := ⟨4, 9,
 (.cons (.asgL 4 (.comp (.var 6) (.v 6) (.p (.e (.idx (.s 1) (.int 3)))) (.t (.cmp .Eq (.e (.idx (.s 6) (.int 2))) (.s 2))) [("row", 6)]))
 (.cons (.ifS (.orT (.cmp .Eq (.e (.len (.s 4))) (.e (.int 0))) (.oneT (.cmp .Eq (.e (.call "_law_draw" (.cons (.var 0) (.cons (.int 12) .nil)))) (.e (.int 0)))))
 (.cons (.asgL 4 (.ofP (.e (.idx (.s 1) (.int 3)))))
 .nil)
 .nil)
 (.cons (.asgL 5 (.comp (.var 6) (.v 6) (.p (.e (.var 4))) (.t (.cmp .Eq (.e (.len (.e (.idx (.s 6) (.int 1))))) (.e (.int 0)))) [("row", 6)]))
 (.cons (.ifS (.andT (.cmp .Eq (.s 3) (.e (.int 0))) (.oneT (.cmp .Gt (.e (.len (.s 5))) (.e (.int 0)))))
 (.cons (.asg (.v 4) (.var 5))
 .nil)
 .nil)
 (.cons (.ifS (.cmp .Lt (.s 3) (.e (.int 0)))
 (.cons (.asgL 4 (.comp (.var 6) (.v 6) (.p (.e (.idx (.s 1) (.int 3)))) (.t (.cmp .Eq (.e (.len (.e (.idx (.s 6) (.int 1))))) (.e (.int 0)))) [("row", 6)]))
 (.cons (.ifS (.cmp .Eq (.e (.len (.s 4))) (.e (.int 0)))
 (.cons (.ret .non)
 .nil)
 .nil)
 .nil))
 .nil)
 (.cons (.asg (.v 6) (.call "_law_pick" (.cons (.var 0) (.cons (.var 4) .nil))))
 (.cons (.asgL 7 (.comp (.call "_law_raw" (.cons (.var 0) (.cons (.var 1) (.cons (.idx (.s 8) (.int 0)) (.cons (.bin .sub (.var 3) (.int 1)) .nil))))) (.v 8) (.p (.e (.idx (.s 6) (.int 1)))) .no [("part", 8)]))
 (.cons (.ifS (.cmp .In (.e .non) (.s 7))
 (.cons (.ret .non)
 .nil)
 .nil)
 (.cons (.ret (.bin .add (.tup (.cons (.idx (.s 6) (.int 0)) .nil)) (.tupOf (.s 7))))
 .nil)))))))))⟩
theorem chk__law_raw : chkB ⟨defScope (top 105), N__law_raw, fun _ => true, frB⟩ m__law_raw.body (defBody (top 105)) = true := by decide +kernel
def N__law_not_right : List Str := ["table", "program", "word", "values", "found", "indices", "trees", "row", "value", "param", "pair"]
def m__law_not_right : DefM := ⟨4, 11,
 (.cons (.asgL 4 (.comp (.var 7) (.v 7) (.p (.e (.idx (.s 1) (.int 1)))) (.t (.cmp .Eq (.e (.idx (.s 7) (.int 0))) (.s 2))) [("row", 7)]))
 (.cons (.ifS (.orT (.cmp .Eq (.e (.len (.s 4))) (.e (.int 0))) (.oneT (.cmp .NotEq (.e (.len (.s 3))) (.e (.len (.e (.idx (.e (.idx (.s 4) (.int 0))) (.int 1))))))))
 (.cons (.ret (.bl false))
 .nil)
 .nil)
 (.cons (.asgL 5 (.comp (.call "_law_index" (.cons (.var 0) (.cons (.var 8) .nil))) (.v 8) (.p (.e (.var 3))) .no [("value", 8)]))
 (.cons (.ifS (.orT (.cmp .In (.e .non) (.s 5)) (.oneT (.cmp .NotEq (.l (.comp (.idx (.s 10) (.int 0)) (.v 10) (.p (.e (.var 5))) .no [("pair", 10)])) (.l (.comp (.idx (.s 9) (.int 0)) (.v 9) (.p (.e (.idx (.e (.idx (.s 4) (.int 0))) (.int 1)))) .no [("param", 9)])))))
 (.cons (.ret (.bl false))
 .nil)
 .nil)
 (.cons (.asg (.v 6) (.call "_law_fit" (.cons (.ofL (.comp (.idx (.s 9) (.int 1)) (.v 9) (.p (.e (.idx (.e (.idx (.s 4) (.int 0))) (.int 1)))) .no [("param", 9)])) (.cons (.ofL (.comp (.idx (.s 10) (.int 1)) (.v 10) (.p (.e (.var 5))) .no [("pair", 10)])) .nil))))
 (.cons (.ret (.andE (.cmp .IsNot (.s 6) (.e .non)) (.oneE (.cmp .IsNot (.e (.call "_law_told" (.cons (.var 0) (.cons (.var 1) (.cons (.idx (.s 4) (.int 0)) (.cons (.var 3) (.cons (.var 6) .nil))))))) (.e .non)))))
 .nil))))))⟩
theorem chk__law_not_right : chkB ⟨defScope (top 106), N__law_not_right, fun _ => true, frB⟩ m__law_not_right.body (defBody (top 106)) = true := by decide +kernel
def N__law_thing : List Str := ["state", "value", "menu"]
def m__law_thing : DefM := ⟨2, 3,
 (.cons (.asgL 2 (.disp (.cons .non (.cons (.str "K0") (.cons (.tup (.cons (.str "K0") (.cons (.str "x0") .nil))) (.cons (.tup (.cons (.str "K9") .nil)) (.cons (.int 7) (.cons (.tup .nil) (.cons (.ofL (.disp .nil)) (.cons (.tup (.cons (.str "f0") .nil)) (.cons (.tup (.cons (.str "K1") (.cons .non .nil))) (.cons (.ofL (.disp (.cons (.var 1) .nil))) (.cons (.tup (.cons (.var 1) .nil)) (.cons (.tup (.cons (.str "K0") (.cons (.var 1) (.cons (.var 1) .nil)))) .nil))))))))))))))
 (.cons (.ret (.call "_law_pick" (.cons (.var 0) (.cons (.var 2) .nil))))
 .nil))⟩
theorem chk__law_thing : chkB ⟨defScope (top 107), N__law_thing, fun _ => true, frB⟩ m__law_thing.body (defBody (top 107)) = true := by decide +kernel
def N__law_is_raw : List Str := ["table", "value", "rows", "row", "part"]
def m__law_is_raw : DefM := ⟨2, 5,
 (.cons (.ifS (.orT (.notT (.val (.isI (.s 1) "tuple"))) (.orT (.cmp .Eq (.e (.len (.s 1))) (.e (.int 0))) (.oneT (.notT (.val (.isI (.e (.idx (.s 1) (.int 0))) "str"))))))
 (.cons (.ret (.bl false))
 .nil)
 .nil)
 (.cons (.asgL 2 (.comp (.var 3) (.v 3) (.p (.e (.idx (.s 0) (.int 3)))) (.t (.andT (.cmp .Eq (.e (.idx (.s 3) (.int 0))) (.e (.idx (.s 1) (.int 0)))) (.oneT (.cmp .Eq (.e (.len (.e (.idx (.s 3) (.int 1))))) (.e (.bin .sub (.len (.s 1)) (.int 1))))))) [("row", 3)]))
 (.cons (.ret (.andE (.cmp .Gt (.e (.len (.s 2))) (.e (.int 0))) (.oneE (.allL (.l (.comp (.call "_law_is_raw" (.cons (.var 0) (.cons (.var 4) .nil))) (.v 4) (.p (.e (.slT (.s 1) (.e (.int 1)) .no))) .no [("part", 4)]))))))
 .nil)))⟩
theorem chk__law_is_raw : chkB ⟨defScope (top 108), N__law_is_raw, fun _ => true, frB⟩ m__law_is_raw.body (defBody (top 108)) = true := by decide +kernel
def N__law_due : List Str := ["table", "program", "word", "values", "value"]
def m__law_due : DefM := ⟨4, 5,
 (.cons (.ifS (.orT (.notT (.val (.isI (.s 2) "str"))) (.oneT (.notT (.val (.isI (.s 3) "tuple")))))
 (.cons (.ret (.bl false))
 .nil)
 .nil)
 (.cons (.ifS (.notT (.val (.allL (.l (.comp (.call "_law_is_raw" (.cons (.var 0) (.cons (.var 4) .nil))) (.v 4) (.p (.e (.var 3))) .no [("value", 4)])))))
 (.cons (.ret (.bl false))
 .nil)
 .nil)
 (.cons (.ret (.call "_law_not_right" (.cons (.var 0) (.cons (.var 1) (.cons (.var 2) (.cons (.var 3) .nil))))))
 .nil)))⟩
theorem chk__law_due : chkB ⟨defScope (top 109), N__law_due, fun _ => true, frB⟩ m__law_due.body (defBody (top 109)) = true := by decide +kernel
def l__law_values_for_1 : B :=
 (.cons (.asg (.v 7) (.call "_law_raw" (.cons (.var 0) (.cons (.var 1) (.cons (.var 5) (.cons (.call "_law_draw" (.cons (.var 0) (.cons (.int 5) .nil))) .nil))))))
 (.cons (.ifS (.cmp .Is (.s 7) (.e .non))
 (.cons (.asg (.v 7) (.tup (.cons (.str "K0") .nil)))
 .nil)
 .nil)
 (.cons (.ifS (.cmp .Eq (.e (.call "_law_draw" (.cons (.var 0) (.cons (.int 20) .nil)))) (.e (.int 0)))
 (.cons (.asg (.v 7) (.call "_law_thing" (.cons (.var 0) (.cons (.var 7) .nil))))
 .nil)
 .nil)
 (.cons (.app 3 (.var 7))
 .nil))))
def N__law_values_for : List Str := ["state", "table", "function", "values", "kind", "family", "term", "value"]
def m__law_values_for : DefM := ⟨3, 8,
 (.cons (.asgL 3 (.disp .nil))
 (.cons (.forS (.tup (.cons (.v 5) (.cons (.v 6) .nil))) (.p (.e (.idx (.s 2) (.int 1)))) l__law_values_for_1)
 (.cons (.asg (.v 4) (.call "_law_draw" (.cons (.var 0) (.cons (.int 16) .nil))))
 (.cons (.ifS (.cmp .Eq (.s 4) (.e (.int 0)))
 (.cons (.asgL 3 (.cat (.s 3) (.l (.disp (.cons (.idx (.s 3) (.int 0)) .nil)))))
 .nil)
 .nil)
 (.cons (.ifS (.cmp .Eq (.s 4) (.e (.int 1)))
 (.cons (.asgL 3 (.sl (.s 3) (.e (.int 1)) .no))
 .nil)
 .nil)
 (.cons (.ret (.tupOf (.s 3)))
 .nil))))))⟩
theorem chk__law_values_for : chkB ⟨defScope (top 110), N__law_values_for, fun _ => true, frB⟩ m__law_values_for.body (defBody (top 110)) = true := by decide +kernel
def l_law_1 : B :=
 (.cons (.asg (.v 13) (.call "_law_pick" (.cons (.var 1) (.cons (.idx (.s 3) (.int 1)) .nil))))
 (.cons (.asg (.v 14) (.call "_law_values_for" (.cons (.var 1) (.cons (.var 2) (.cons (.var 13) .nil)))))
 (.cons (.asg (.v 15) (.idx (.s 13) (.int 0)))
 (.cons (.ifS (.cmp .Eq (.e (.call "_law_draw" (.cons (.var 1) (.cons (.int 16) .nil)))) (.e (.int 0)))
 (.cons (.asg (.v 15) (.call "_law_pick" (.cons (.var 1) (.cons (.ofL (.disp (.cons (.str "f9") (.cons (.str "K0") (.cons (.str "") (.cons (.int 0) (.cons .non (.cons (.str "f0") .nil)))))))) .nil))))
 .nil)
 .nil)
 (.cons (.ifS (.cmp .Eq (.e (.call "_law_draw" (.cons (.var 1) (.cons (.int 24) .nil)))) (.e (.int 0)))
 (.cons (.asgL 14 (.ofP (.s 14)))
 .nil)
 .nil)
 (.cons (.asg (.v 16) (.call "accepts" (.cons (.var 2) (.cons (.var 3) (.cons (.tup (.cons (.str "not") (.cons (.var 15) (.cons (.var 14) .nil)))) .nil)))))
 (.cons (.ifS (.orT (.notT (.val (.isI (.s 16) "bool"))) (.oneT (.cmp .NotEq (.s 16) (.e (.call "_law_due" (.cons (.var 2) (.cons (.var 3) (.cons (.var 15) (.cons (.var 14) .nil)))))))))
 (.cons (.ret (.bl false))
 .nil)
 .nil)
 .nil)))))))
def l_law_2 : B :=
 (.cons (.ifS (.cmp .Gt (.e (.len (.s 5))) (.e (.int 0)))
 (.cons (.asg (.tup (.cons (.v 15) (.cons (.v 14) .nil))) (.call "_law_pick" (.cons (.var 1) (.cons (.var 5) .nil))))
 (.cons (.asg (.v 22) (.call "accepts" (.cons (.var 2) (.cons (.var 3) (.cons (.tup (.cons (.str "not") (.cons (.var 15) (.cons (.var 14) .nil)))) .nil)))))
 (.cons (.ifS (.orT (.notT (.val (.isI (.s 22) "bool"))) (.oneT (.cmp .NotEq (.s 22) (.e (.call "_law_due" (.cons (.var 2) (.cons (.var 3) (.cons (.var 15) (.cons (.var 14) .nil)))))))))
 (.cons (.ret (.bl false))
 .nil)
 .nil)
 .nil)))
 .nil)
 .nil)
def l_law_3 : B :=
 (.cons (.asg (.v 22) (.call "accepts" (.cons (.var 2) (.cons (.var 7) (.cons (.var 20) .nil)))))
 (.cons (.ifS (.orT (.notT (.val (.isI (.s 22) "bool"))) (.oneT (.cmp .NotEq (.s 22) (.s 21))))
 (.cons (.ret (.bl false))
 .nil)
 .nil)
 .nil))
def N_law : List Str := ["script", "state", "table", "program", "known", "rows", "turn", "holed", "good", "odd", "asked", "wrong", "right", "function", "values", "word", "told_v", "value", "family", "index", "row", "due", "flag"]
def m_law : DefM := ⟨1, 23,
 (.cons (.asg (.v 1) (.call "_law_state" (.cons (.var 0) .nil)))
 (.cons (.asg (.v 2) (.call "_law_table" (.cons (.var 1) .nil)))
 (.cons (.asg (.v 3) (.call "_law_program" (.cons (.var 1) (.cons (.var 2) .nil))))
 (.cons (.asg (.v 4) (.call "_law_values" (.cons (.var 2) (.cons (.int 4) (.cons (.int 12) .nil)))))
 (.cons (.ifS (.cmp .Gt (.e (.len (.s 4))) (.e (.int 0)))
 (.cons (.asg (.tup (.cons (.v 17) (.cons (.v 18) (.cons (.v 19) .nil)))) (.call "_law_pick" (.cons (.var 1) (.cons (.var 4) .nil))))
 (.cons (.asg (.v 7) (.tup (.cons (.str "program") (.cons (.bin .add (.idx (.s 3) (.int 1)) (.tup (.cons (.tup (.cons (.str "h0") (.cons (.tup (.cons (.tup (.cons (.var 18) (.cons (.str "a") .nil))) .nil)) (.cons (.var 18) (.cons (.str "a") (.cons (.int 0) (.cons (.tup .nil) .nil))))))) .nil))) .nil))))
 (.cons (.asg (.v 8) (.tup (.cons (.str "not") (.cons (.str "h0") (.cons (.tup (.cons (.var 17) .nil)) .nil)))))
 (.cons (.asgL 9 (.disp (.cons .non (.cons (.tup .nil) (.cons (.str "not") (.cons (.int 0) (.cons (.bl true) (.cons (.ofD .nil) (.cons (.tup (.cons (.str "not") .nil)) (.cons (.tup (.cons (.str "let") .nil)) (.cons (.ofL (.ofP (.s 8))) (.cons (.bin .add (.var 8) (.tup (.cons (.var 17) .nil))) (.cons (.slT (.s 8) .no (.e (.int 2))) (.cons (.bin .add (.tup (.cons (.str "yes") .nil)) (.slT (.s 8) (.e (.int 1)) .no)) .nil))))))))))))))
 (.cons (.asgL 10 (.disp (.cons (.tup (.cons (.var 8) (.cons (.bl true) .nil))) (.cons (.tup (.cons (.call "_law_pick" (.cons (.var 1) (.cons (.var 9) .nil))) (.cons (.bl false) .nil))) (.cons (.tup (.cons (.call "_law_pick" (.cons (.var 1) (.cons (.var 9) .nil))) (.cons (.bl false) .nil))) (.cons (.tup (.cons (.var 8) (.cons (.bl true) .nil))) .nil))))))
 (.cons (.asg (.v 6) (.call "_law_draw" (.cons (.var 1) (.cons (.int 4) .nil))))
 (.cons (.forS (.tup (.cons (.v 20) (.cons (.v 21) .nil))) (.p (.l (.cat (.l (.sl (.s 10) (.e (.var 6)) .no)) (.l (.sl (.s 10) .no (.e (.var 6))))))) l_law_3)
 .nil)))))))
 .nil)
 (.cons (.asg (.tup (.cons (.v 11) (.cons (.v 12) .nil))) (.call "_law_wrong_ones" (.cons (.var 2) (.cons (.var 3) (.cons (.var 4) .nil)))))
 (.cons (.forS (.v 5) (.p (.l (.disp (.cons (.var 11) (.cons (.var 12) (.cons (.var 11) .nil)))))) l_law_2)
 (.cons (.forS (.v 6) (.rng1 (.int 12)) l_law_1)
 (.cons (.ret (.bl true))
 .nil)))))))))⟩
theorem chk_law : chkB ⟨defScope (top 111), N_law, fun _ => true, frB⟩ m_law.body (defBody (top 111)) = true := by decide +kernel
end Px
/-! Pw: what a piece of a small tree brings about, backwards. -/
namespace Px
open PySem L2

/-- what follows is not looked into -/
class Bx {α : Sort u} (x : α) : Type where
instance {α : Sort u} (x : α) : Bx x := {}
def Opt {α : Type} (o : Option α) (Q : α → Prop) [Bx Q] : Prop := ∃ a, o = some a ∧ Q a
theorem Opt_some {α : Type} (a : α) (Q : α → Prop) {h : Bx Q} : @Opt α (some a) Q h = Q a :=
  propext ⟨fun ⟨_, e, h⟩ => by cases e; exact h, fun h => ⟨a, rfl, h⟩⟩
theorem Opt_none {α : Type} (Q : α → Prop) {h : Bx Q} : @Opt α (none : Option α) Q h = False :=
  propext ⟨fun ⟨_, e, _⟩ => (nomatch e), False.elim⟩
theorem Opt_of {α : Type} {o : Option α} {a : α} {Q : α → Prop} {i : Bx Q} (e : o = some a) (h : Q a) : @Opt α o Q i := ⟨a, e, h⟩
theorem Opt_mono {α : Type} {o : Option α} {Q R : α → Prop} {i : Bx Q} {j : Bx R} (h : @Opt α o Q i) (k : ∀ a, Q a → R a) : @Opt α o R j := let ⟨a, e, q⟩ := h; ⟨a, e, k a q⟩
/-- two ways -/
def WIf (b : Bool) (X Y : Prop) [Bx X] [Bx Y] : Prop := (b = true → X) ∧ (b = false → Y)
theorem WIf_t (X Y : Prop) {i : Bx X} {j : Bx Y} : @WIf true X Y i j = X := propext ⟨fun h => h.1 rfl, fun h => ⟨fun _ => h, nofun⟩⟩
theorem WIf_f (X Y : Prop) {i : Bx X} {j : Bx Y} : @WIf false X Y i j = Y := propext ⟨fun h => h.2 rfl, fun h => ⟨nofun, fun _ => h⟩⟩
theorem WIf_not (b : Bool) (X Y : Prop) {i : Bx X} {j : Bx Y} : @WIf (!b) X Y i j = @WIf b Y X j i := by cases b <;> simp -dsimp only [Bool.not_true, Bool.not_false, WIf_t, WIf_f]
theorem WIf_pos {b : Bool} {X Y : Prop} {i : Bx X} {j : Bx Y} (e : b = true) (h : X) : @WIf b X Y i j := by rw [e, WIf_t]; exact h
theorem WIf_neg {b : Bool} {X Y : Prop} {i : Bx X} {j : Bx Y} (e : b = false) (h : Y) : @WIf b X Y i j := by rw [e, WIf_f]; exact h
theorem WIf_mk {b : Bool} {X Y : Prop} {i : Bx X} {j : Bx Y} (h : b = true → X) (k : b = false → Y) : @WIf b X Y i j := ⟨h, k⟩
theorem WIf_dec {p : Prop} {d : Decidable p} {X Y : Prop} {i : Bx X} {j : Bx Y} (h : p → X) (k : ¬ p → Y) : @WIf (@decide p d) X Y i j :=
  ⟨fun e => h (of_decide_eq_true e), fun e => k (of_decide_eq_false e)⟩

section
variable (c : CallF)
def WE (e : E) (S : ES) (Q : D → ES → Prop) [Bx Q] : Prop := Opt (ev c e S) fun r => Q r.1 r.2
def WEs (e : Es) (S : ES) (Q : List D → ES → Prop) [Bx Q] : Prop := Opt (evs c e S) fun r => Q r.1 r.2
def WP (p : P) (S : ES) (Q : Pv → ES → Prop) [Bx Q] : Prop := Opt (evP c p S) fun r => Q r.1 r.2
def WT (t : T) (S : ES) (Q : Bool → ES → Prop) [Bx Q] : Prop := Opt (evT c t S) fun r => Q r.1 r.2
def WL (l : L) (S : ES) (Q : List D → ES → Prop) [Bx Q] : Prop := Opt (evL c l S) fun r => Q r.1 r.2
def WD (d : Dt) (S : ES) (Q : List (Key × D) → ES → Prop) [Bx Q] : Prop := Opt (evD c d S) fun r => Q r.1 r.2
def WI (i : It) (S : ES) (Q : List D → ES → Prop) [Bx Q] : Prop := Opt (evI c i S) fun r => Q r.1 r.2
def WO (o : O) (S : ES) (Q : Option Int → ES → Prop) [Bx Q] : Prop := Opt (evO c o S) fun r => Q r.1 r.2
def WC (o : C1) (S : ES) (Q : Bool → ES → Prop) [Bx Q] : Prop := Opt (evC c o S) fun r => Q r.1 r.2
def WS (s : S) (S : ES) (Q : Fl → ES → Prop) [Bx Q] : Prop := Opt (exS c s S) fun r => Q r.1 r.2
def WB (b : B) (S : ES) (Q : Fl → ES → Prop) [Bx Q] : Prop := Opt (exB c b S) fun r => Q r.1 r.2
/-- a call -/
def WCall (f : Str) (ds : List D) (st : Sto) (Q : D → Sto → Prop) [Bx Q] : Prop := Opt (c f ds st) fun r => Q r.1 r.2
theorem WCall_of {f : Str} {ds : List D} {st st' : Sto} {d : D} {Q : D → Sto → Prop} {i : Bx Q} (h : c f ds st = some (d, st')) (q : Q d st') : @WCall c f ds st Q i := ⟨_, h, q⟩
theorem WCall_mono {f : Str} {ds : List D} {st : Sto} {Q R : D → Sto → Prop} {i : Bx Q} {j : Bx R} (h : @WCall c f ds st Q i) (k : ∀ d st, Q d st → R d st) : @WCall c f ds st R j := Opt_mono h fun r q => k r.1 r.2 q
def hasV : Option Sl → Bool
  | some (.val _) => true
  | some (.own _) => true
  | _ => false
def slE (i : Nat) (S : ES) : Option Sl → (D → ES → Prop) → Prop
  | some (.val d), Q => Q d S
  | some (.own b), Q => Q b.frz { S with r := S.r.set i (.val b.frz) }
  | _, _ => False

theorem WE_var (i : Nat) (S : ES) (Q : D → ES → Prop) {bx : Bx Q} : @WE c (.var i) S Q bx = slE i S S.r[i]? Q := by
  unfold WE
  simp -dsimp only [ev]
  rcases S.r[i]? with _ | (_ | d | b) <;> simp -dsimp only [slE, Opt_some, Opt_none]
theorem WE_int (i : Int) (S : ES) (Q : D → ES → Prop) {bx : Bx Q} : @WE c (.int i) S Q bx = Q (.int i) S := by unfold WE; simp -dsimp only [ev, Opt_some]
theorem WE_str (i : Str) (S : ES) (Q : D → ES → Prop) {bx : Bx Q} : @WE c (.str i) S Q bx = Q (.str i) S := by unfold WE; simp -dsimp only [ev, Opt_some]
theorem WE_non (S : ES) (Q : D → ES → Prop) {bx : Bx Q} : @WE c .non S Q bx = Q .non S := by unfold WE; simp -dsimp only [ev, Opt_some]
theorem WE_bl (b : Bool) (S : ES) (Q : D → ES → Prop) {bx : Bx Q} : @WE c (.bl b) S Q bx = Q (.bl b) S := by unfold WE; simp -dsimp only [ev, Opt_some]
theorem WE_bin (op : BOp) (a b : E) (S : ES) (Q : D → ES → Prop) {bx : Bx Q} : @WE c (.bin op a b) S Q bx = WE c a S fun x S => WE c b S fun y S => Opt (bop op x y) fun z => Q z S := by
  unfold WE
  simp -dsimp only [ev]
  rcases ev c a S with _ | ⟨x, S1⟩
  · simp -dsimp only [Option.bind_eq_bind, Option.bind_none, Opt_none]
  simp -dsimp only [Option.bind_eq_bind, Option.bind_some, Opt_some]
  rcases ev c b S1 with _ | ⟨y, S2⟩
  · simp -dsimp only [Option.bind_none, Opt_none]
  simp -dsimp only [Option.bind_some, Opt_some]
  rcases bop op x y with _ | z <;> simp -dsimp only [Option.bind_none, Opt_none, Option.bind_some, Opt_some]
theorem WE_cmp (op : CmpOp) (p q : P) (S : ES) (Q : D → ES → Prop) {bx : Bx Q} : @WE c (.cmp op p q) S Q bx = WP c p S fun x S => WP c q S fun y S => Opt (rdP x S) fun x => Opt (rdP y S) fun y => Opt (cop op x y) fun b => Q (.bl b) S := by
  unfold WE WP
  simp -dsimp only [ev]
  rcases evP c p S with _ | ⟨x, S1⟩
  · simp -dsimp only [Option.bind_eq_bind, Option.bind_none, Opt_none]
  simp -dsimp only [Option.bind_eq_bind, Option.bind_some, Opt_some]
  rcases evP c q S1 with _ | ⟨y, S2⟩
  · simp -dsimp only [Option.bind_none, Opt_none]
  simp -dsimp only [Option.bind_some, Opt_some]
  rcases rdP x S2 with _ | x
  · simp -dsimp only [Option.bind_none, Opt_none]
  simp -dsimp only [Option.bind_some, Opt_some]
  rcases rdP y S2 with _ | y
  · simp -dsimp only [Option.bind_none, Opt_none]
  simp -dsimp only [Option.bind_some, Opt_some]
  rcases cop op x y with _ | z <;> simp -dsimp only [Option.bind_none, Opt_none, Option.bind_some, Opt_some]
theorem WE_chn (op op2 : CmpOp) (a b e : E) (S : ES) (Q : D → ES → Prop) {bx : Bx Q} : @WE c (.chn op op2 a b e) S Q bx = WE c a S fun x S => WE c b S fun y S => Opt (cop op x y) fun k => WIf k (WE c e S fun z S => Opt (cop op2 y z) fun b => Q (.bl b) S) (Q (.bl false) S) := by
  unfold WE
  simp -dsimp only [ev]
  rcases ev c a S with _ | ⟨x, S1⟩
  · simp -dsimp only [Option.bind_eq_bind, Option.bind_none, Opt_none]
  simp -dsimp only [Option.bind_eq_bind, Option.bind_some, Opt_some]
  rcases ev c b S1 with _ | ⟨y, S2⟩
  · simp -dsimp only [Option.bind_none, Opt_none]
  simp -dsimp only [Option.bind_some, Opt_some]
  rcases cop op x y with _ | k
  · simp -dsimp only [Option.bind_none, Opt_none]
  simp -dsimp only [Option.bind_some, Opt_some]
  cases k
  · simp -dsimp only [WIf_f, Bool.false_eq_true, if_false, Opt_some]
  simp -dsimp only [WIf_t, if_true]
  rcases ev c e S2 with _ | ⟨z, S3⟩
  · simp -dsimp only [Option.bind_none, Opt_none]
  simp -dsimp only [Option.bind_some, Opt_some]
  rcases cop op2 y z with _ | z <;> simp -dsimp only [Option.bind_none, Opt_none, Option.bind_some, Opt_some]
/-- a truth value's two ways -/
def WBl (d : D) (X Y : Prop) [Bx X] [Bx Y] : Prop := match d with
  | .bl b => WIf b X Y
  | _ => False
theorem WBl_bl (b : Bool) (X Y : Prop) {i : Bx X} {j : Bx Y} : @WBl (.bl b) X Y i j = @WIf b X Y i j := rfl
theorem WE_and (a b : E) (S : ES) (Q : D → ES → Prop) {bx : Bx Q} : @WE c (.andE a b) S Q bx = WE c a S fun x S => WBl x (WE c b S Q) (Q (.bl false) S) := by
  unfold WE
  simp -dsimp only [ev]
  rcases ev c a S with _ | ⟨x, S1⟩
  · simp -dsimp only [Opt_none]
  cases x with
  | bl b => cases b <;> simp -dsimp only [Opt_some, WBl_bl, WIf_t, WIf_f]
  | _ => simp -dsimp only [Opt_some, Opt_none]; rfl
theorem WE_or (a b : E) (S : ES) (Q : D → ES → Prop) {bx : Bx Q} : @WE c (.orE a b) S Q bx = WE c a S fun x S => WBl x (Q (.bl true) S) (WE c b S Q) := by
  unfold WE
  simp -dsimp only [ev]
  rcases ev c a S with _ | ⟨x, S1⟩
  · simp -dsimp only [Opt_none]
  cases x with
  | bl b => cases b <;> simp -dsimp only [Opt_some, WBl_bl, WIf_t, WIf_f]
  | _ => simp -dsimp only [Opt_some, Opt_none]; rfl
theorem WE_one (a : E) (S : ES) (Q : D → ES → Prop) {bx : Bx Q} : @WE c (.oneE a) S Q bx = WE c a S Q := by unfold WE; simp -dsimp only [ev]
def WBn (d : D) (Q : Bool → Prop) [Bx Q] : Prop := match d with
  | .bl b => Q b
  | _ => False
theorem WBn_bl (b : Bool) (Q : Bool → Prop) {i : Bx Q} : @WBn (.bl b) Q i = Q b := rfl
theorem WE_not (a : E) (S : ES) (Q : D → ES → Prop) {bx : Bx Q} : @WE c (.notE a) S Q bx = WE c a S fun x S => WBn x fun b => Q (.bl (!b)) S := by
  unfold WE
  simp -dsimp only [ev]
  rcases ev c a S with _ | ⟨x, S1⟩
  · simp -dsimp only [Opt_none]
  cases x <;> simp -dsimp only [Opt_some, Opt_none] <;> rfl
theorem WE_ifx (t : T) (a b : E) (S : ES) (Q : D → ES → Prop) {bx : Bx Q} : @WE c (.ifx t a b) S Q bx = WT c t S fun k S => WIf k (WE c a S Q) (WE c b S Q) := by
  unfold WE WT
  simp -dsimp only [ev]
  rcases evT c t S with _ | ⟨x, S1⟩
  · simp -dsimp only [Opt_none]
  cases x <;> simp -dsimp only [Opt_some, WIf_t, WIf_f]
theorem WE_tup (es : Es) (S : ES) (Q : D → ES → Prop) {bx : Bx Q} : @WE c (.tup es) S Q bx = WEs c es S fun ds S => Q (.tup ds) S := by
  unfold WE WEs
  simp -dsimp only [ev]
  rcases evs c es S with _ | ⟨x, S1⟩ <;> simp -dsimp only [Option.bind_eq_bind, Option.bind_none, Opt_none, Option.bind_some, Opt_some]
theorem WE_idx (p : P) (i : E) (S : ES) (Q : D → ES → Prop) {bx : Bx Q} : @WE c (.idx p i) S Q bx = WP c p S fun x S => WE c i S fun i S => Opt (rdP x S) fun x => Opt (idxD x i) fun d => Q d S := by
  unfold WE WP
  simp -dsimp only [ev]
  rcases evP c p S with _ | ⟨x, S1⟩
  · simp -dsimp only [Option.bind_eq_bind, Option.bind_none, Opt_none]
  simp -dsimp only [Option.bind_eq_bind, Option.bind_some, Opt_some]
  rcases ev c i S1 with _ | ⟨y, S2⟩
  · simp -dsimp only [Option.bind_none, Opt_none]
  simp -dsimp only [Option.bind_some, Opt_some]
  rcases rdP x S2 with _ | x
  · simp -dsimp only [Option.bind_none, Opt_none]
  simp -dsimp only [Option.bind_some, Opt_some]
  rcases idxD x y with _ | z <;> simp -dsimp only [Option.bind_none, Opt_none, Option.bind_some, Opt_some]
def cutO (lo hi : Option Int) : Option D → Option D
  | some (.tup ds) => some (.tup (cutD ds lo hi))
  | _ => none
theorem WE_slT (p : P) (lo hi : O) (S : ES) (Q : D → ES → Prop) {bx : Bx Q} : @WE c (.slT p lo hi) S Q bx = WP c p S fun x S => WO c lo S fun lo S => WO c hi S fun hi S => Opt (cutO lo hi (rdP x S)) fun d => Q d S := by
  unfold WE WP WO
  simp -dsimp only [ev]
  rcases evP c p S with _ | ⟨x, S1⟩
  · simp -dsimp only [Option.bind_eq_bind, Option.bind_none, Opt_none]
  simp -dsimp only [Option.bind_eq_bind, Option.bind_some, Opt_some]
  rcases evO c lo S1 with _ | ⟨y, S2⟩
  · simp -dsimp only [Option.bind_none, Opt_none]
  simp -dsimp only [Option.bind_some, Opt_some]
  rcases evO c hi S2 with _ | ⟨z, S3⟩
  · simp -dsimp only [Option.bind_none, Opt_none]
  simp -dsimp only [Option.bind_some, Opt_some]
  rcases rdP x S3 with _ | x
  · simp -dsimp only [Opt_none, cutO]
  cases x <;> simp -dsimp only [Opt_none, Opt_some, cutO]
theorem WE_call (f : Str) (es : Es) (S : ES) (Q : D → ES → Prop) {bx : Bx Q} : @WE c (.call f es) S Q bx = WEs c es S fun ds S => WCall c f ds S.st fun d st => Q d { S with st := st } := by
  unfold WE WEs WCall
  simp -dsimp only [ev]
  rcases evs c es S with _ | ⟨x, S1⟩
  · simp -dsimp only [Option.bind_eq_bind, Option.bind_none, Opt_none]
  simp -dsimp only [Option.bind_eq_bind, Option.bind_some, Opt_some]
  rcases c f x S1.st with _ | ⟨y, st⟩ <;> simp -dsimp only [Option.bind_none, Opt_none, Option.bind_some, Opt_some]
theorem WE_len (p : P) (S : ES) (Q : D → ES → Prop) {bx : Bx Q} : @WE c (.len p) S Q bx = WP c p S fun x S => Opt (rdP x S) fun x => Opt (lenD x) fun n => Q (.int n) S := by
  unfold WE WP
  simp -dsimp only [ev]
  rcases evP c p S with _ | ⟨x, S1⟩
  · simp -dsimp only [Option.bind_eq_bind, Option.bind_none, Opt_none]
  simp -dsimp only [Option.bind_eq_bind, Option.bind_some, Opt_some]
  rcases rdP x S1 with _ | x
  · simp -dsimp only [Option.bind_none, Opt_none]
  simp -dsimp only [Option.bind_some, Opt_some]
  rcases lenD x with _ | x <;> simp -dsimp only [Option.bind_none, Opt_none, Option.bind_some, Opt_some]
theorem WE_isI (p : P) (ty : String) (S : ES) (Q : D → ES → Prop) {bx : Bx Q} : @WE c (.isI p ty) S Q bx = WP c p S fun x S => Opt (rdP x S) fun x => Opt (isIn x ty) fun n => Q (.bl n) S := by
  unfold WE WP
  simp -dsimp only [ev]
  rcases evP c p S with _ | ⟨x, S1⟩
  · simp -dsimp only [Option.bind_eq_bind, Option.bind_none, Opt_none]
  simp -dsimp only [Option.bind_eq_bind, Option.bind_some, Opt_some]
  rcases rdP x S1 with _ | x
  · simp -dsimp only [Option.bind_none, Opt_none]
  simp -dsimp only [Option.bind_some, Opt_some]
  rcases isIn x ty with _ | x <;> simp -dsimp only [Option.bind_none, Opt_none, Option.bind_some, Opt_some]
def toIntD : D → Option D
  | .int i => some (.int i)
  | .bl b => some (.int (if b then 1 else 0))
  | _ => none
theorem WE_toInt (e : E) (S : ES) (Q : D → ES → Prop) {bx : Bx Q} : @WE c (.toInt e) S Q bx = WE c e S fun x S => Opt (toIntD x) fun x => Q x S := by
  unfold WE
  simp -dsimp only [ev]
  rcases ev c e S with _ | ⟨x, S1⟩
  · simp -dsimp only [Opt_none]
  cases x <;> simp -dsimp only [Opt_none, Opt_some, toIntD]
def toStrD : D → Option D
  | .int i => if i.natAbs.log2 < 1920 then some (.str (toString i)) else none
  | _ => none
theorem WE_toStr (e : E) (S : ES) (Q : D → ES → Prop) {bx : Bx Q} : @WE c (.toStr e) S Q bx = WE c e S fun x S => Opt (toStrD x) fun x => Q x S := by
  unfold WE
  simp -dsimp only [ev]
  rcases ev c e S with _ | ⟨x, S1⟩
  · simp -dsimp only [Opt_none]
  cases x with
  | int i => simp -dsimp only [toStrD, Opt_some]; split <;> simp -dsimp only [Opt_none, Opt_some]
  | _ => simp -dsimp only [Opt_none, Opt_some, toStrD]
def absD : D → Option D
  | .int i => some (.int (if i < 0 then -i else i))
  | _ => none
theorem WE_abs (e : E) (S : ES) (Q : D → ES → Prop) {bx : Bx Q} : @WE c (.absI e) S Q bx = WE c e S fun x S => Opt (absD x) fun x => Q x S := by
  unfold WE
  simp -dsimp only [ev]
  rcases ev c e S with _ | ⟨x, S1⟩
  · simp -dsimp only [Opt_none]
  cases x <;> simp -dsimp only [Opt_none, Opt_some, absD]
def max2D : D → D → Option D
  | .int i, .int j => some (.int (if j > i then j else i))
  | _, _ => none
theorem WE_max2 (a b : E) (S : ES) (Q : D → ES → Prop) {bx : Bx Q} : @WE c (.max2 a b) S Q bx = WE c a S fun x S => WE c b S fun y S => Opt (max2D x y) fun x => Q x S := by
  unfold WE
  simp -dsimp only [ev]
  rcases ev c a S with _ | ⟨x, S1⟩
  · simp -dsimp only [Option.bind_eq_bind, Option.bind_none, Opt_none]
  simp -dsimp only [Option.bind_eq_bind, Option.bind_some, Opt_some]
  rcases ev c b S1 with _ | ⟨y, S2⟩
  · simp -dsimp only [Option.bind_none, Opt_none]
  simp -dsimp only [Option.bind_some, Opt_some]
  cases x <;> cases y <;> simp -dsimp only [Opt_none, Opt_some, max2D]
def tupOfD : Option D → Option D
  | some (.tup ds) => some (.tup ds)
  | some (.lst ds) => some (.tup ds)
  | _ => none
theorem WE_tupOf (p : P) (S : ES) (Q : D → ES → Prop) {bx : Bx Q} : @WE c (.tupOf p) S Q bx = WP c p S fun x S => Opt (tupOfD (rdP x S)) fun x => Q x S := by
  unfold WE WP
  simp -dsimp only [ev]
  rcases evP c p S with _ | ⟨x, S1⟩
  · simp -dsimp only [Option.bind_eq_bind, Option.bind_none, Opt_none]
  simp -dsimp only [Option.bind_eq_bind, Option.bind_some, Opt_some]
  rcases rdP x S1 with _ | x
  · simp -dsimp only [Opt_none, tupOfD]
  cases x <;> simp -dsimp only [Opt_none, Opt_some, tupOfD]
def allD : Option D → Option Bool
  | some (.lst ds) => (boolsD ds).map fun bs => bs.all id
  | _ => none
theorem WE_allL (p : P) (S : ES) (Q : D → ES → Prop) {bx : Bx Q} : @WE c (.allL p) S Q bx = WP c p S fun x S => Opt (allD (rdP x S)) fun x => Q (.bl x) S := by
  unfold WE WP
  simp -dsimp only [ev]
  rcases evP c p S with _ | ⟨x, S1⟩
  · simp -dsimp only [Option.bind_eq_bind, Option.bind_none, Opt_none]
  simp -dsimp only [Option.bind_eq_bind, Option.bind_some, Opt_some]
  rcases rdP x S1 with _ | x
  · simp -dsimp only [Opt_none, allD]
  cases x with
  | lst ds =>
    simp -dsimp only [allD]
    rcases boolsD ds with _ | bs <;> simp -dsimp only [Option.map_none, Option.map_some, Opt_none, Opt_some]
  | _ => simp -dsimp only [Opt_none, allD]
def get2D (k d : D) : Option D → Option D
  | some (.dic ks ds) => match keyD k with
    | some k => some ((look ks ds k).getD d)
    | none => none
  | _ => none
theorem WE_get2 (p : P) (k d : E) (S : ES) (Q : D → ES → Prop) {bx : Bx Q} : @WE c (.get2 p k d) S Q bx = WP c p S fun x S => isDi x S = true ∧ WE c k S fun k S => WE c d S fun d S => Opt (get2D k d (rdP x S)) fun x => Q x S := by
  unfold WE WP
  simp -dsimp only [ev]
  rcases evP c p S with _ | ⟨x, S1⟩
  · simp -dsimp only [Opt_none]
  simp -dsimp only [Opt_some]
  cases h : isDi x S1
  · simp -dsimp only [Bool.false_eq_true, if_false, Opt_none, false_and]
  simp -dsimp only [if_true, true_and]
  rcases ev c k S1 with _ | ⟨k, S2⟩
  · simp -dsimp only [Opt_none]
  simp -dsimp only [Opt_some]
  rcases ev c d S2 with _ | ⟨d, S3⟩
  · simp -dsimp only [Opt_none]
  simp -dsimp only [Opt_some]
  rcases rdP x S3 with _ | x
  · simp -dsimp only [Opt_none, get2D]
  cases x with
  | dic ks ds =>
    simp -dsimp only [get2D]
    rcases keyD k with _ | k <;> simp -dsimp only [Opt_none, Opt_some]
  | _ => simp -dsimp only [Opt_none, get2D]
theorem WE_ofL (l : L) (S : ES) (Q : D → ES → Prop) {bx : Bx Q} : @WE c (.ofL l) S Q bx = WL c l S fun ds S => Q (.lst ds) S := by
  unfold WE WL
  simp -dsimp only [ev]
  rcases evL c l S with _ | ⟨x, S1⟩ <;> simp -dsimp only [Option.bind_eq_bind, Option.bind_none, Opt_none, Option.bind_some, Opt_some]
theorem WE_ofD (l : Dt) (S : ES) (Q : D → ES → Prop) {bx : Bx Q} : @WE c (.ofD l) S Q bx = WD c l S fun kvs S => Q (.dic (kvs.map (·.1)) (kvs.map (·.2))) S := by
  unfold WE WD
  simp -dsimp only [ev]
  rcases evD c l S with _ | ⟨x, S1⟩ <;> simp -dsimp only [Option.bind_eq_bind, Option.bind_none, Opt_none, Option.bind_some, Opt_some]
def WPop (i : Nat) (S : ES) (Q : D → ES → Prop) : Option Sl → Prop
  | some (.own (.lst ds)) => Opt ds[ds.length - 1]? fun d => Q d { S with r := S.r.set i (.own (.lst ds.dropLast)) }
  | _ => False
theorem WE_pop (i : Nat) (S : ES) (Q : D → ES → Prop) {bx : Bx Q} : @WE c (.pop i) S Q bx = WPop i S Q S.r[i]? := by
  unfold WE
  simp -dsimp only [ev]
  rcases S.r[i]? with _ | (_ | d | (ds | kvs))
  case some.own.lst =>
    simp -dsimp only [WPop]
    rcases ds[ds.length - 1]? with _ | d <;> simp -dsimp only [Opt_none, Opt_some]
  all_goals simp -dsimp only [Opt_none, WPop]
def WPopAt (i : Nat) (k : D) (S : ES) (Q : D → ES → Prop) : Option Sl → Prop
  | some (.own (.lst ds)) => match k with
    | .int k => (0 ≤ k ∧ k < 2 ^ 62) ∧ Opt ds[k.toNat]? fun d => Q d { S with r := S.r.set i (.own (.lst (ds.eraseIdx k.toNat))) }
    | _ => False
  | _ => False
theorem WE_popAt (i : Nat) (k : E) (S : ES) (Q : D → ES → Prop) {bx : Bx Q} : @WE c (.popAt i k) S Q bx = (isOL S i = true ∧ WE c k S fun k S => WPopAt i k S Q S.r[i]?) := by
  unfold WE
  simp -dsimp only [ev]
  cases h : isOL S i
  · simp -dsimp only [Bool.false_eq_true, if_false, Opt_none, false_and]
  simp -dsimp only [if_true, true_and]
  rcases ev c k S with _ | ⟨k, S1⟩
  · simp -dsimp only [Opt_none]
  simp -dsimp only [Opt_some]
  cases k with
  | int k =>
    simp -dsimp only
    rcases S1.r[i]? with _ | (_ | d | (ds | kvs))
    case some.own.lst =>
      simp -dsimp only [WPopAt]
      by_cases hk : 0 ≤ k ∧ k < 2 ^ 62
      · rw [if_pos hk]
        rcases ds[k.toNat]? with _ | d <;> simp -dsimp only [Opt_none, Opt_some, hk, true_and]
        all_goals simp -dsimp only [and_self, and_false, true_and]
      · rw [if_neg hk]
        simp -dsimp only [Opt_none, hk, false_and]
    all_goals simp -dsimp only [Opt_none, WPopAt]
  | _ =>
    simp -dsimp only [Opt_none]
    rcases S1.r[i]? with _ | (_ | d | (ds | kvs)) <;> simp -dsimp only [WPopAt]
def WHpop (x : Pv) (k : D) (S : ES) (Q : D → ES → Prop) : Prop := match hnd x S with
  | some n => match S.st[n]? with
    | some (.lst ds) => match k with
      | .int k => (0 ≤ k ∧ k < 2 ^ 62) ∧ Opt ds[k.toNat]? fun d => Q d { S with st := S.st.set n (.lst (ds.eraseIdx k.toNat)) }
      | _ => False
    | _ => False
  | none => False
theorem WE_hpop (p : P) (k : E) (S : ES) (Q : D → ES → Prop) {bx : Bx Q} : @WE c (.hpop p k) S Q bx = WP c p S fun x S => isHL x S = true ∧ WE c k S fun k S => WHpop x k S Q := by
  unfold WE WP
  simp -dsimp only [ev]
  rcases evP c p S with _ | ⟨x, S1⟩
  · simp -dsimp only [Opt_none]
  simp -dsimp only [Opt_some]
  cases h : isHL x S1
  · simp -dsimp only [Bool.false_eq_true, if_false, Opt_none, false_and]
  simp -dsimp only [if_true, true_and]
  rcases ev c k S1 with _ | ⟨k, S2⟩
  · simp -dsimp only [Opt_none]
  simp -dsimp only [Opt_some, WHpop]
  cases k with
  | int k =>
    simp -dsimp only
    rcases hnd x S2 with _ | n
    · simp -dsimp only [Opt_none]
    simp -dsimp only
    rcases S2.st[n]? with _ | (ds | kvs)
    case some.lst =>
      simp -dsimp only
      by_cases hk : 0 ≤ k ∧ k < 2 ^ 62
      · rw [if_pos hk]
        rcases ds[k.toNat]? with _ | d <;> simp -dsimp only [Opt_none, Opt_some, hk, true_and]
        all_goals simp -dsimp only [and_self, and_false, true_and]
      · rw [if_neg hk]
        simp -dsimp only [Opt_none, hk, false_and]
    all_goals simp -dsimp only [Opt_none]
  | _ =>
    simp -dsimp only [Opt_none]
    rcases hnd x S2 with _ | n
    · rfl
    simp -dsimp only
    rcases S2.st[n]? with _ | (ds | kvs) <;> rfl
theorem WE_newH (l : L) (S : ES) (Q : D → ES → Prop) {bx : Bx Q} : @WE c (.newH l) S Q bx = WL c l S fun ds S => Q (.hdl S.st.length) { S with st := S.st ++ [.lst ds] } := by
  unfold WE WL
  simp -dsimp only [ev]
  rcases evL c l S with _ | ⟨x, S1⟩ <;> simp -dsimp only [Option.bind_eq_bind, Option.bind_none, Opt_none, Option.bind_some, Opt_some]
theorem WE_newHD (l : Dt) (S : ES) (Q : D → ES → Prop) {bx : Bx Q} : @WE c (.newHD l) S Q bx = WD c l S fun ds S => Q (.hdl S.st.length) { S with st := S.st ++ [.dic ds] } := by
  unfold WE WD
  simp -dsimp only [ev]
  rcases evD c l S with _ | ⟨x, S1⟩ <;> simp -dsimp only [Option.bind_eq_bind, Option.bind_none, Opt_none, Option.bind_some, Opt_some]
theorem WEs_nil (S : ES) (Q : List D → ES → Prop) {bx : Bx Q} : @WEs c .nil S Q bx = Q [] S := by unfold WEs; simp -dsimp only [evs, Opt_some]
theorem WEs_cons (e : E) (es : Es) (S : ES) (Q : List D → ES → Prop) {bx : Bx Q} : @WEs c (.cons e es) S Q bx = WE c e S fun d S => WEs c es S fun ds S => Q (d :: ds) S := by
  unfold WEs WE
  simp -dsimp only [evs]
  rcases ev c e S with _ | ⟨x, S1⟩
  · simp -dsimp only [Option.bind_eq_bind, Option.bind_none, Opt_none]
  simp -dsimp only [Option.bind_eq_bind, Option.bind_some, Opt_some]
  rcases evs c es S1 with _ | ⟨y, S2⟩ <;> simp -dsimp only [Option.bind_none, Opt_none, Option.bind_some, Opt_some]
theorem WP_e (e : E) (S : ES) (Q : Pv → ES → Prop) {bx : Bx Q} : @WP c (.e e) S Q bx = WE c e S fun d S => Q (.d d) S := by
  unfold WP WE
  simp -dsimp only [evP]
  rcases ev c e S with _ | ⟨x, S1⟩ <;> simp -dsimp only [Option.bind_eq_bind, Option.bind_none, Opt_none, Option.bind_some, Opt_some]
theorem WP_s (i : Nat) (S : ES) (Q : Pv → ES → Prop) {bx : Bx Q} : @WP c (.s i) S Q bx = (hasV S.r[i]? = true ∧ Q (.s i) S) := by
  unfold WP
  simp -dsimp only [evP]
  rcases S.r[i]? with _ | (_ | d | b) <;> simp -dsimp only [Opt_none, Opt_some, hasV, Bool.false_eq_true, false_and, true_and]
theorem WP_l (l : L) (S : ES) (Q : Pv → ES → Prop) {bx : Bx Q} : @WP c (.l l) S Q bx = WL c l S fun d S => Q (.l d) S := by
  unfold WP WL
  simp -dsimp only [evP]
  rcases evL c l S with _ | ⟨x, S1⟩ <;> simp -dsimp only [Option.bind_eq_bind, Option.bind_none, Opt_none, Option.bind_some, Opt_some]
theorem WP_d (l : Dt) (S : ES) (Q : Pv → ES → Prop) {bx : Bx Q} : @WP c (.d l) S Q bx = WD c l S fun d S => Q (.k d) S := by
  unfold WP WD
  simp -dsimp only [evP]
  rcases evD c l S with _ | ⟨x, S1⟩ <;> simp -dsimp only [Option.bind_eq_bind, Option.bind_none, Opt_none, Option.bind_some, Opt_some]
theorem WT_val (e : E) (S : ES) (Q : Bool → ES → Prop) {bx : Bx Q} : @WT c (.val e) S Q bx = WE c e S fun x S => WBn x fun b => Q b S := by
  unfold WT WE
  simp -dsimp only [evT]
  rcases ev c e S with _ | ⟨x, S1⟩
  · simp -dsimp only [Opt_none]
  cases x <;> simp -dsimp only [Opt_none, Opt_some] <;> rfl
theorem WT_tru (p : P) (S : ES) (Q : Bool → ES → Prop) {bx : Bx Q} : @WT c (.tru p) S Q bx = WP c p S fun x S => Opt (rdP x S) fun x => Opt (tru x) fun b => Q b S := by
  unfold WT WP
  simp -dsimp only [evT]
  rcases evP c p S with _ | ⟨x, S1⟩
  · simp -dsimp only [Option.bind_eq_bind, Option.bind_none, Opt_none]
  simp -dsimp only [Option.bind_eq_bind, Option.bind_some, Opt_some]
  rcases rdP x S1 with _ | x
  · simp -dsimp only [Option.bind_none, Opt_none]
  simp -dsimp only [Option.bind_some, Opt_some]
  rcases tru x with _ | x <;> simp -dsimp only [Option.bind_none, Opt_none, Option.bind_some, Opt_some]
theorem WT_cmp (op : CmpOp) (p q : P) (S : ES) (Q : Bool → ES → Prop) {bx : Bx Q} : @WT c (.cmp op p q) S Q bx = WP c p S fun x S => WP c q S fun y S => Opt (rdP x S) fun x => Opt (rdP y S) fun y => Opt (cop op x y) fun b => Q b S := by
  unfold WT WP
  simp -dsimp only [evT]
  rcases evP c p S with _ | ⟨x, S1⟩
  · simp -dsimp only [Option.bind_eq_bind, Option.bind_none, Opt_none]
  simp -dsimp only [Option.bind_eq_bind, Option.bind_some, Opt_some]
  rcases evP c q S1 with _ | ⟨y, S2⟩
  · simp -dsimp only [Option.bind_none, Opt_none]
  simp -dsimp only [Option.bind_some, Opt_some]
  rcases rdP x S2 with _ | x
  · simp -dsimp only [Option.bind_none, Opt_none]
  simp -dsimp only [Option.bind_some, Opt_some]
  rcases rdP y S2 with _ | y
  · simp -dsimp only [Option.bind_none, Opt_none]
  simp -dsimp only [Option.bind_some, Opt_some]
  rcases cop op x y with _ | z <;> simp -dsimp only [Option.bind_none, Opt_none, Option.bind_some, Opt_some]
theorem WT_chn (op op2 : CmpOp) (a b e : E) (S : ES) (Q : Bool → ES → Prop) {bx : Bx Q} : @WT c (.chn op op2 a b e) S Q bx = WE c a S fun x S => WE c b S fun y S => Opt (cop op x y) fun k => WIf k (WE c e S fun z S => Opt (cop op2 y z) fun b => Q b S) (Q false S) := by
  unfold WE WT
  simp -dsimp only [evT]
  rcases ev c a S with _ | ⟨x, S1⟩
  · simp -dsimp only [Option.bind_eq_bind, Option.bind_none, Opt_none]
  simp -dsimp only [Option.bind_eq_bind, Option.bind_some, Opt_some]
  rcases ev c b S1 with _ | ⟨y, S2⟩
  · simp -dsimp only [Option.bind_none, Opt_none]
  simp -dsimp only [Option.bind_some, Opt_some]
  rcases cop op x y with _ | k
  · simp -dsimp only [Option.bind_none, Opt_none]
  simp -dsimp only [Option.bind_some, Opt_some]
  cases k
  · simp -dsimp only [WIf_f, Bool.false_eq_true, if_false, Opt_some]
  simp -dsimp only [WIf_t, if_true]
  rcases ev c e S2 with _ | ⟨z, S3⟩
  · simp -dsimp only [Option.bind_none, Opt_none]
  simp -dsimp only [Option.bind_some, Opt_some]
  rcases cop op2 y z with _ | z <;> simp -dsimp only [Option.bind_none, Opt_none, Option.bind_some, Opt_some]
theorem WT_and (a b : T) (S : ES) (Q : Bool → ES → Prop) {bx : Bx Q} : @WT c (.andT a b) S Q bx = WT c a S fun x S => WIf x (WT c b S Q) (Q false S) := by
  unfold WT
  simp -dsimp only [evT]
  rcases evT c a S with _ | ⟨x, S1⟩
  · simp -dsimp only [Opt_none]
  cases x <;> simp -dsimp only [Opt_some, WIf_t, WIf_f]
theorem WT_or (a b : T) (S : ES) (Q : Bool → ES → Prop) {bx : Bx Q} : @WT c (.orT a b) S Q bx = WT c a S fun x S => WIf x (Q true S) (WT c b S Q) := by
  unfold WT
  simp -dsimp only [evT]
  rcases evT c a S with _ | ⟨x, S1⟩
  · simp -dsimp only [Opt_none]
  cases x <;> simp -dsimp only [Opt_some, WIf_t, WIf_f]
theorem WT_one (a : T) (S : ES) (Q : Bool → ES → Prop) {bx : Bx Q} : @WT c (.oneT a) S Q bx = WT c a S Q := by unfold WT; simp -dsimp only [evT]
theorem WT_not (a : T) (S : ES) (Q : Bool → ES → Prop) {bx : Bx Q} : @WT c (.notT a) S Q bx = WT c a S fun b S => Q (!b) S := by
  unfold WT
  simp -dsimp only [evT]
  rcases evT c a S with _ | ⟨x, S1⟩ <;> simp -dsimp only [Opt_none, Opt_some]
end
end Px
/-! Pw2: lists, walks, statements, backwards. -/
namespace Px
open PySem L2
section
variable (c : CallF)
def ofPD : Option D → Option (List D)
  | some (.tup ds) => some ds
  | some (.lst ds) => some ds
  | _ => none
def zipLD : D → D → Option (List D)
  | .lst ds, .lst es => some (zipD ds es)
  | .tup ds, .tup es => some (zipD ds es)
  | _, _ => none
def catD : D → D → Option (List D)
  | .lst ds, .lst es => if ds.length + es.length ≤ sizeLine then some (ds ++ es) else none
  | _, _ => none
def cutL (lo hi : Option Int) : Option D → Option (List D)
  | some (.lst ds) => some (cutD ds lo hi)
  | _ => none
def slSD (a k : D) : Option D → Option (List D)
  | some (.lst ds) => match a with
    | .int a => match k with
      | .int k => if 0 ≤ a ∧ a < 2 ^ 62 ∧ 0 < k ∧ k < 2 ^ 62 then some (everyD (k.toNat - 1) a.toNat ds) else none
      | _ => none
    | _ => none
  | _ => none
def itemsPD : Option D → Option (List D)
  | some d => itemsD d
  | _ => none
def enumPD : Option D → Option (List D)
  | some (.tup ds) => some (enumD 0 ds)
  | _ => none
def itmPD : Option D → Option (List D)
  | some (.dic ks ds) => some (zipD (ks.map dKey) ds)
  | _ => none
def rng1D : D → Option (List D)
  | .int j => if j < 2 ^ 62 ∧ -(2 ^ 62) ≤ j then some (rngD 0 j.toNat) else none
  | _ => none
def rng2D : D → D → Option (List D)
  | .int i, .int j => if j < 2 ^ 62 ∧ -(2 ^ 62) ≤ j ∧ i < 2 ^ 62 ∧ -(2 ^ 62) ≤ i then some (rngD i (j - i).toNat) else none
  | _, _ => none
def intO : D → Option Int
  | .int i => some i
  | _ => none

theorem WL_disp (es : Es) (S : ES) (Q : List D → ES → Prop) {bx : Bx Q} : @WL c (.disp es) S Q bx = WEs c es S Q := by unfold WL WEs; simp -dsimp only [evL]
theorem WL_ofP (p : P) (S : ES) (Q : List D → ES → Prop) {bx : Bx Q} : @WL c (.ofP p) S Q bx = WP c p S fun x S => Opt (ofPD (rdP x S)) fun ds => Q ds S := by
  unfold WL WP
  simp -dsimp only [evL]
  rcases evP c p S with _ | ⟨x, S1⟩
  · simp -dsimp only [Option.bind_eq_bind, Option.bind_none, Opt_none]
  simp -dsimp only [Option.bind_eq_bind, Option.bind_some, Opt_some]
  rcases rdP x S1 with _ | x
  · simp -dsimp only [Opt_none, ofPD]
  cases x <;> simp -dsimp only [Opt_none, Opt_some, ofPD]
theorem WL_zip (p q : P) (S : ES) (Q : List D → ES → Prop) {bx : Bx Q} : @WL c (.zip p q) S Q bx = WP c p S fun x S => WP c q S fun y S => Opt (rdP x S) fun x => Opt (rdP y S) fun y => Opt (zipLD x y) fun ds => Q ds S := by
  unfold WL WP
  simp -dsimp only [evL]
  rcases evP c p S with _ | ⟨x, S1⟩
  · simp -dsimp only [Option.bind_eq_bind, Option.bind_none, Opt_none]
  simp -dsimp only [Option.bind_eq_bind, Option.bind_some, Opt_some]
  rcases evP c q S1 with _ | ⟨y, S2⟩
  · simp -dsimp only [Option.bind_none, Opt_none]
  simp -dsimp only [Option.bind_some, Opt_some]
  rcases rdP x S2 with _ | x
  · simp -dsimp only [Option.bind_none, Opt_none]
  simp -dsimp only [Option.bind_some, Opt_some]
  rcases rdP y S2 with _ | y
  · simp -dsimp only [Option.bind_none, Opt_none]
  simp -dsimp only [Option.bind_some, Opt_some]
  cases x <;> cases y <;> simp -dsimp only [Opt_none, Opt_some, zipLD]
theorem WL_cat (p q : P) (S : ES) (Q : List D → ES → Prop) {bx : Bx Q} : @WL c (.cat p q) S Q bx = WP c p S fun x S => WP c q S fun y S => Opt (rdP x S) fun x => Opt (rdP y S) fun y => Opt (catD x y) fun ds => Q ds S := by
  unfold WL WP
  simp -dsimp only [evL]
  rcases evP c p S with _ | ⟨x, S1⟩
  · simp -dsimp only [Option.bind_eq_bind, Option.bind_none, Opt_none]
  simp -dsimp only [Option.bind_eq_bind, Option.bind_some, Opt_some]
  rcases evP c q S1 with _ | ⟨y, S2⟩
  · simp -dsimp only [Option.bind_none, Opt_none]
  simp -dsimp only [Option.bind_some, Opt_some]
  rcases rdP x S2 with _ | x
  · simp -dsimp only [Option.bind_none, Opt_none]
  simp -dsimp only [Option.bind_some, Opt_some]
  rcases rdP y S2 with _ | y
  · simp -dsimp only [Option.bind_none, Opt_none]
  simp -dsimp only [Option.bind_some, Opt_some]
  cases x <;> cases y <;> simp -dsimp only [Opt_none, Opt_some, catD]
  split <;> simp -dsimp only [Opt_none, Opt_some]
theorem WL_sl (p : P) (lo hi : O) (S : ES) (Q : List D → ES → Prop) {bx : Bx Q} : @WL c (.sl p lo hi) S Q bx = WP c p S fun x S => WO c lo S fun lo S => WO c hi S fun hi S => Opt (cutL lo hi (rdP x S)) fun d => Q d S := by
  unfold WL WP WO
  simp -dsimp only [evL]
  rcases evP c p S with _ | ⟨x, S1⟩
  · simp -dsimp only [Option.bind_eq_bind, Option.bind_none, Opt_none]
  simp -dsimp only [Option.bind_eq_bind, Option.bind_some, Opt_some]
  rcases evO c lo S1 with _ | ⟨y, S2⟩
  · simp -dsimp only [Option.bind_none, Opt_none]
  simp -dsimp only [Option.bind_some, Opt_some]
  rcases evO c hi S2 with _ | ⟨z, S3⟩
  · simp -dsimp only [Option.bind_none, Opt_none]
  simp -dsimp only [Option.bind_some, Opt_some]
  rcases rdP x S3 with _ | x
  · simp -dsimp only [Opt_none, cutL]
  cases x <;> simp -dsimp only [Opt_none, Opt_some, cutL]
theorem WL_slS (p : P) (lo st : E) (S : ES) (Q : List D → ES → Prop) {bx : Bx Q} (h : WP c p S fun x S => WE c lo S fun a S => WE c st S fun k S => Opt (slSD a k (rdP x S)) fun d => Q d S) : @WL c (.slS p lo st) S Q bx := by
  revert h
  unfold WP WE WL
  simp -dsimp only [evL]
  rcases evP c p S with _ | ⟨x, S1⟩
  · intro h; simp -dsimp only [Opt_none] at h
  simp -dsimp only [Opt_some]
  rcases ev c lo S1 with _ | ⟨a, S2⟩
  · intro h; simp -dsimp only [Opt_none] at h
  simp -dsimp only [Opt_some]
  rcases hc : ev c st S2 with _ | ⟨k, S3⟩
  · intro h; simp -dsimp only [Opt_none] at h
  simp -dsimp only [Opt_some]
  intro h
  obtain ⟨d, e, q⟩ := h
  rcases hx : rdP x S3 with _ | x
  · rw [hx] at e; simp -dsimp only [slSD] at e; cases e
  rw [hx] at e
  cases x <;> simp -dsimp only [slSD] at e <;> try cases e
  cases a <;> simp -dsimp only at e <;> try cases e
  cases k <;> simp -dsimp only at e <;> try cases e
  simp -dsimp only [hc, hx]
  split at e
  · rename_i hh
    rw [if_pos hh]
    cases e
    exact Opt_of rfl q
  · cases e
theorem WO_no (S : ES) (Q : Option Int → ES → Prop) {bx : Bx Q} : @WO c .no S Q bx = Q none S := by unfold WO; simp -dsimp only [evO, Opt_some]
theorem WO_e (e : E) (S : ES) (Q : Option Int → ES → Prop) {bx : Bx Q} : @WO c (.e e) S Q bx = WE c e S fun x S => Opt (intO x) fun i => Q (some i) S := by
  unfold WO WE
  simp -dsimp only [evO]
  rcases ev c e S with _ | ⟨x, S1⟩
  · simp -dsimp only [Opt_none]
  cases x <;> simp -dsimp only [Opt_none, Opt_some, intO]
theorem WC_no (S : ES) (Q : Bool → ES → Prop) {bx : Bx Q} : @WC c .no S Q bx = Q true S := by unfold WC; simp -dsimp only [evC, Opt_some]
theorem WC_t (t : T) (S : ES) (Q : Bool → ES → Prop) {bx : Bx Q} : @WC c (.t t) S Q bx = WT c t S Q := by unfold WC WT; simp -dsimp only [evC]
theorem WI_p (p : P) (S : ES) (Q : List D → ES → Prop) {bx : Bx Q} : @WI c (.p p) S Q bx = WP c p S fun x S => Opt (itemsPD (stP x S)) fun ds => Q ds S := by
  unfold WI WP
  simp -dsimp only [evI]
  rcases evP c p S with _ | ⟨x, S1⟩
  · simp -dsimp only [Option.bind_eq_bind, Option.bind_none, Opt_none]
  simp -dsimp only [Option.bind_eq_bind, Option.bind_some, Opt_some]
  rcases stP x S1 with _ | x
  · simp -dsimp only [Option.bind_none, Opt_none, itemsPD]
  simp -dsimp only [Option.bind_some, itemsPD]
  rcases itemsD x with _ | ds <;> simp -dsimp only [Option.bind_none, Opt_none, Option.bind_some, Opt_some]
def ownIt (i : Nat) (S : ES) (Q : List D → ES → Prop) : Option Sl → Prop
  | some (.own (.lst ds)) => Q ds { S with r := S.r.set i .no }
  | _ => False
theorem WI_own (i : Nat) (S : ES) (Q : List D → ES → Prop) {bx : Bx Q} : @WI c (.own i) S Q bx = ownIt i S Q S.r[i]? := by
  unfold WI
  simp -dsimp only [evI]
  rcases S.r[i]? with _ | (_ | d | (ds | kvs)) <;> simp -dsimp only [Opt_none, Opt_some, ownIt]
theorem WI_rng1 (a : E) (S : ES) (Q : List D → ES → Prop) {bx : Bx Q} : @WI c (.rng1 a) S Q bx = WE c a S fun x S => Opt (rng1D x) fun ds => Q ds S := by
  unfold WI WE
  simp -dsimp only [evI]
  rcases ev c a S with _ | ⟨x, S1⟩
  · simp -dsimp only [Opt_none]
  cases x with
  | int j => simp -dsimp only [rng1D, Opt_some]; split <;> simp -dsimp only [Opt_none, Opt_some]
  | _ => simp -dsimp only [Opt_none, Opt_some, rng1D]
theorem WI_rng2 (a b : E) (S : ES) (Q : List D → ES → Prop) {bx : Bx Q} (h : WE c a S fun x S => WE c b S fun y S => Opt (rng2D x y) fun ds => Q ds S) : @WI c (.rng2 a b) S Q bx := by
  revert h
  unfold WE WI
  simp -dsimp only [evI]
  rcases ev c a S with _ | ⟨x, S1⟩
  · intro h; simp -dsimp only [Opt_none] at h
  simp -dsimp only [Opt_some]
  rcases hc : ev c b S1 with _ | ⟨y, S2⟩
  · intro h; simp -dsimp only [Opt_none] at h
  simp -dsimp only [Opt_some]
  intro h
  obtain ⟨ds, e, q⟩ := h
  cases x <;> cases y <;> simp -dsimp only [rng2D] at e <;> try cases e
  split at e
  · rename_i hh
    simp -dsimp only [hc]
    rw [if_pos hh]
    cases e
    exact Opt_of rfl q
  · cases e
theorem WI_enum (p : P) (S : ES) (Q : List D → ES → Prop) {bx : Bx Q} : @WI c (.enum p) S Q bx = WP c p S fun x S => Opt (enumPD (stP x S)) fun ds => Q ds S := by
  unfold WI WP
  simp -dsimp only [evI]
  rcases evP c p S with _ | ⟨x, S1⟩
  · simp -dsimp only [Option.bind_eq_bind, Option.bind_none, Opt_none]
  simp -dsimp only [Option.bind_eq_bind, Option.bind_some, Opt_some]
  rcases stP x S1 with _ | x
  · simp -dsimp only [Opt_none, enumPD]
  cases x <;> simp -dsimp only [Opt_none, Opt_some, enumPD]
theorem WI_items (p : P) (S : ES) (Q : List D → ES → Prop) {bx : Bx Q} : @WI c (.items p) S Q bx = WP c p S fun x S => Opt (itmPD (stP x S)) fun ds => Q ds S := by
  unfold WI WP
  simp -dsimp only [evI]
  rcases evP c p S with _ | ⟨x, S1⟩
  · simp -dsimp only [Option.bind_eq_bind, Option.bind_none, Opt_none]
  simp -dsimp only [Option.bind_eq_bind, Option.bind_some, Opt_some]
  rcases stP x S1 with _ | x
  · simp -dsimp only [Opt_none, itmPD]
  cases x <;> simp -dsimp only [Opt_none, Opt_some, itmPD]
theorem WI_zip (p q : P) (S : ES) (Q : List D → ES → Prop) {bx : Bx Q} : @WI c (.zip p q) S Q bx = WP c p S fun x S => WP c q S fun y S => Opt (stP x S) fun x => Opt (stP y S) fun y => Opt (zipLD x y) fun ds => Q ds S := by
  unfold WI WP
  simp -dsimp only [evI]
  rcases evP c p S with _ | ⟨x, S1⟩
  · simp -dsimp only [Option.bind_eq_bind, Option.bind_none, Opt_none]
  simp -dsimp only [Option.bind_eq_bind, Option.bind_some, Opt_some]
  rcases evP c q S1 with _ | ⟨y, S2⟩
  · simp -dsimp only [Option.bind_none, Opt_none]
  simp -dsimp only [Option.bind_some, Opt_some]
  rcases stP x S2 with _ | x
  · simp -dsimp only [Option.bind_none, Opt_none]
  simp -dsimp only [Option.bind_some, Opt_some]
  rcases stP y S2 with _ | y
  · simp -dsimp only [Option.bind_none, Opt_none]
  simp -dsimp only [Option.bind_some, Opt_some]
  cases x <;> cases y <;> simp -dsimp only [Opt_none, Opt_some, zipLD]

/-! ### comprehensions -/
/-- one turn of a list comprehension -/
def LTurn (x : E) (tg : Tg) (c1 : C1) (own : List Nat) (d : D) (S : ES) (Q : Option D → ES → Prop) : Prop :=
  Opt (asgTg tg d (wipeR S.r own)) fun r => WC c c1 { S with r := r } fun k S => WIf k
    (WE c x S fun y S => Q (some y) { S with r := wipeR S.r own }) (Q none { S with r := wipeR S.r own })
def LTurns (x : E) (tg : Tg) (c1 : C1) (own : List Nat) : List D → ES → (List D → ES → Prop) → Prop
  | [], S, Q => Q [] S
  | d :: ds, S, Q => LTurn c x tg c1 own d S fun o S => LTurns x tg c1 own ds S fun out S => Q (pushO o out) S
theorem LTurns_ok (x : E) (tg : Tg) (c1 : C1) (own : List Nat) : ∀ (ds : List D) (S : ES) (Q : List D → ES → Prop), LTurns c x tg c1 own ds S Q →
    Opt (compF (fun d S => match asgTg tg d (wipeR S.r own) with
        | none => none
        | some r => match evC c c1 { S with r := r } with
          | none => none
          | some (false, S) => some (none, { S with r := wipeR S.r own })
          | some (true, S) => match ev c x S with
            | none => none
            | some (y, S) => some (some y, { S with r := wipeR S.r own })) ds S) fun r => Q r.1 r.2
  | [], S, Q, h => by simp -dsimp only [compF, Opt_some]; exact h
  | d :: ds, S, Q, h => by
    simp -dsimp only [LTurns, LTurn] at h
    simp -dsimp only [compF]
    revert h
    rcases asgTg tg d (wipeR S.r own) with _ | r
    · intro h; simp -dsimp only [Opt_none] at h
    simp -dsimp only [Opt_some, WC]
    rcases evC c c1 { S with r := r } with _ | ⟨k, S1⟩
    · intro h; simp -dsimp only [Opt_none] at h
    cases k with
    | false =>
      simp -dsimp only [Opt_some, WIf_f]
      intro h
      obtain ⟨⟨out, S2⟩, e, q⟩ := LTurns_ok x tg c1 own ds _ _ h
      rw [e]
      exact Opt_of rfl q
    | true =>
      simp -dsimp only [Opt_some, WIf_t, WE]
      rcases ev c x S1 with _ | ⟨y, S2⟩
      · intro h; simp -dsimp only [Opt_none] at h
      simp -dsimp only [Opt_some]
      intro h
      obtain ⟨⟨out, S3⟩, e, q⟩ := LTurns_ok x tg c1 own ds _ _ h
      rw [e]
      exact Opt_of rfl q
/-- a list comprehension: the turns, then what follows -/
def LComp (x : E) (tg : Tg) (it : It) (c1 : C1) (own : List Nat) (S S1 : ES) (items : List D) (Q : List D → ES → Prop) : Prop :=
  items.length ≤ sizeLine ∧ LTurns c x tg c1 own items { S1 with r := wipeR S1.r own } fun out S2 => Q out (unhid it S { S2 with r := backR S1.r S2.r own })
theorem WL_comp (x : E) (tg : Tg) (it : It) (c1 : C1) (own : List (Str × Nat)) (S : ES) (Q : List D → ES → Prop) {bx : Bx Q} (h : WI c it S fun items S1 => LComp c x tg it c1 (own.map (·.2)) S S1 items Q) : @WL c (.comp x tg it c1 own) S Q bx := by
  revert h
  unfold WI WL
  simp -dsimp only [evL]
  rcases evI c it S with _ | ⟨items, S1⟩
  · intro h; simp -dsimp only [Opt_none] at h
  simp -dsimp only [Opt_some]
  intro h
  obtain ⟨hl, h⟩ := h
  obtain ⟨⟨out, S2⟩, e, q⟩ := LTurns_ok c x tg c1 _ _ _ _ h
  erw [e]
  simp -dsimp only
  rw [if_pos hl]
  exact Opt_of rfl q
/-- one turn of a dict comprehension -/
def DTurns (k v : E) (tg : Tg) (own : List Nat) : List D → List (Key × D) → ES → (List (Key × D) → ES → Prop) → Prop
  | [], acc, S, Q => Q acc S
  | d :: ds, acc, S, Q => Opt (asgTg tg d (wipeR S.r own)) fun r => WE c k { S with r := r } fun kd S => Opt (keyD kd) fun kk => WE c v S fun y S => DTurns k v tg own ds (putD acc kk y) { S with r := wipeR S.r own } Q
theorem DTurns_ok (k v : E) (tg : Tg) (own : List Nat) : ∀ (ds : List D) (acc : List (Key × D)) (S : ES) (Q : List (Key × D) → ES → Prop), DTurns c k v tg own ds acc S Q →
    Opt (compD (fun d S => match asgTg tg d (wipeR S.r own) with
        | none => none
        | some r => match ev c k { S with r := r } with
          | none => none
          | some (kd, S) => match keyD kd with
            | none => none
            | some kk => match ev c v S with
              | none => none
              | some (y, S) => some (kk, y, { S with r := wipeR S.r own })) ds acc S) fun r => Q r.1 r.2
  | [], acc, S, Q, h => by simp -dsimp only [compD, Opt_some]; exact h
  | d :: ds, acc, S, Q, h => by
    simp -dsimp only [DTurns] at h
    simp -dsimp only [compD]
    revert h
    rcases asgTg tg d (wipeR S.r own) with _ | r
    · intro h; simp -dsimp only [Opt_none] at h
    simp -dsimp only [Opt_some, WE]
    rcases ev c k { S with r := r } with _ | ⟨kd, S1⟩
    · intro h; simp -dsimp only [Opt_none] at h
    simp -dsimp only [Opt_some]
    rcases keyD kd with _ | kk
    · intro h; simp -dsimp only [Opt_none] at h
    simp -dsimp only [Opt_some, WE]
    rcases ev c v S1 with _ | ⟨y, S2⟩
    · intro h; simp -dsimp only [Opt_none] at h
    simp -dsimp only [Opt_some]
    intro h
    exact DTurns_ok k v tg own ds _ _ _ h
def DComp (k v : E) (tg : Tg) (own : List Nat) (S1 : ES) (items : List D) (Q : List (Key × D) → ES → Prop) : Prop :=
  items.length ≤ sizeLine ∧ DTurns c k v tg own items [] { S1 with r := wipeR S1.r own } fun out S2 => Q out { S2 with r := backR S1.r S2.r own }
theorem WD_nil (S : ES) (Q : List (Key × D) → ES → Prop) {bx : Bx Q} : @WD c .nil S Q bx = Q [] S := by unfold WD; simp -dsimp only [evD, Opt_some]
theorem WD_comp (k v : E) (tg : Tg) (it : It) (own : List (Str × Nat)) (S : ES) (Q : List (Key × D) → ES → Prop) {bx : Bx Q} (h : WI c it S fun items S1 => DComp c k v tg (own.map (·.2)) S1 items Q) : @WD c (.comp k v tg it own) S Q bx := by
  revert h
  unfold WI WD
  simp -dsimp only [evD]
  rcases evI c it S with _ | ⟨items, S1⟩
  · intro h; simp -dsimp only [Opt_none] at h
  simp -dsimp only [Opt_some]
  intro h
  obtain ⟨hl, h⟩ := h
  obtain ⟨⟨out, S2⟩, e, q⟩ := DTurns_ok c k v tg _ _ _ _ _ h
  erw [e]
  simp -dsimp only
  rw [if_pos hl]
  exact Opt_of rfl q

/-! ### statements -/
/-- what follows a statement -/
def seqQ (b : B) (Q : Fl → ES → Prop) : Fl → ES → Prop
  | .nx, S => WB c b S Q
  | f, S => Q f S
theorem seqQ_nx (b : B) (Q : Fl → ES → Prop) (S : ES) : seqQ c b Q .nx S = WB c b S Q := rfl
theorem seqQ_rt (b : B) (Q : Fl → ES → Prop) (S : ES) (d : D) : seqQ c b Q (.rt d) S = Q (.rt d) S := rfl
theorem seqQ_bk (b : B) (Q : Fl → ES → Prop) (S : ES) : seqQ c b Q .bk S = Q .bk S := rfl
theorem seqQ_ct (b : B) (Q : Fl → ES → Prop) (S : ES) : seqQ c b Q .ct S = Q .ct S := rfl
theorem WB_nil (S : ES) (Q : Fl → ES → Prop) {bx : Bx Q} : @WB c .nil S Q bx = Q .nx S := by unfold WB; simp -dsimp only [exB, Opt_some]
theorem WB_cons (s : S) (b : B) (S : ES) (Q : Fl → ES → Prop) {bx : Bx Q} : @WB c (.cons s b) S Q bx = WS c s S (seqQ c b Q) := by
  unfold WB WS
  simp -dsimp only [exB]
  rcases exS c s S with _ | ⟨f, S1⟩
  · simp -dsimp only [Opt_none]
  cases f <;> simp -dsimp only [Opt_some, seqQ, WB]
theorem WS_asg (tg : Tg) (e : E) (S : ES) (Q : Fl → ES → Prop) {bx : Bx Q} : @WS c (.asg tg e) S Q bx = WE c e S fun d S => Opt (asgTg tg d S.r) fun r => Q .nx { S with r := r } := by
  unfold WS WE
  simp -dsimp only [exS]
  rcases ev c e S with _ | ⟨x, S1⟩
  · simp -dsimp only [Opt_none]
  simp -dsimp only [Opt_some]
  rcases asgTg tg x S1.r with _ | r <;> simp -dsimp only [Opt_none, Opt_some]
theorem WS_par (ns : List Nat) (es : Es) (S : ES) (Q : Fl → ES → Prop) {bx : Bx Q} : @WS c (.par ns es) S Q bx = WEs c es S fun ds S => Opt (asgTgs (tgsOf ns.reverse) ds.reverse S.r) fun r => Q .nx { S with r := r } := by
  unfold WS WEs
  simp -dsimp only [exS]
  rcases evs c es S with _ | ⟨x, S1⟩
  · simp -dsimp only [Opt_none]
  simp -dsimp only [Opt_some]
  rcases asgTgs (tgsOf ns.reverse) x.reverse S1.r with _ | r <;> simp -dsimp only [Opt_none, Opt_some]
theorem WS_asgL (i : Nat) (l : L) (S : ES) (Q : Fl → ES → Prop) {bx : Bx Q} : @WS c (.asgL i l) S Q bx = WL c l S fun ds S => i < S.r.length ∧ Q .nx { S with r := S.r.set i (.own (.lst ds)) } := by
  unfold WS WL
  simp -dsimp only [exS]
  rcases evL c l S with _ | ⟨x, S1⟩
  · simp -dsimp only [Opt_none]
  simp -dsimp only [Opt_some]
  by_cases h : i < S1.r.length
  · simp -dsimp only [h, if_true, Opt_some, true_and]
  · simp -dsimp only [h, if_false, Opt_none, false_and]
theorem WS_asgD (i : Nat) (l : Dt) (S : ES) (Q : Fl → ES → Prop) {bx : Bx Q} : @WS c (.asgD i l) S Q bx = WD c l S fun kvs S => i < S.r.length ∧ Q .nx { S with r := S.r.set i (.own (.dic kvs)) } := by
  unfold WS WD
  simp -dsimp only [exS]
  rcases evD c l S with _ | ⟨x, S1⟩
  · simp -dsimp only [Opt_none]
  simp -dsimp only [Opt_some]
  by_cases h : i < S1.r.length
  · simp -dsimp only [h, if_true, Opt_some, true_and]
  · simp -dsimp only [h, if_false, Opt_none, false_and]
theorem WS_drop (e : E) (S : ES) (Q : Fl → ES → Prop) {bx : Bx Q} : @WS c (.drop e) S Q bx = WE c e S fun _ S => Q .nx S := by
  unfold WS WE
  simp -dsimp only [exS]
  rcases ev c e S with _ | ⟨x, S1⟩ <;> simp -dsimp only [Opt_none, Opt_some]
def appS (i : Nat) (d : D) (S : ES) (Q : Fl → ES → Prop) : Option Sl → Prop
  | some (.own (.lst ds)) => ds.length < sizeLine ∧ Q .nx { S with r := S.r.set i (.own (.lst (ds ++ [d]))) }
  | _ => False
theorem WS_app (i : Nat) (e : E) (S : ES) (Q : Fl → ES → Prop) {bx : Bx Q} : @WS c (.app i e) S Q bx = (isOL S i = true ∧ WE c e S fun d S => appS i d S Q S.r[i]?) := by
  unfold WS WE
  simp -dsimp only [exS]
  cases h : isOL S i
  · simp -dsimp only [Bool.false_eq_true, if_false, Opt_none, false_and]
  simp -dsimp only [if_true, true_and]
  rcases ev c e S with _ | ⟨x, S1⟩
  · simp -dsimp only [Opt_none]
  simp -dsimp only [Opt_some]
  rcases S1.r[i]? with _ | (_ | d | (ds | kvs))
  case some.own.lst =>
    simp -dsimp only [appS]
    by_cases hk : ds.length < sizeLine
    · simp -dsimp only [hk, if_true, Opt_some, true_and]
    · simp -dsimp only [hk, if_false, Opt_none, false_and]
  all_goals simp -dsimp only [Opt_none, appS]
def extS (i : Nat) (x : Option D) (S : ES) (Q : Fl → ES → Prop) : Option Sl → Prop
  | some (.own (.lst ds)) => match x with
    | some (.lst es) => ds.length + es.length ≤ sizeLine ∧ Q .nx { S with r := S.r.set i (.own (.lst (ds ++ es))) }
    | _ => False
  | _ => False
theorem WS_ext (i : Nat) (p : P) (S : ES) (Q : Fl → ES → Prop) {bx : Bx Q} : @WS c (.ext i p) S Q bx = (isOL S i = true ∧ WP c p S fun x S => extS i (rdP x S) S Q S.r[i]?) := by
  unfold WS WP
  simp -dsimp only [exS]
  cases h : isOL S i
  · simp -dsimp only [Bool.false_eq_true, if_false, Opt_none, false_and]
  simp -dsimp only [if_true, true_and]
  rcases evP c p S with _ | ⟨x, S1⟩
  · simp -dsimp only [Opt_none]
  simp -dsimp only [Opt_some]
  rcases rdP x S1 with _ | d
  · simp -dsimp only [Opt_none]
    rcases S1.r[i]? with _ | (_ | d | (ds | kvs)) <;> simp -dsimp only [extS]
  cases d with
  | lst es =>
    simp -dsimp only
    rcases S1.r[i]? with _ | (_ | d | (ds | kvs))
    case some.own.lst =>
      simp -dsimp only [extS]
      by_cases hk : ds.length + es.length ≤ sizeLine
      · simp -dsimp only [hk, if_true, Opt_some, true_and]
      · simp -dsimp only [hk, if_false, Opt_none, false_and]
    all_goals simp -dsimp only [Opt_none, extS]
  | _ =>
    simp -dsimp only [Opt_none]
    rcases S1.r[i]? with _ | (_ | d | (ds | kvs)) <;> simp -dsimp only [extS]
def setLS (i : Nat) (d k : D) (S : ES) (Q : Fl → ES → Prop) : Option Sl → Prop
  | some (.own (.lst ds)) => match k with
    | .int k => Opt (ixN ds.length k) fun j => Q .nx { S with r := S.r.set i (.own (.lst (ds.set j d))) }
    | _ => False
  | _ => False
theorem WS_setL (i : Nat) (k e : E) (S : ES) (Q : Fl → ES → Prop) {bx : Bx Q} : @WS c (.setL i k e) S Q bx = WE c e S fun d S => isOw S i = true ∧ WE c k S fun k S => setLS i d k S Q S.r[i]? := by
  unfold WS WE
  simp -dsimp only [exS]
  rcases ev c e S with _ | ⟨d, S1⟩
  · simp -dsimp only [Opt_none]
  simp -dsimp only [Opt_some]
  cases h : isOw S1 i
  · simp -dsimp only [Bool.false_eq_true, if_false, Opt_none, false_and]
  simp -dsimp only [if_true, true_and]
  rcases ev c k S1 with _ | ⟨k, S2⟩
  · simp -dsimp only [Opt_none]
  simp -dsimp only [Opt_some]
  cases k with
  | int k =>
    simp -dsimp only
    rcases S2.r[i]? with _ | (_ | d2 | (ds | kvs))
    case some.own.lst =>
      simp -dsimp only [setLS]
      rcases ixN ds.length k with _ | j <;> simp -dsimp only [Opt_none, Opt_some]
    all_goals simp -dsimp only [Opt_none, setLS]
  | _ =>
    simp -dsimp only [Opt_none]
    rcases S2.r[i]? with _ | (_ | d | (ds | kvs)) <;> simp -dsimp only [setLS]
def putS (i : Nat) (d k : D) (S : ES) (Q : Fl → ES → Prop) : Option Sl → Prop
  | some (.own (.dic kvs)) => Opt (keyD k) fun kk => kvs.length < sizeLine ∧ Q .nx { S with r := S.r.set i (.own (.dic (putD kvs kk d))) }
  | _ => False
theorem WS_put (i : Nat) (k e : E) (S : ES) (Q : Fl → ES → Prop) {bx : Bx Q} : @WS c (.put i k e) S Q bx = WE c e S fun d S => isOw S i = true ∧ WE c k S fun k S => putS i d k S Q S.r[i]? := by
  unfold WS WE
  simp -dsimp only [exS]
  rcases ev c e S with _ | ⟨d, S1⟩
  · simp -dsimp only [Opt_none]
  simp -dsimp only [Opt_some]
  cases h : isOw S1 i
  · simp -dsimp only [Bool.false_eq_true, if_false, Opt_none, false_and]
  simp -dsimp only [if_true, true_and]
  rcases ev c k S1 with _ | ⟨k, S2⟩
  · simp -dsimp only [Opt_none]
  simp -dsimp only [Opt_some]
  rcases hk : keyD k with _ | kk
  · simp -dsimp only [Opt_none]
    rcases S2.r[i]? with _ | (_ | d2 | (ds | kvs)) <;> simp -dsimp only [putS, hk, Opt_none]
  simp -dsimp only
  rcases S2.r[i]? with _ | (_ | d2 | (ds | kvs))
  case some.own.dic =>
    simp -dsimp only [putS, hk, Opt_some]
    by_cases hk : kvs.length < sizeLine
    · simp -dsimp only [hk, if_true, Opt_some, true_and]
    · simp -dsimp only [hk, if_false, Opt_none, false_and]
  all_goals simp -dsimp only [Opt_none, putS]
def hsetS (x : Pv) (d kd : D) (S : ES) (Q : Fl → ES → Prop) : Prop := match hnd x S with
  | none => False
  | some n => match S.st[n]? with
    | some (.lst ds) => match kd with
      | .int k => Opt (ixN ds.length k) fun j => Q .nx { S with st := S.st.set n (.lst (ds.set j d)) }
      | _ => False
    | some (.dic kvs) => Opt (keyD kd) fun kk => kvs.length < sizeLine ∧ Q .nx { S with st := S.st.set n (.dic (putD kvs kk d)) }
    | none => False
theorem WS_hset (p : P) (k e : E) (S : ES) (Q : Fl → ES → Prop) {bx : Bx Q} : @WS c (.hset p k e) S Q bx = WE c e S fun d S => WP c p S fun x S => WE c k S fun k S => hsetS x d k S Q := by
  unfold WS WE WP
  simp -dsimp only [exS]
  rcases ev c e S with _ | ⟨d, S1⟩
  · simp -dsimp only [Opt_none]
  simp -dsimp only [Opt_some]
  rcases evP c p S1 with _ | ⟨x, S2⟩
  · simp -dsimp only [Opt_none]
  simp -dsimp only [Opt_some]
  rcases ev c k S2 with _ | ⟨kd, S3⟩
  · simp -dsimp only [Opt_none]
  simp -dsimp only [Opt_some, hsetS]
  rcases hnd x S3 with _ | n
  · simp -dsimp only [Opt_none]
  simp -dsimp only
  rcases S3.st[n]? with _ | (ds | kvs)
  · simp -dsimp only [Opt_none]
  · cases kd with
    | int k =>
      simp -dsimp only
      rcases ixN ds.length k with _ | j <;> simp -dsimp only [Opt_none, Opt_some]
    | _ => simp -dsimp only [Opt_none]
  · simp -dsimp only
    rcases keyD kd with _ | kk
    · simp -dsimp only [Opt_none]
    simp -dsimp only [Opt_some]
    by_cases hk : kvs.length < sizeLine
    · simp -dsimp only [hk, if_true, Opt_some, true_and]
    · simp -dsimp only [hk, if_false, Opt_none, false_and]
theorem WS_if (t : T) (a b : B) (S : ES) (Q : Fl → ES → Prop) {bx : Bx Q} : @WS c (.ifS t a b) S Q bx = WT c t S fun k S => WIf k (WB c a S Q) (WB c b S Q) := by
  unfold WS WT WB
  simp -dsimp only [exS]
  rcases evT c t S with _ | ⟨k, S1⟩
  · simp -dsimp only [Opt_none]
  cases k <;> simp -dsimp only [Opt_some, WIf_t, WIf_f]
theorem WS_ret (e : E) (S : ES) (Q : Fl → ES → Prop) {bx : Bx Q} : @WS c (.ret e) S Q bx = WE c e S fun d S => Q (.rt d) S := by
  unfold WS WE
  simp -dsimp only [exS]
  rcases ev c e S with _ | ⟨x, S1⟩ <;> simp -dsimp only [Opt_none, Opt_some]
theorem WS_retN (S : ES) (Q : Fl → ES → Prop) {bx : Bx Q} : @WS c .retN S Q bx = Q (.rt .non) S := by unfold WS; simp -dsimp only [exS, Opt_some]
theorem WS_pass (S : ES) (Q : Fl → ES → Prop) {bx : Bx Q} : @WS c .pass S Q bx = Q .nx S := by unfold WS; simp -dsimp only [exS, Opt_some]
theorem WS_brk (S : ES) (Q : Fl → ES → Prop) {bx : Bx Q} : @WS c .brk S Q bx = Q .bk S := by unfold WS; simp -dsimp only [exS, Opt_some]
theorem WS_cont (S : ES) (Q : Fl → ES → Prop) {bx : Bx Q} : @WS c .cont S Q bx = Q .ct S := by unfold WS; simp -dsimp only [exS, Opt_some]
/-- a for's turns -/
def forQ (K : ES → Prop) (Q : Fl → ES → Prop) : Fl → ES → Prop
  | .nx, S => K S
  | .ct, S => K S
  | .bk, S => Q .nx S
  | .rt d, S => Q (.rt d) S
theorem forQ_nx (K : ES → Prop) (Q : Fl → ES → Prop) (S : ES) : forQ K Q .nx S = K S := rfl
theorem forQ_ct (K : ES → Prop) (Q : Fl → ES → Prop) (S : ES) : forQ K Q .ct S = K S := rfl
theorem forQ_bk (K : ES → Prop) (Q : Fl → ES → Prop) (S : ES) : forQ K Q .bk S = Q .nx S := rfl
theorem forQ_rt (K : ES → Prop) (Q : Fl → ES → Prop) (S : ES) (d : D) : forQ K Q (.rt d) S = Q (.rt d) S := rfl
def FTurns (tg : Tg) (b : B) : List D → ES → (Fl → ES → Prop) → Prop
  | [], S, Q => Q .nx S
  | d :: ds, S, Q => Opt (asgTg tg d S.r) fun r => WB c b { S with r := r } (forQ (fun S => FTurns tg b ds S Q) Q)
theorem FTurns_ok (tg : Tg) (b : B) : ∀ (ds : List D) (S : ES) (Q : Fl → ES → Prop), FTurns c tg b ds S Q → Opt (forF (fun d S => match asgTg tg d S.r with
      | none => none
      | some r => exB c b { S with r := r }) ds S) fun r => Q r.1 r.2
  | [], S, Q, h => by simp -dsimp only [forF, Opt_some]; exact h
  | d :: ds, S, Q, h => by
    simp -dsimp only [FTurns] at h
    simp -dsimp only [forF]
    revert h
    rcases asgTg tg d S.r with _ | r
    · intro h; simp -dsimp only [Opt_none] at h
    simp -dsimp only [Opt_some, WB]
    rcases exB c b { S with r := r } with _ | ⟨f, S1⟩
    · intro h; simp -dsimp only [Opt_none] at h
    simp -dsimp only [Opt_some]
    intro h
    cases f with
    | nx => exact FTurns_ok tg b ds _ _ h
    | ct => exact FTurns_ok tg b ds _ _ h
    | bk => exact Opt_of rfl h
    | rt d => exact Opt_of rfl h
theorem WS_for (tg : Tg) (it : It) (b : B) (S : ES) (Q : Fl → ES → Prop) {bx : Bx Q} (h : WI c it S fun items S => FTurns c tg b items S Q) : @WS c (.forS tg it b) S Q bx := by
  revert h
  unfold WI WS
  simp -dsimp only [exS]
  rcases evI c it S with _ | ⟨items, S1⟩
  · intro h; simp -dsimp only [Opt_none] at h
  simp -dsimp only [Opt_some]
  intro h
  exact FTurns_ok c tg b _ _ _ h
/-- a while's turns: one more turn -/
theorem WS_while (t : T) (b : B) (S : ES) (Q : Fl → ES → Prop) {bx : Bx Q} (h : WT c t S fun k S => WIf k (WB c b S (forQ (fun S => WS c (.whileS t b) S Q) Q)) (Q .nx S)) : @WS c (.whileS t b) S Q bx := by
  unfold WS WT WB at *
  simp -dsimp only [exS] at *
  rcases ht : evT c t S with _ | ⟨k, S1⟩
  · rw [ht] at h; simp -dsimp only [Opt_none] at h
  rw [ht] at h
  simp -dsimp only [Opt_some] at h
  cases k with
  | false =>
    rw [WIf_f] at h
    exact Opt_of (whF_of (n := 1) (by unfold whN; rw [ht])) h
  | true =>
    rw [WIf_t] at h
    rcases hb : exB c b S1 with _ | ⟨f, S2⟩
    · rw [hb] at h; simp -dsimp only [Opt_none] at h
    rw [hb] at h
    simp -dsimp only [Opt_some] at h
    cases f with
    | nx =>
      obtain ⟨r, e, q⟩ := h
      obtain ⟨n, e⟩ := whF_is e
      exact Opt_of (whF_of (n := n + 1) (by unfold whN; rw [ht]; simp -dsimp only; rw [hb]; exact e)) q
    | ct =>
      obtain ⟨r, e, q⟩ := h
      obtain ⟨n, e⟩ := whF_is e
      exact Opt_of (whF_of (n := n + 1) (by unfold whN; rw [ht]; simp -dsimp only; rw [hb]; exact e)) q
    | bk => exact Opt_of (whF_of (n := 1) (r := (.nx, S2)) (by unfold whN; rw [ht]; simp -dsimp only; rw [hb])) h
    | rt d => exact Opt_of (whF_of (n := 1) (r := (.rt d, S2)) (by unfold whN; rw [ht]; simp -dsimp only; rw [hb])) h
end
/-- a run's end -/
def endQ (Q : D → Sto → Prop) : Fl → ES → Prop
  | .rt d, S => Q d S.st
  | .nx, S => Q .non S.st
  | _, _ => False
theorem endQ_rt (Q : D → Sto → Prop) (d : D) (S : ES) : endQ Q (.rt d) S = Q d S.st := rfl
theorem endQ_nx (Q : D → Sto → Prop) (S : ES) : endQ Q .nx S = Q .non S.st := rfl
theorem WCall_run {tbl : Str → Option DefM} {n : Nat} {f : Str} {ds : List D} {st : Sto} {m : DefM} {Q : D → Sto → Prop} {i : Bx Q} (hm : tbl f = some m) (hl : ds.length = m.np)
    (h : WB (runF tbl n) m.body ⟨ds.map .val ++ List.replicate (m.nn - m.np) .no, st⟩ (endQ Q)) : @WCall (runF tbl (n + 1)) f ds st Q i := by
  unfold WB at h
  unfold WCall
  obtain ⟨⟨fl, S⟩, e, q⟩ := h
  simp -dsimp only [runF]
  rw [hm]
  simp -dsimp only
  rw [if_pos hl, e]
  cases fl with
  | rt d => exact Opt_of rfl q
  | nx => exact Opt_of rfl q
  | bk => exact q.elim
  | ct => exact q.elim
/-- from the promise to the run's value -/
theorem WCall_val {c : CallF} {f : Str} {ds : List D} {st : Sto} {d : D} {st' : Sto} (h : WCall c f ds st fun x s => x = d ∧ s = st') : c f ds st = some (d, st') := by
  obtain ⟨⟨x, s⟩, e, rfl, rfl⟩ := h
  exact e
/-! ### turns that leave the state -/
section
variable (c : CallF)
/-- each item gives one datum, the state stays -/
theorem LTurns_map {α : Type} {x : E} {tg : Tg} {own : List Nat} {c1 : C1} {f : α → D} {g : α → D} {S : ES} : ∀ {xs : List α} {Q : List D → ES → Prop},
    (∀ a ∈ xs, ∀ K : Option D → ES → Prop, K (some (g a)) S → LTurn c x tg c1 own (f a) S K) → Q (xs.map g) S → LTurns c x tg c1 own (xs.map f) S Q
  | [], Q, h, q => q
  | a :: xs, Q, h, q => h a (List.mem_cons_self) _ (LTurns_map (xs := xs) (fun b hb K k => h b (List.mem_cons_of_mem _ hb) K k) q)
/-- those that pass a test, the state stays -/
theorem LTurns_filter {α : Type} {x : E} {tg : Tg} {own : List Nat} {c1 : C1} {f : α → D} {p : α → Bool} {g : α → D} {S : ES} : ∀ {xs : List α} {Q : List D → ES → Prop},
    (∀ a ∈ xs, ∀ K : Option D → ES → Prop, K (if p a then some (g a) else none) S → LTurn c x tg c1 own (f a) S K) → Q ((xs.filter p).map g) S → LTurns c x tg c1 own (xs.map f) S Q
  | [], Q, h, q => q
  | a :: xs, Q, h, q => by
    refine h a List.mem_cons_self _ (LTurns_filter (xs := xs) (p := p) (g := g) (fun b hb K k => h b (List.mem_cons_of_mem _ hb) K k) ?_)
    rw [List.filter_cons] at q
    split at q
    · rename_i hp; rw [if_pos hp]; exact q
    · rename_i hp; rw [if_neg hp]; exact q
/-- a for's turns by an invariant -/
theorem FTurns_inv {α : Type} {tg : Tg} {b : B} {f : α → D} {Q : Fl → ES → Prop} (I : List α → ES → Prop) : ∀ {xs : List α} {S : ES}, I xs S →
    (∀ a ys S, I (a :: ys) S → Opt (asgTg tg (f a) S.r) fun r => WB c b { S with r := r } (forQ (I ys) Q)) → (∀ S, I [] S → Q .nx S) → FTurns c tg b (xs.map f) S Q
  | [], S, h0, hs, hd => hd S h0
  | a :: xs, S, h0, hs, hd => by
    refine Opt_mono (hs a xs S h0) fun r hr => ?_
    refine Opt_mono hr fun r2 h2 => ?_
    obtain ⟨f2, S2⟩ := r2
    cases f2 with
    | nx => exact FTurns_inv I h2 hs hd
    | ct => exact FTurns_inv I h2 hs hd
    | bk => exact h2
    | rt d => exact h2
end
end Px
/-! Pw3: reading of data, by their form. -/
namespace Px
open PySem L2
theorem deref_tup (st : Sto) (ds : List D) : deref st (.tup ds) = .tup ds := rfl
theorem deref_lst (st : Sto) (ds : List D) : deref st (.lst ds) = .lst ds := rfl
theorem deref_dic (st : Sto) (ks : List Key) (ds : List D) : deref st (.dic ks ds) = .dic ks ds := rfl
theorem deref_int (st : Sto) (i : Int) : deref st (.int i) = .int i := rfl
theorem deref_str (st : Sto) (i : Str) : deref st (.str i) = .str i := rfl
theorem deref_bl (st : Sto) (i : Bool) : deref st (.bl i) = .bl i := rfl
theorem deref_non (st : Sto) : deref st .non = .non := rfl
theorem deref_scr (st : Sto) (i : List Int) : deref st (.scr i) = .scr i := rfl
theorem deref_hdl {st : Sto} {n : Nat} {b : Ob} (h : st[n]? = some b) : deref st (.hdl n) = b.frz := by simp only [deref, h]
def rdS (st : Sto) : Option Sl → Option D
  | some (.val d) => some (deref st d)
  | some (.own b) => some b.frz
  | _ => none
theorem rdS_val (st : Sto) (d : D) : rdS st (some (.val d)) = some (deref st d) := rfl
theorem rdS_own (st : Sto) (b : Ob) : rdS st (some (.own b)) = some b.frz := rfl
theorem rdP_d (d : D) (S : ES) : rdP (.d d) S = some (deref S.st d) := rfl
theorem rdP_s (i : Nat) (S : ES) : rdP (.s i) S = rdS S.st S.r[i]? := by
  simp only [rdP]
  rcases S.r[i]? with _ | (_ | d | b) <;> rfl
theorem rdP_l (ds : List D) (S : ES) : rdP (.l ds) S = some (.lst ds) := rfl
theorem rdP_k (kvs : List (Key × D)) (S : ES) : rdP (.k kvs) S = some (.dic (kvs.map (·.1)) (kvs.map (·.2))) := rfl
/-- no shared object -/
def nhD : D → Option D
  | .hdl _ => none
  | d => some d
theorem nhD_tup (ds : List D) : nhD (.tup ds) = some (.tup ds) := rfl
theorem nhD_lst (ds : List D) : nhD (.lst ds) = some (.lst ds) := rfl
theorem nhD_dic (ks : List Key) (ds : List D) : nhD (.dic ks ds) = some (.dic ks ds) := rfl
theorem nhD_str (x : Str) : nhD (.str x) = some (.str x) := rfl
theorem nhD_scr (x : List Int) : nhD (.scr x) = some (.scr x) := rfl
def stS : Option Sl → Option D
  | some (.val d) => nhD d
  | _ => none
theorem stS_val (d : D) : stS (some (.val d)) = nhD d := rfl
theorem stP_d (d : D) (S : ES) : stP (.d d) S = nhD d := by cases d <;> rfl
theorem stP_s (i : Nat) (S : ES) : stP (.s i) S = stS S.r[i]? := by
  simp only [stP]
  rcases S.r[i]? with _ | (_ | d | b)
  · rfl
  · rfl
  · cases d <;> rfl
  · rfl
theorem stP_l (ds : List D) (S : ES) : stP (.l ds) S = some (.lst ds) := rfl
theorem frz_lst (ds : List D) : (Ob.lst ds).frz = .lst ds := rfl
theorem frz_dic (kvs : List (Key × D)) : (Ob.dic kvs).frz = .dic (kvs.map (·.1)) (kvs.map (·.2)) := rfl
theorem idxD_tup (ds : List D) (i : Int) : idxD (.tup ds) (.int i) = atI ds i := rfl
theorem idxD_lst (ds : List D) (i : Int) : idxD (.lst ds) (.int i) = atI ds i := rfl
theorem idxD_dicS (ks : List Key) (ds : List D) (x : Str) : idxD (.dic ks ds) (.str x) = look ks ds (.inr x) := rfl
theorem lenD_tup (ds : List D) : lenD (.tup ds) = some (ds.length : Int) := rfl
theorem lenD_lst (ds : List D) : lenD (.lst ds) = some (ds.length : Int) := rfl
theorem lenD_dic (ks : List Key) (ds : List D) : lenD (.dic ks ds) = some (ks.length : Int) := rfl
theorem lenD_str (x : Str) : lenD (.str x) = some (x.length : Int) := rfl
theorem tru_lst (ds : List D) : tru (.lst ds) = some (!ds.isEmpty) := rfl
theorem tru_tup (ds : List D) : tru (.tup ds) = some (!ds.isEmpty) := rfl
theorem tru_bl (b : Bool) : tru (.bl b) = some b := rfl
theorem tru_non : tru .non = some false := rfl
theorem isIn_str (x : Str) : isIn (.str x) "str" = some true := by simp only [isIn, tyName]; rfl
theorem isIn_tup (x : List D) : isIn (.tup x) "str" = some false := by simp only [isIn, tyName]; rfl
theorem isIn_int (x : Int) : isIn (.int x) "str" = some false := by simp only [isIn, tyName]; rfl
theorem isIn_non : isIn .non "str" = some false := by simp only [isIn, tyName]; rfl
theorem isIn_tup_t (x : List D) : isIn (.tup x) "tuple" = some true := by simp only [isIn, tyName]; rfl
theorem isIn_str_t (x : Str) : isIn (.str x) "tuple" = some false := by simp only [isIn, tyName]; rfl
theorem isIn_bl_b (x : Bool) : isIn (.bl x) "bool" = some true := by simp only [isIn, tyName]; rfl
theorem cop_eq (x y : D) : cop .Eq x y = eqD x y := rfl
theorem cop_ne (x y : D) : cop .NotEq x y = (eqD x y).map (!·) := rfl
theorem cop_is (x : D) : cop .Is x .non = some (isNon x) := rfl
theorem cop_isn (x : D) : cop .IsNot x .non = some (!isNon x) := rfl
theorem cop_in (x y : D) : cop .In x y = inD x y := rfl
theorem cop_nin (x y : D) : cop .NotIn x y = (inD x y).map (!·) := rfl
theorem cop_lt (i j : Int) : cop .Lt (.int i) (.int j) = some (decide (i < j)) := rfl
theorem cop_le (i j : Int) : cop .LtE (.int i) (.int j) = some (decide (i ≤ j)) := rfl
theorem cop_gt (i j : Int) : cop .Gt (.int i) (.int j) = some (decide (j < i)) := rfl
theorem cop_ge (i j : Int) : cop .GtE (.int i) (.int j) = some (decide (j ≤ i)) := rfl
theorem isNon_non : isNon .non = true := rfl
theorem isNon_tup (ds : List D) : isNon (.tup ds) = false := rfl
theorem isNon_dic (ks : List Key) (ds : List D) : isNon (.dic ks ds) = false := rfl
theorem isNon_str (x : Str) : isNon (.str x) = false := rfl
theorem isNon_int (x : Int) : isNon (.int x) = false := rfl
theorem isNon_lst (x : List D) : isNon (.lst x) = false := rfl
theorem inD_lst (x : D) (ds : List D) : inD x (.lst ds) = memD x ds := rfl
theorem inD_tup (x : D) (ds : List D) : inD x (.tup ds) = memD x ds := rfl
theorem inD_dic (x : Str) (ks : List Key) (ds : List D) : inD (.str x) (.dic ks ds) = some (ks.any fun q => decide (q = .inr x)) := rfl
theorem keyD_str (x : Str) : keyD (.str x) = some (.inr x) := rfl
theorem keyD_int (x : Int) : keyD (.int x) = some (.inl x) := rfl
theorem bop_add (i j : Int) : bop .add (.int i) (.int j) = some (.int (i + j)) := rfl
theorem bop_sub (i j : Int) : bop .sub (.int i) (.int j) = some (.int (i - j)) := rfl
theorem bop_addS (a b : Str) : bop .add (.str a) (.str b) = if a.length + b.length ≤ sizeLine then some (.str (a ++ b)) else none := rfl
theorem bop_addT (a b : List D) : bop .add (.tup a) (.tup b) = if a.length + b.length ≤ sizeLine then some (.tup (a ++ b)) else none := rfl
theorem get2D_dic (x : Str) (d : D) (ks : List Key) (ds : List D) : get2D (.str x) d (some (.dic ks ds)) = some ((look ks ds (.inr x)).getD d) := rfl
def isDiO : Option D → Bool
  | some (.dic _ _) => true
  | _ => false
theorem isDi_eq (x : Pv) (S : ES) : isDi x S = isDiO (rdP x S) := by
  simp only [isDi]
  rcases rdP x S with _ | d
  · rfl
  · cases d <;> rfl
theorem isDiO_dic (ks : List Key) (ds : List D) : isDiO (some (.dic ks ds)) = true := rfl
theorem itemsPD_some (d : D) : itemsPD (some d) = itemsD d := rfl
theorem itemsD_tup (ds : List D) : itemsD (.tup ds) = some ds := rfl
theorem itemsD_lst (ds : List D) : itemsD (.lst ds) = some ds := rfl
theorem itemsD_scr (ns : List Int) : itemsD (.scr ns) = some (ns.map D.int) := rfl
theorem itemsD_dic (ks : List Key) (ds : List D) : itemsD (.dic ks ds) = some (ks.map dKey) := rfl
theorem asgTg_v {i : Nat} {d : D} {r : List Sl} : asgTg (.v i) d r = if i < r.length then some (r.set i (.val d)) else none := by simp only [asgTg]
theorem asgTg_tup {ts : Tgs} {ds : List D} {r : List Sl} : asgTg (.tup ts) (.tup ds) r = asgTgs ts ds r := by simp only [asgTg]
theorem asgTgs_nil {r : List Sl} : asgTgs .nil [] r = some r := by simp only [asgTgs]
def thenTgs (ts : Tgs) (ds : List D) : Option (List Sl) → Option (List Sl)
  | some r => asgTgs ts ds r
  | none => none
theorem thenTgs_some (ts : Tgs) (ds : List D) (r : List Sl) : thenTgs ts ds (some r) = asgTgs ts ds r := rfl
theorem asgTgs_cons {t : Tg} {ts : Tgs} {d : D} {ds : List D} {r : List Sl} : asgTgs (.cons t ts) (d :: ds) r = thenTgs ts ds (asgTg t d r) := by
  simp only [asgTgs]
  rcases asgTg t d r with _ | r <;> rfl
theorem tgsOf_nil : tgsOf [] = .nil := rfl
theorem tgsOf_cons (i : Nat) (is : List Nat) : tgsOf (i :: is) = .cons (.v i) (tgsOf is) := rfl
theorem unhid_p (p : P) (S S' : ES) : unhid (.p p) S S' = S' := rfl
theorem unhid_r1 (p : E) (S S' : ES) : unhid (.rng1 p) S S' = S' := rfl
theorem unhid_r2 (p q : E) (S S' : ES) : unhid (.rng2 p q) S S' = S' := rfl
theorem unhid_en (p : P) (S S' : ES) : unhid (.enum p) S S' = S' := rfl
theorem unhid_zip (p q : P) (S S' : ES) : unhid (.zip p q) S S' = S' := rfl
theorem unhid_it (p : P) (S S' : ES) : unhid (.items p) S S' = S' := rfl
def backS : Option Sl → Sl
  | some (.val d) => .val d
  | _ => .no
theorem backS_val (d : D) : backS (some (.val d)) = .val d := rfl
theorem backS_own (d : Ob) : backS (some (.own d)) = .no := rfl
theorem backS_no : backS (some .no) = .no := rfl
theorem backR_nil (r0 r : List Sl) : backR r0 r [] = r := rfl
theorem backR_cons (r0 r : List Sl) (i : Nat) (is : List Nat) : backR r0 r (i :: is) = (backR r0 r is).set i (backS r0[i]?) := by
  simp only [backR]
  rcases r0[i]? with _ | (_ | d | b) <;> rfl
theorem wipeR_nil (r : List Sl) : wipeR r [] = r := rfl
theorem wipeR_cons (r : List Sl) (i : Nat) (is : List Nat) : wipeR r (i :: is) = (wipeR r is).set i .no := rfl
theorem cutO_tup (lo hi : Option Int) (ds : List D) : cutO lo hi (some (.tup ds)) = some (.tup (cutD ds lo hi)) := rfl
theorem cutL_lst (lo hi : Option Int) (ds : List D) : cutL lo hi (some (.lst ds)) = some (cutD ds lo hi) := rfl
theorem tupOfD_tup (ds : List D) : tupOfD (some (.tup ds)) = some (.tup ds) := rfl
theorem tupOfD_lst (ds : List D) : tupOfD (some (.lst ds)) = some (.tup ds) := rfl
theorem zipLD_lst (ds es : List D) : zipLD (.lst ds) (.lst es) = some (zipD ds es) := rfl
theorem zipLD_tup (ds es : List D) : zipLD (.tup ds) (.tup es) = some (zipD ds es) := rfl
theorem catD_lst (ds es : List D) : catD (.lst ds) (.lst es) = if ds.length + es.length ≤ sizeLine then some (ds ++ es) else none := rfl
theorem ofPD_tup (ds : List D) : ofPD (some (.tup ds)) = some ds := rfl
theorem ofPD_lst (ds : List D) : ofPD (some (.lst ds)) = some ds := rfl
theorem enumPD_tup (ds : List D) : enumPD (some (.tup ds)) = some (enumD 0 ds) := rfl
theorem itmPD_dic (ks : List Key) (ds : List D) : itmPD (some (.dic ks ds)) = some (zipD (ks.map dKey) ds) := rfl
theorem intO_int (i : Int) : intO (.int i) = some i := rfl
theorem toIntD_int (i : Int) : toIntD (.int i) = some (.int i) := rfl
theorem toIntD_bl (b : Bool) : toIntD (.bl b) = some (.int (if b then 1 else 0)) := rfl
theorem toStrD_int (i : Int) : toStrD (.int i) = if i.natAbs.log2 < 1920 then some (.str (toString i)) else none := rfl
theorem absD_int (i : Int) : absD (.int i) = some (.int (if i < 0 then -i else i)) := rfl
theorem max2D_int (i j : Int) : max2D (.int i) (.int j) = some (.int (if j > i then j else i)) := rfl
theorem rng1D_int (j : Int) : rng1D (.int j) = if j < 2 ^ 62 ∧ -(2 ^ 62) ≤ j then some (rngD 0 j.toNat) else none := rfl
theorem rng2D_int (i j : Int) : rng2D (.int i) (.int j) = if j < 2 ^ 62 ∧ -(2 ^ 62) ≤ j ∧ i < 2 ^ 62 ∧ -(2 ^ 62) ≤ i then some (rngD i (j - i).toNat) else none := rfl
theorem allD_lst (ds : List D) : allD (some (.lst ds)) = (boolsD ds).map fun bs => bs.all id := rfl
theorem boolsD_map {α : Type} (f : α → Bool) (xs : List α) : boolsD (xs.map fun a => .bl (f a)) = some (xs.map f) := by
  induction xs with
  | nil => rfl
  | cons a xs ih => simp only [List.map_cons, boolsD, ih, Option.map_some]
end Px
/-! A0: data, names and trees, assignments. -/
namespace Px
open PySem L2 Classical
theorem atI_nat {α : Type} (l : List α) (k : Nat) : atI l (k : Int) = l[k]? := by
  unfold atI ixN
  rw [if_pos (by omega)]
  by_cases h : (k : Int) < l.length
  · rw [if_pos h]; simp only [Option.bind_some, Int.toNat_natCast]
  · rw [if_neg h]
    simp only [Option.bind_none]
    rw [List.getElem?_eq_none (by omega)]
theorem atI_0 {α : Type} (a : α) (l : List α) : atI (a :: l) 0 = some a := atI_nat _ 0
theorem atI_1 {α : Type} (a b : α) (l : List α) : atI (a :: b :: l) 1 = some b := atI_nat _ 1
theorem atI_2 {α : Type} (a b c : α) (l : List α) : atI (a :: b :: c :: l) 2 = some c := atI_nat _ 2
theorem atI_3 {α : Type} (a b c d : α) (l : List α) : atI (a :: b :: c :: d :: l) 3 = some d := atI_nat _ 3
theorem atI_4 {α : Type} (a b c d e : α) (l : List α) : atI (a :: b :: c :: d :: e :: l) 4 = some e := atI_nat _ 4
theorem atI_5 {α : Type} (a b c d e f : α) (l : List α) : atI (a :: b :: c :: d :: e :: f :: l) 5 = some f := atI_nat _ 5
theorem atI_int {α : Type} (l : List α) (i : Int) (h : 0 ≤ i) : atI l i = l[i.toNat]? := by
  have := atI_nat l i.toNat
  rwa [Int.toNat_of_nonneg h] at this
theorem cutD_tail (a : D) (l : List D) : cutD (a :: l) (some 1) none = l := by
  unfold cutD HT.sIx
  simp only [List.length_cons]
  rw [if_neg (by omega)]
  have : min (1 : Int).toNat (l.length + 1) = 1 := by simp
  rw [this]
  simp
theorem cutD_take (l : List D) (k : Nat) : cutD l none (some (k : Int)) = l.take k := by
  unfold cutD HT.sIx
  simp only
  rw [if_neg (by omega)]
  simp only [List.drop_zero, Nat.sub_zero, Int.toNat_natCast]
  by_cases h : k ≤ l.length
  · rw [Nat.min_eq_left h]
  · rw [Nat.min_eq_right (by omega), List.take_of_length_le (by omega), List.take_of_length_le (by omega)]
theorem cutD_drop (l : List D) (k : Nat) : cutD l (some (k : Int)) none = l.drop k := by
  unfold cutD HT.sIx
  simp only
  rw [if_neg (by omega)]
  simp only [Int.toNat_natCast]
  by_cases h : k ≤ l.length
  · rw [Nat.min_eq_left h, List.take_of_length_le (by simp)]
  · rw [Nat.min_eq_right (by omega), List.drop_of_length_le (by omega), List.drop_of_length_le (by omega)]; simp
theorem ofString_inj {a b : String} : (Str.ofString a = Str.ofString b) ↔ a = b := by
  constructor
  · intro h
    rw [Str.ofString_eq_toList, Str.ofString_eq_toList] at h
    have h2 : a.toList.map Char.toNat = b.toList.map Char.toNat := by simpa using h
    have h3 : a.toList = b.toList := List.map_inj_right (fun x y e => Char.toNat_inj.mp e) |>.mp h2
    exact String.toList_inj.mp h3
  · intro h; rw [h]

/-! ### == of data without truth values and dicts -/
mutual
def D.nb : D → Bool
  | .tup ds => D.nbs ds
  | .lst ds => D.nbs ds
  | .non => true
  | .int _ => true
  | .str _ => true
  | .bl _ => false
  | .dic _ _ => false
  | .hdl _ => false
  | .scr _ => false
def D.nbs : List D → Bool
  | [] => true
  | d :: ds => D.nb d && D.nbs ds
end
mutual
theorem D.nb_pok : ∀ {d : D}, d.nb = true → d.pok = true
  | .tup ds, h => by simp only [D.nb] at h; simp only [D.pok]; exact D.nbs_poks h
  | .lst ds, h => by simp only [D.nb] at h; simp only [D.pok]; exact D.nbs_poks h
  | .non, _ => by simp only [D.pok]
  | .int _, _ => by simp only [D.pok]
  | .str _, _ => by simp only [D.pok]
  | .bl _, h => by simp [D.nb] at h
  | .dic _ _, h => by simp [D.nb] at h
  | .hdl _, h => by simp [D.nb] at h
  | .scr _, h => by simp [D.nb] at h
theorem D.nbs_poks : ∀ {ds : List D}, D.nbs ds = true → D.poks ds = true
  | [], _ => by simp only [D.poks]
  | d :: ds, h => by
    simp only [D.nbs, Bool.and_eq_true] at h
    simp only [D.poks, D.nb_pok h.1, D.nbs_poks h.2, Bool.and_self]
end
mutual
theorem D.eqv_nb : ∀ {d e : D}, d.nb = true → e.nb = true → PyData.eqv d.py e.py = decide (d = e)
  | .tup ds, .tup es, h, k => by
    simp only [D.nb] at h k
    simp only [D.py, PyData.eqv, D.tup.injEq]
    exact D.eqvAll_nb h k
  | .lst ds, .lst es, h, k => by
    simp only [D.nb] at h k
    simp only [D.py, PyData.eqv, D.lst.injEq]
    exact D.eqvAll_nb h k
  | .int i, .int j, _, _ => by simp only [D.py, PyData.eqv, D.int.injEq]; by_cases h : i = j <;> simp [h]
  | .str i, .str j, _, _ => by simp only [D.py, PyData.eqv, D.str.injEq]; by_cases h : i = j <;> simp [h]
  | .non, .non, _, _ => by simp only [D.py, PyData.eqv, decide_true]
  | .non, .int _, _, _ => by simp [D.py, PyData.eqv]
  | .non, .str _, _, _ => by simp [D.py, PyData.eqv]
  | .non, .tup _, _, _ => by simp [D.py, PyData.eqv]
  | .non, .lst _, _, _ => by simp [D.py, PyData.eqv]
  | .int _, .non, _, _ => by simp [D.py, PyData.eqv]
  | .int _, .str _, _, _ => by simp [D.py, PyData.eqv]
  | .int _, .tup _, _, _ => by simp [D.py, PyData.eqv]
  | .int _, .lst _, _, _ => by simp [D.py, PyData.eqv]
  | .str _, .non, _, _ => by simp [D.py, PyData.eqv]
  | .str _, .int _, _, _ => by simp [D.py, PyData.eqv]
  | .str _, .tup _, _, _ => by simp [D.py, PyData.eqv]
  | .str _, .lst _, _, _ => by simp [D.py, PyData.eqv]
  | .tup _, .non, _, _ => by simp [D.py, PyData.eqv]
  | .tup _, .int _, _, _ => by simp [D.py, PyData.eqv]
  | .tup _, .str _, _, _ => by simp [D.py, PyData.eqv]
  | .tup _, .lst _, _, _ => by simp [D.py, PyData.eqv]
  | .lst _, .non, _, _ => by simp [D.py, PyData.eqv]
  | .lst _, .int _, _, _ => by simp [D.py, PyData.eqv]
  | .lst _, .str _, _, _ => by simp [D.py, PyData.eqv]
  | .lst _, .tup _, _, _ => by simp [D.py, PyData.eqv]
  | .bl _, _, h, _ => by simp [D.nb] at h
  | .dic _ _, _, h, _ => by simp [D.nb] at h
  | .hdl _, _, h, _ => by simp [D.nb] at h
  | .scr _, _, h, _ => by simp [D.nb] at h
  | _, .bl _, _, h => by simp [D.nb] at h
  | _, .dic _ _, _, h => by simp [D.nb] at h
  | _, .hdl _, _, h => by simp [D.nb] at h
  | _, .scr _, _, h => by simp [D.nb] at h
theorem D.eqvAll_nb : ∀ {ds es : List D}, D.nbs ds = true → D.nbs es = true → PyData.eqvAll (D.pys ds) (D.pys es) = decide (ds = es)
  | [], [], _, _ => by simp only [D.pys, PyData.eqvAll, decide_true]
  | [], _ :: _, _, _ => by simp [D.pys, PyData.eqvAll]
  | _ :: _, [], _, _ => by simp [D.pys, PyData.eqvAll]
  | d :: ds, e :: es, h, k => by
    simp only [D.nbs, Bool.and_eq_true] at h k
    simp only [D.pys, PyData.eqvAll, D.eqv_nb h.1 k.1, D.eqvAll_nb h.2 k.2, List.cons.injEq]
    rw [← Bool.decide_and]
end
theorem eqD_nb {d e : D} (h : d.nb = true) (k : e.nb = true) (l : d.dep ≤ 150 ∨ e.dep ≤ 150) : eqD d e = some (decide (d = e)) := by
  unfold eqD
  rw [if_pos, D.eqv_nb h k]
  simp only [D.nb_pok h, D.nb_pok k, Bool.and_self, Bool.true_and, decide_eq_true_eq]
  omega
theorem D.nbs_all {ds : List D} : D.nbs ds = true ↔ ∀ d ∈ ds, d.nb = true := by
  induction ds with
  | nil => simp [D.nbs]
  | cons d ds ih => simp [D.nbs, ih]
theorem D.deps_le {ds : List D} {n : Nat} : D.deps ds ≤ n ↔ ∀ d ∈ ds, d.dep ≤ n := by
  induction ds with
  | nil => simp [D.deps]
  | cons d ds ih => simp [D.deps, ih, Nat.max_le]
theorem memD_nb {d : D} {ds : List D} (h : d.nb = true) (k : D.nbs ds = true) (l : d.dep ≤ 150 ∨ D.deps ds ≤ 150) : memD d ds = some (decide (d ∈ ds)) := by
  unfold memD
  rw [if_pos]
  · congr 1
    induction ds with
    | nil => simp
    | cons e es ih =>
      simp only [D.nbs, Bool.and_eq_true] at k
      have l' : d.dep ≤ 150 ∨ D.deps es ≤ 150 := by
        rcases l with l | l
        · exact .inl l
        · simp only [D.deps] at l; exact .inr (by omega)
      rw [List.any_cons, ih k.2 l', D.eqv_nb k.1 h]
      by_cases q : e = d
      · simp [q]
      · have q2 : ¬ d = e := fun z => q z.symm
        simp [q, q2]
  · simp only [D.nb_pok h, D.nbs_poks k, Bool.and_self, Bool.true_and, decide_eq_true_eq]
    omega

/-! ### names and trees: terms, patterns, bodies, values -/
inductive Tm where
  | nm (x : Str) | ap (w : Str) (ts : List Tm)
mutual
def Tm.d : Tm → D
  | .nm x => .str x
  | .ap w ts => .tup (.str w :: Tm.ds ts)
def Tm.ds : List Tm → List D
  | [] => []
  | t :: ts => t.d :: Tm.ds ts
end
mutual
def Tm.dep : Tm → Nat
  | .nm x => 0
  | .ap w ts => Tm.deps ts + 1
def Tm.deps : List Tm → Nat
  | [] => 0
  | t :: ts => max t.dep (Tm.deps ts)
end
theorem Tm.ds_map : ∀ ts : List Tm, Tm.ds ts = ts.map Tm.d
  | [] => rfl
  | t :: ts => by simp only [Tm.ds, List.map_cons, Tm.ds_map ts]
theorem Tm.d_nm (x : Str) : (Tm.nm x).d = .str x := by simp only [Tm.d]
theorem Tm.d_ap (w : Str) (ts : List Tm) : (Tm.ap w ts).d = .tup (.str w :: ts.map Tm.d) := by simp only [Tm.d, Tm.ds_map]
theorem Tm.deps_le {ts : List Tm} {n : Nat} : Tm.deps ts ≤ n ↔ ∀ t ∈ ts, t.dep ≤ n := by
  induction ts with
  | nil => simp [Tm.deps]
  | cons d ds ih => simp [Tm.deps, ih, Nat.max_le]
theorem Tm.dep_nm (x : Str) : (Tm.nm x).dep = 0 := by simp only [Tm.dep]
theorem Tm.dep_ap {w : Str} {ts : List Tm} {n : Nat} : (Tm.ap w ts).dep ≤ n + 1 ↔ ∀ t ∈ ts, t.dep ≤ n := by
  simp only [Tm.dep, Nat.add_le_add_iff_right, Tm.deps_le]
theorem Tm.dep_mem {w : Str} {ts : List Tm} {t : Tm} (h : t ∈ ts) : t.dep < (Tm.ap w ts).dep := by
  simp only [Tm.dep]
  exact Nat.lt_succ_of_le (Tm.deps_le.mp (Nat.le_refl _) t h)
theorem Tm.ind {P : Tm → Prop} (nm : ∀ x, P (.nm x)) (ap : ∀ w ts, (∀ t ∈ ts, P t) → P (.ap w ts)) (t : Tm) : P t := by
  suffices h : ∀ n (t : Tm), t.dep ≤ n → P t from h t.dep t (Nat.le_refl _)
  intro n
  induction n with
  | zero =>
    intro t ht
    cases t with
    | nm x => exact nm x
    | ap w ts => simp [Tm.dep] at ht
  | succ n ih =>
    intro t ht
    cases t with
    | nm x => exact nm x
    | ap w ts => exact ap w ts fun t h => ih t (Tm.dep_ap.mp ht t h)
theorem Tm.nb (t : Tm) : t.d.nb = true := by
  induction t using Tm.ind with
  | nm x => simp only [Tm.d, D.nb]
  | ap w ts ih =>
    simp only [Tm.d_ap, D.nb, D.nbs, Bool.true_and]
    exact D.nbs_all.mpr fun d h => by
      obtain ⟨t, ht, rfl⟩ := List.mem_map.mp h
      exact ih t ht
theorem Tm.nbs (ts : List Tm) : D.nbs (ts.map Tm.d) = true := D.nbs_all.mpr fun d h => by
  obtain ⟨t, ht, rfl⟩ := List.mem_map.mp h
  exact t.nb
theorem Tm.d_dep (t : Tm) : t.d.dep = t.dep := by
  induction t using Tm.ind with
  | nm x => simp only [Tm.d, D.dep, Tm.dep]
  | ap w ts ih =>
    simp only [Tm.d_ap, D.dep, D.deps, Tm.dep]
    have : D.deps (ts.map Tm.d) = Tm.deps ts := by
      clear w
      induction ts with
      | nil => simp [D.deps, Tm.deps]
      | cons t ts ih2 =>
        simp only [List.map_cons, D.deps, Tm.deps]
        rw [ih t List.mem_cons_self, ih2 fun u hu => ih u (List.mem_cons_of_mem _ hu)]
    rw [this]; omega
theorem Tm.d_inj {t u : Tm} : t.d = u.d ↔ t = u := by
  constructor
  · induction t using Tm.ind generalizing u with
    | nm x => cases u <;> simp [Tm.d]
    | ap w ts ih =>
      cases u with
      | nm y => simp [Tm.d]
      | ap v us =>
        simp only [Tm.d_ap, D.tup.injEq, List.cons.injEq, D.str.injEq, Tm.ap.injEq]
        rintro ⟨rfl, h⟩
        refine ⟨rfl, ?_⟩
        induction ts generalizing us with
        | nil => cases us with
          | nil => rfl
          | cons _ _ => simp at h
        | cons t ts ih2 => cases us with
          | nil => simp at h
          | cons u us =>
            simp only [List.map_cons, List.cons.injEq] at h
            rw [ih t List.mem_cons_self h.1, ih2 (fun z hz => ih z (List.mem_cons_of_mem _ hz)) us h.2]
  · intro h; rw [h]
theorem eqD_tm {t u : Tm} (l : t.dep ≤ 150 ∨ u.dep ≤ 150) : eqD t.d u.d = some (decide (t = u)) := by
  rw [eqD_nb t.nb u.nb (by rw [t.d_dep, u.d_dep]; exact l)]
  simp only [Tm.d_inj]
theorem eqD_str (x y : Str) : eqD (.str x) (.str y) = some (decide (x = y)) := by
  rw [eqD_nb (by simp only [D.nb]) (by simp only [D.nb]) (by simp [D.dep])]
  simp only [D.str.injEq]
theorem eqD_int (x y : Int) : eqD (.int x) (.int y) = some (decide (x = y)) := by
  rw [eqD_nb (by simp only [D.nb]) (by simp only [D.nb]) (by simp [D.dep])]
  simp only [D.int.injEq]

theorem deref_tm (st : Sto) (t : Tm) : deref st t.d = t.d := by cases t <;> simp only [Tm.d] <;> rfl
theorem nhD_tm (t : Tm) : nhD t.d = some t.d := by cases t <;> simp only [Tm.d] <;> rfl
theorem isNon_tm (t : Tm) : isNon t.d = false := by cases t <;> simp only [Tm.d] <;> rfl
/-! ### assignments -/
abbrev Asg := List (Str × Tm)
def Asg.get (a : Asg) (x : Str) : Option Tm := (a.find? fun p => decide (p.1 = x)).map (·.2)
def Asg.set (a : Asg) (x : Str) (t : Tm) : Asg := if (a.any fun p => decide (p.1 = x)) then a.map fun p => if p.1 = x then (p.1, t) else p else a ++ [(x, t)]
def Asg.kv (a : Asg) : List (Key × D) := a.map fun p => (.inr p.1, p.2.d)
def Asg.d (a : Asg) : D := .dic (a.kv.map (·.1)) (a.kv.map (·.2))
theorem look_kv (kvs : List (Key × D)) (k : Key) : look (kvs.map (·.1)) (kvs.map (·.2)) k = (kvs.find? fun p => decide (p.1 = k)).map (·.2) := by
  unfold look
  rw [show (kvs.map (·.1)).zip (kvs.map (·.2)) = kvs by
    induction kvs with
    | nil => rfl
    | cons p kvs ih => simp only [List.map_cons, List.zip_cons_cons, ih]]
theorem Asg.look (a : Asg) (x : Str) : look (a.kv.map (·.1)) (a.kv.map (·.2)) (.inr x) = (a.get x).map Tm.d := by
  rw [look_kv]
  unfold Asg.kv Asg.get
  induction a with
  | nil => rfl
  | cons p a ih =>
    simp only [List.map_cons, List.find?_cons, Sum.inr.injEq]
    by_cases h : p.1 = x
    · simp [h]
    · simp only [h, decide_false]; exact ih
theorem Asg.any_kv (a : Asg) (x : Str) : (a.kv.any fun p => decide (p.1 = .inr x)) = (a.any fun p => decide (p.1 = x)) := by
  unfold Asg.kv
  induction a with
  | nil => rfl
  | cons p a ih => simp only [List.map_cons, List.any_cons, ih, Sum.inr.injEq]
theorem Asg.putD (a : Asg) (x : Str) (t : Tm) : putD a.kv (.inr x) t.d = (a.set x t).kv := by
  unfold Px.putD Asg.set
  rw [Asg.any_kv]
  split
  · unfold Asg.kv
    simp only [List.map_map]
    apply List.map_congr_left
    intro p _
    simp only [Function.comp, Sum.inr.injEq]
    split <;> rfl
  · unfold Asg.kv; simp
theorem Asg.any_get (a : Asg) (x : Str) : (a.any fun p => decide (p.1 = x)) = (a.get x).isSome := by
  unfold Asg.get
  induction a with
  | nil => rfl
  | cons p a ih =>
    simp only [List.any_cons, List.find?_cons]
    by_cases h : p.1 = x
    · simp [h]
    · simp only [h, decide_false, Bool.false_or]; exact ih
theorem Asg.get_set (a : Asg) (x y : Str) (t : Tm) : (a.set x t).get y = if x = y then some t else a.get y := by
  unfold Asg.set
  rw [Asg.any_get]
  split
  · rename_i h
    unfold Asg.get at h ⊢
    induction a with
    | nil => simp at h
    | cons p a ih =>
      simp only [List.find?_cons, List.map_cons] at h ⊢
      by_cases hp : p.1 = x
      · simp only [hp, if_true]
        by_cases hy : x = y
        · simp [hy]
        · simp only [hy, decide_false, if_false]
          clear ih h
          induction a with
          | nil => rfl
          | cons q a ih2 =>
            simp only [List.map_cons, List.find?_cons]
            by_cases hq : q.1 = x
            · simp only [hq, if_true, hy, decide_false]; exact ih2
            · simp only [hq, if_false]
              by_cases hqy : q.1 = y
              · simp [hqy]
              · simp only [hqy, decide_false]; exact ih2
      · simp only [hp, decide_false, if_false] at h ⊢
        by_cases hpy : p.1 = y
        · have : ¬ x = y := fun z => hp (by rw [hpy, z])
          simp [hpy, this]
        · simp only [hpy, decide_false]; exact ih h
  · rename_i h
    have hn : a.get x = none := by simpa using h
    unfold Asg.get at hn ⊢
    rw [List.find?_append]
    by_cases hy : x = y
    · subst hy
      have : a.find? (fun p => decide (p.1 = x)) = none := by simpa using hn
      simp [this]
    · simp [hy]
theorem Asg.length_set (a : Asg) (x : Str) (t : Tm) : (a.set x t).length ≤ a.length + 1 := by
  unfold Asg.set
  split
  · simp
  · simp
theorem Asg.length_kv (a : Asg) : a.kv.length = a.length := by simp [Asg.kv]
end Px
local macro_rules
  | `(tactic| simp! [$xs,*] $[$l:location]?) => `(tactic| try simp -dsimp only [↓Px.WE_var, ↓Px.WE_int, ↓Px.WE_str, ↓Px.WE_non, ↓Px.WE_bl, ↓Px.WE_bin, ↓Px.WE_cmp, ↓Px.WE_chn, ↓Px.WE_and, ↓Px.WE_or, ↓Px.WE_one, ↓Px.WE_not, ↓Px.WE_ifx, ↓Px.WE_tup, ↓Px.WE_idx, ↓Px.WE_slT, ↓Px.WE_call, ↓Px.WE_len, ↓Px.WE_isI, ↓Px.WE_toInt, ↓Px.WE_toStr, ↓Px.WE_abs, ↓Px.WE_max2, ↓Px.WE_tupOf, ↓Px.WE_allL, ↓Px.WE_get2, ↓Px.WE_ofL, ↓Px.WE_ofD, ↓Px.WE_pop, ↓Px.WE_popAt, ↓Px.WE_hpop, ↓Px.WE_newH, ↓Px.WE_newHD, ↓Px.WEs_nil, ↓Px.WEs_cons, ↓Px.WP_e, ↓Px.WP_s, ↓Px.WP_l, ↓Px.WP_d, ↓Px.WT_val, ↓Px.WT_tru, ↓Px.WT_cmp, ↓Px.WT_chn, ↓Px.WT_and, ↓Px.WT_or, ↓Px.WT_one, ↓Px.WT_not, ↓Px.WL_disp, ↓Px.WL_ofP, ↓Px.WL_zip, ↓Px.WL_cat, ↓Px.WL_sl, ↓Px.WO_no, ↓Px.WO_e, ↓Px.WC_no, ↓Px.WC_t, ↓Px.WI_p, ↓Px.WI_own, ↓Px.WI_rng1, ↓Px.WI_enum, ↓Px.WI_items, ↓Px.WI_zip, ↓Px.WD_nil, ↓Px.WB_nil, ↓Px.WB_cons, ↓Px.WS_asg, ↓Px.WS_par, ↓Px.WS_asgL, ↓Px.WS_asgD, ↓Px.WS_drop, ↓Px.WS_app, ↓Px.WS_ext, ↓Px.WS_setL, ↓Px.WS_put, ↓Px.WS_hset, ↓Px.WS_if, ↓Px.WS_ret, ↓Px.WS_retN, ↓Px.WS_pass, ↓Px.WS_brk, ↓Px.WS_cont, ↓Px.seqQ_nx, ↓Px.seqQ_rt, ↓Px.seqQ_bk, ↓Px.seqQ_ct, ↓Px.forQ_nx, ↓Px.forQ_ct, ↓Px.forQ_bk, ↓Px.forQ_rt, ↓Px.endQ_rt, ↓Px.endQ_nx, Px.slE, Px.hasV, Px.isOL, Px.isOw, Px.appS, Px.extS, Px.setLS, Px.putS, Px.ownIt, Px.WPop, Px.Opt_some, Px.Opt_none, Px.WIf_t, Px.WIf_f, Px.WIf_not, Px.WBn_bl, Px.WBl_bl, Px.deref_tup, Px.deref_lst, Px.deref_dic, Px.deref_int, Px.deref_str, Px.deref_bl, Px.deref_non, Px.deref_scr, Px.deref_tm, Px.rdS_val, Px.rdS_own, Px.rdP_d, Px.rdP_s, Px.rdP_l, Px.rdP_k, Px.nhD_tup, Px.nhD_lst, Px.nhD_dic, Px.nhD_str, Px.nhD_scr, Px.nhD_tm, Px.stS_val, Px.stP_d, Px.stP_s, Px.stP_l, Px.frz_lst, Px.frz_dic, Px.idxD_tup, Px.idxD_lst, Px.idxD_dicS, Px.lenD_tup, Px.lenD_lst, Px.lenD_dic, Px.lenD_str, Px.tru_lst, Px.tru_tup, Px.tru_bl, Px.tru_non, Px.isIn_str, Px.isIn_tup, Px.isIn_int, Px.isIn_non, Px.isIn_tup_t, Px.isIn_str_t, Px.isIn_bl_b, Px.cop_eq, Px.cop_ne, Px.cop_is, Px.cop_isn, Px.cop_in, Px.cop_nin, Px.cop_lt, Px.cop_le, Px.cop_gt, Px.cop_ge, Px.isNon_non, Px.isNon_tup, Px.isNon_dic, Px.isNon_str, Px.isNon_int, Px.isNon_lst, Px.isNon_tm, Px.inD_lst, Px.inD_tup, Px.inD_dic, Px.keyD_str, Px.keyD_int, Px.bop_add, Px.bop_sub, Px.bop_addS, Px.bop_addT, Px.get2D_dic, Px.isDi_eq, Px.isDiO_dic, Px.itemsPD_some, Px.itemsD_tup, Px.itemsD_lst, Px.itemsD_scr, Px.itemsD_dic, Px.asgTg_v, Px.asgTg_tup, Px.asgTgs_nil, Px.asgTgs_cons, Px.thenTgs_some, Px.tgsOf_nil, Px.tgsOf_cons, Px.unhid_p, Px.unhid_r1, Px.unhid_r2, Px.unhid_en, Px.unhid_zip, Px.unhid_it, Px.backS_val, Px.backS_own, Px.backS_no, Px.backR_nil, Px.backR_cons, Px.wipeR_nil, Px.wipeR_cons, Px.cutO_tup, Px.cutL_lst, Px.tupOfD_tup, Px.tupOfD_lst, Px.zipLD_lst, Px.zipLD_tup, Px.catD_lst, Px.ofPD_tup, Px.ofPD_lst, Px.enumPD_tup, Px.itmPD_dic, Px.intO_int, Px.toIntD_int, Px.toIntD_bl, Px.toStrD_int, Px.absD_int, Px.max2D_int, Px.rng1D_int, Px.rng2D_int, Px.allD_lst, Px.eqD_str, Px.eqD_int, Px.Tm.d_ap, Px.Tm.d_nm, Px.Asg.d, Px.Asg.look, decide_true, decide_false, List.getElem?_cons_zero, List.getElem?_cons_succ, List.set_cons_zero, List.set_cons_succ, List.length_cons, List.length_nil, List.map_cons, List.map_nil, List.append_nil, List.nil_append, List.cons_append, List.replicate_zero, List.replicate_succ, List.reverse_cons, List.reverse_nil, Nat.reduceAdd, Nat.reduceSub, Nat.reduceLT, Nat.reduceLeDiff, true_and, and_true, Bool.not_true, Bool.not_false, if_true, if_false, List.isEmpty_nil, List.isEmpty_cons, List.getElem?_nil, Px.atI_0, Px.atI_1, Px.atI_2, Px.atI_3, Px.atI_4, Px.atI_5, Px.cutD_tail, Option.map_some, Option.map_none, reduceIte, reduceCtorEq, and_self, $xs,*] $[$l:location]?)
/-! A1: putting and fitting. -/
namespace Px
open PySem L2 Classical
mutual
def Tm.put (a : Str → Option Tm) : Tm → Tm
  | .nm x => (a x).getD (.nm x)
  | .ap w ts => .ap w (Tm.puts a ts)
def Tm.puts (a : Str → Option Tm) : List Tm → List Tm
  | [] => []
  | t :: ts => t.put a :: Tm.puts a ts
end
theorem Tm.puts_map (a : Str → Option Tm) : ∀ ts : List Tm, Tm.puts a ts = ts.map (Tm.put a)
  | [] => rfl
  | t :: ts => by simp only [Tm.puts, List.map_cons, Tm.puts_map a ts]
theorem Tm.put_nm (a : Str → Option Tm) (x : Str) : (Tm.nm x).put a = (a x).getD (.nm x) := by simp only [Tm.put]
theorem Tm.put_ap (a : Str → Option Tm) (w : Str) (ts : List Tm) : (Tm.ap w ts).put a = .ap w (ts.map (Tm.put a)) := by simp only [Tm.put, Tm.puts_map]
/-- each maker has as many parts as it may have -/
inductive Tm.W (ok : Str → Nat → Prop) : Tm → Prop
  | nm (x : Str) : Tm.W ok (.nm x)
  | ap {w : Str} {ts : List Tm} (h : ok w ts.length) (k : ∀ t ∈ ts, Tm.W ok t) : Tm.W ok (.ap w ts)
/-- the names of a term -/
inductive Tm.Has (x : Str) : Tm → Prop
  | nm : Tm.Has x (.nm x)
  | ap {w : Str} {ts : List Tm} {t : Tm} (h : t ∈ ts) (k : Tm.Has x t) : Tm.Has x (.ap w ts)
theorem Tm.W.put {ok : Str → Nat → Prop} {a : Str → Option Tm} (ha : ∀ x u, a x = some u → u.W ok) {t : Tm} (h : t.W ok) : (t.put a).W ok := by
  induction t using Tm.ind with
  | nm x =>
    rw [Tm.put_nm]
    cases e : a x with
    | none => exact .nm x
    | some u => exact ha x u e
  | ap w ts ih =>
    rw [Tm.put_ap]
    cases h with
    | ap h k =>
      refine .ap (by rw [List.length_map]; exact h) fun t ht => ?_
      obtain ⟨u, hu, rfl⟩ := List.mem_map.mp ht
      exact ih u hu (k u hu)
theorem Tm.put_dep {a : Str → Option Tm} {m : Nat} (ha : ∀ x u, a x = some u → u.dep ≤ m) (t : Tm) : (t.put a).dep ≤ t.dep + m := by
  induction t using Tm.ind with
  | nm x =>
    rw [Tm.put_nm]
    cases e : a x with
    | none => simp [Tm.dep]
    | some u => have := ha x u e; simp only [Option.getD_some, Tm.dep]; omega
  | ap w ts ih =>
    rw [Tm.put_ap]
    have : (Tm.ap w ts).dep + m = (Tm.deps ts + m) + 1 := by simp only [Tm.dep]; omega
    rw [this]
    refine Tm.dep_ap.mpr fun t ht => ?_
    obtain ⟨u, hu, rfl⟩ := List.mem_map.mp ht
    have := ih u hu
    have := Tm.deps_le.mp (Nat.le_refl (Tm.deps ts)) u hu
    omega
/-- no names -/
def Tm.Tree (t : Tm) : Prop := ∀ x, ¬ t.Has x

section
variable {tbl : Str → Option DefM}
theorem put_ok (hm : tbl "put_indices" = some m_put) {ok : Str → Nat → Prop} (hok : ∀ w n, ok w n → n ≤ 1000) : ∀ (n : Nat) (t : Tm) (a : Asg) (st : Sto), t.dep < n → t.W ok → runF tbl n "put_indices" [t.d, a.d] st = some ((t.put a.get).d, st)
  | 0, t, a, st, h, _ => by omega
  | n + 1, t, a, st, h, hw => by
    refine WCall_val (WCall_run hm rfl ?_)
    simp only [m_put]
    cases t with
    | nm x =>
      simp only [Tm.d_nm, Asg.d]
      simp! [Asg.look, Tm.put_nm]
      cases a.get x <;> simp [Tm.d]
    | ap w ts =>
      cases hw with
      | ap hl hw =>
      have hl := hok _ _ hl
      simp only [Tm.d_ap, Asg.d]
      simp! [atI_0, Tm.put_ap]
      refine WL_comp _ _ _ _ _ _ _ _ ?_
      simp! [cutD_tail]
      refine ⟨by simp [sizeLine]; omega, LTurns_map (g := fun t : Tm => (t.put a.get).d) _ (fun t ht K k => ?_) ?_⟩
      · unfold LTurn
        simp! []
        refine WCall_of _ (put_ok hm hok n t a st (by have := Tm.dep_mem (w := w) ht; omega) (hw t ht)) ?_
        simp! []
        exact k
      · simp! []
        rw [if_pos (by simp [sizeLine]; omega)]
        simp! []
        simp [Tm.put_ap, Tm.d_ap]
end

/-! ### fitting -/
mutual
noncomputable def fitT : Tm → Tm → Asg → Option Asg
  | .nm x, t, a => match a.get x with
    | some u => if u = t then some (a.set x t) else none
    | none => some (a.set x t)
  | .ap _ _, .nm _, _ => none
  | .ap w ps, .ap v ts, a => if w = v then fitL ps ts a else none
noncomputable def fitL : List Tm → List Tm → Asg → Option Asg
  | p :: ps, t :: ts, a => (fitL ps ts a).bind (fitT p t)
  | [], _, a => some a
  | _, [], a => some a
end
noncomputable def fitStk : List (Tm × Tm) → Asg → Option Asg
  | [], a => some a
  | (p, t) :: s, a => (fitT p t a).bind (fitStk s)
theorem fitStk_zip (s : List (Tm × Tm)) : ∀ (ps ts : List Tm) (a : Asg), fitStk ((ps.zip ts).reverse ++ s) a = (fitL ps ts a).bind (fitStk s)
  | [], _, a => by simp [fitL]
  | _ :: _, [], a => by simp [fitL]
  | p :: ps, t :: ts, a => by
    simp only [List.zip_cons_cons, List.reverse_cons, List.append_assoc, List.cons_append, List.nil_append]
    rw [fitStk_zip _ ps ts a]
    simp only [fitL, Option.bind_assoc]
    rfl
mutual
def Tm.sz : Tm → Nat
  | .nm x => 1
  | .ap w ts => Tm.szs ts + 1
def Tm.szs : List Tm → Nat
  | [] => 0
  | t :: ts => t.sz + Tm.szs ts
end
theorem Tm.sz_pos (t : Tm) : 0 < t.sz := by cases t <;> simp [Tm.sz]
def stkSz : List (Tm × Tm) → Nat
  | [] => 0
  | (p, _) :: s => p.sz + stkSz s
theorem stkSz_append (s r : List (Tm × Tm)) : stkSz (s ++ r) = stkSz s + stkSz r := by
  induction s with
  | nil => simp [stkSz]
  | cons p s ih => simp only [List.cons_append, stkSz, ih]; omega
theorem stkSz_reverse (s : List (Tm × Tm)) : stkSz s.reverse = stkSz s := by
  induction s with
  | nil => rfl
  | cons p s ih => rw [List.reverse_cons, stkSz_append, ih]; simp only [stkSz]; omega
theorem stkSz_zip : ∀ (ps ts : List Tm), stkSz (ps.zip ts) ≤ Tm.szs ps
  | [], _ => by simp [stkSz]
  | _ :: _, [] => by simp [stkSz]
  | p :: ps, t :: ts => by
    have := stkSz_zip ps ts
    simp only [List.zip_cons_cons, stkSz, Tm.szs]
    omega
theorem stk_len (s : List (Tm × Tm)) : s.length ≤ stkSz s := by
  induction s with
  | nil => simp
  | cons p s ih => have := p.1.sz_pos; simp only [List.length_cons, stkSz]; omega
def prT (p : Tm × Tm) : D := .tup [p.1.d, p.2.d]
theorem zipD_map : ∀ (ps ts : List Tm), zipD (ps.map Tm.d) (ts.map Tm.d) = (ps.zip ts).map prT
  | [], _ => by simp [zipD]
  | _ :: _, [] => by simp [zipD]
  | p :: ps, t :: ts => by simp only [List.map_cons, zipD, List.zip_cons_cons, zipD_map ps ts]; rfl
/-- the waiting pairs, the last one on top -/
def sk (s : List (Tm × Tm)) : List D := s.reverse.map prT
theorem sk_nil : sk [] = [] := rfl
theorem sk_ne (p : Tm × Tm) (s : List (Tm × Tm)) : (sk (p :: s)).isEmpty = false := by simp [sk]
theorem sk_top (p : Tm × Tm) (s : List (Tm × Tm)) : (sk (p :: s))[(sk (p :: s)).length - 1]? = some (prT p) := by simp [sk]
theorem sk_rest (p : Tm × Tm) (s : List (Tm × Tm)) : (sk (p :: s)).dropLast = sk s := by simp [sk]
theorem sk_app (s r : List (Tm × Tm)) : sk s ++ r.map prT = sk (r.reverse ++ s) := by simp [sk]
theorem sk_len (s : List (Tm × Tm)) : (sk s).length = s.length := by simp [sk]
section
variable {tbl : Str → Option DefM}
theorem fitted_loop {c : CallF} (p0 p1 : D) (st : Sto) (Q : Fl → ES → Prop) : ∀ (m : Nat) (s : List (Tm × Tm)) (a : Asg) (x y : Sl), stkSz s ≤ m → a.length + stkSz s ≤ sizeLine → (∀ p ∈ s, p.2.dep ≤ 150) →
    (fitStk s a = none → ∀ S, S.st = st → Q (.rt .non) S) → (∀ r, fitStk s a = some r → ∀ x y, Q .nx ⟨[.val p0, .val p1, .own (.dic r.kv), .own (.lst []), x, y], st⟩) →
    WS c (.whileS (.tru (.s 3)) l_fitted_1) ⟨[.val p0, .val p1, .own (.dic a.kv), .own (.lst (sk s)), x, y], st⟩ Q := by
  intro m
  induction m with
  | zero =>
    intro s a x y hm hl hd hn hs
    cases s with
    | cons p s => have := p.1.sz_pos; simp only [stkSz] at hm; omega
    | nil =>
      refine WS_while _ _ _ _ _ ?_
      simp! [sk_nil]
      exact hs a rfl x y
  | succ m ih =>
    intro s a x y hm hl hd hn hs
    cases s with
    | nil =>
      refine WS_while _ _ _ _ _ ?_
      simp! [sk_nil]
      exact hs a rfl x y
    | cons p s =>
      obtain ⟨p, u⟩ := p
      refine WS_while _ _ _ _ _ ?_
      simp! [sk_ne, sk_top, sk_rest, prT, l_fitted_1]
      have hu : u.dep ≤ 150 := hd (p, u) List.mem_cons_self
      have hd' : ∀ q ∈ s, q.2.dep ≤ 150 := fun q h => hd q (List.mem_cons_of_mem _ h)
      simp only [stkSz] at hm hl
      cases p with
      | nm z =>
        simp only [Tm.sz] at hm hl
        have e : (Option.map Tm.d (a.get z)).getD u.d = ((a.get z).getD u).d := by cases a.get z <;> rfl
        simp! [Asg.look, Tm.d_nm, e, eqD_tm (.inr hu)]
        have hf : fitT (.nm z) u a = if (a.get z).getD u = u then some (a.set z u) else none := by
          simp only [fitT]
          cases a.get z <;> simp
        refine WIf_dec (fun h => ?_) fun h => ?_
        · simp! [Asg.putD, Asg.length_kv, Tm.d_nm]
          rw [if_pos h] at hf
          refine ⟨by omega, ?_⟩
          refine ih s _ _ _ (by omega) (by have := a.length_set z u; omega) hd' (fun e => hn ?_) (fun r e => hs r ?_)
          · simp only [fitStk, hf, Option.bind_some]; exact e
          · simp only [fitStk, hf, Option.bind_some]; exact e
        · simp! []
          rw [if_neg h] at hf
          exact hn (by simp only [fitStk, hf, Option.bind_none]) _ rfl
      | ap w ps =>
        simp only [Tm.sz] at hm hl
        cases u with
        | nm z =>
          simp! [Tm.d_ap, Tm.d_nm]
          exact hn (by simp only [fitStk, fitT, Option.bind_none]) _ rfl
        | ap v ts =>
          simp! [Tm.d_ap]
          refine WIf_dec (fun h => ?_) fun h => ?_
          · simp! [zipD_map, sk_app]
            have h1 := stkSz_zip ps ts
            have h2 := stkSz_reverse (ps.zip ts)
            have h3 := stk_len s
            have h4 := stk_len (ps.zip ts)
            refine ⟨by rw [sk_len, List.length_map]; omega, ?_⟩
            have hf : fitStk ((Tm.ap w ps, Tm.ap v ts) :: s) a = fitStk ((ps.zip ts).reverse ++ s) a := by
              simp only [fitStk, fitT, if_pos h, fitStk_zip]
            refine ih _ _ _ _ (by rw [stkSz_append]; omega) (by rw [stkSz_append]; omega) (fun q hq => ?_) (fun e => hn (hf.trans e)) (fun r e => hs r (hf.trans e))
            rcases List.mem_append.mp hq with hq | hq
            · have hq2 := (List.of_mem_zip (List.mem_reverse.mp hq)).2
              have := Tm.dep_mem (w := v) hq2
              omega
            · exact hd' q hq
          · simp! []
            exact hn (by simp only [fitStk, fitT, if_neg h, Option.bind_none]) _ rfl
theorem fitStk_all (ps ts : List Tm) : fitStk (ps.zip ts).reverse [] = fitL ps ts [] := by
  have := fitStk_zip [] ps ts []
  rw [List.append_nil] at this
  rw [this]
  cases fitL ps ts [] <;> rfl
theorem sk_zip (ps ts : List Tm) : zipD (ps.map Tm.d) (ts.map Tm.d) = sk (ps.zip ts).reverse := by rw [zipD_map]; simp [sk]
def asgO : Option Asg → D
  | some a => a.d
  | none => .non
theorem fitted_ok (hm : tbl "fitted" = some m_fitted) {n : Nat} (h1n : 1 ≤ n) (ps ts : List Tm) (st : Sto) (hs : Tm.szs ps ≤ sizeLine) (hd : ∀ t ∈ ts, t.dep ≤ 150) :
    runF tbl n "fitted" [.lst (ps.map Tm.d), .lst (ts.map Tm.d)] st = some (asgO (fitL ps ts []), st) := by
  obtain ⟨n, rfl⟩ := Nat.exists_eq_add_of_le' h1n
  refine WCall_val (WCall_run hm rfl ?_)
  simp only [m_fitted]
  simp! [sk_zip]
  have h1 := stkSz_zip ps ts
  refine fitted_loop _ _ st _ _ _ [] _ _ (Nat.le_refl _) (by rw [stkSz_reverse]; simp; omega) (fun p hp => hd _ (List.of_mem_zip (List.mem_reverse.mp hp)).2) (fun e S hS => ?_) (fun r e x y => ?_)
  · rw [fitStk_all] at e
    simp! [e, hS, asgO]
  · rw [fitStk_all] at e
    simp! [e, asgO, Asg.d]
end
end Px
/-! A2: the law's putting and fitting. -/
namespace Px
open PySem L2 Classical
/-- one number of parts for each maker -/
def Fn1 (ok : Str → Nat → Prop) : Prop := (∀ w n m, ok w n → ok w m → n = m) ∧ ∀ w n, ok w n → n ≤ 1000
theorem rngD_eq (lo : Int) (n : Nat) : rngD lo n = (List.range n).map fun i : Nat => D.int (lo + i) := rfl
def elT (ps : List Tm) (i : Nat) : D := ((ps[i]?).map Tm.d).getD .non
theorem elT_get {ps : List Tm} {i : Nat} (h : i < ps.length) : (ps.map Tm.d)[i]? = some (elT ps i) := by
  unfold elT
  rw [List.getElem?_map, List.getElem?_eq_getElem h]
  rfl
theorem range_elT {ps ts : List Tm} (h : ps.length = ts.length) : (List.range ps.length).map (fun i => D.tup [elT ps i, elT ts i]) = (ps.zip ts).map prT := by
  apply List.ext_getElem
  · simp [h]
  · intro i h1 h2
    simp only [List.length_map, List.length_range] at h1
    have h3 : i < ts.length := by omega
    simp [elT, prT, h1, h3]
theorem atI_int_map {ps : List Tm} {k : Nat} (h : k < ps.length) : atI (ps.map Tm.d) (0 + (k : Int)) = some (elT ps k) := by
  rw [Int.zero_add, atI_nat, elT_get h]
theorem atI_int_cons {ps : List Tm} {a : D} {k : Nat} (h : k < ps.length) : atI (a :: ps.map Tm.d) (1 + (k : Int)) = some (elT ps k) := by
  have : (1 + (k : Int)) = ((k + 1 : Nat) : Int) := by omega
  rw [this, atI_nat, List.getElem?_cons_succ, elT_get h]
theorem rng_bound {n : Nat} (h : n ≤ sizeLine) : ((n : Int) < 2 ^ 62 ∧ -(2 ^ 62) ≤ (n : Int)) := by
  unfold sizeLine at h
  constructor <;> omega
section
variable {tbl : Str → Option DefM}
/-- every name of the term is assigned -/
def Cov (t : Tm) (a : Asg) : Prop := ∀ x, t.Has x → (a.get x).isSome = true
theorem lput_ok (hm : tbl "_law_put" = some m__law_put) {ok : Str → Nat → Prop} (hok : ∀ w n, ok w n → n ≤ 1000) : ∀ (n : Nat) (t : Tm) (a : Asg) (st : Sto), t.dep < n → t.W ok → Cov t a → runF tbl n "_law_put" [t.d, a.d] st = some ((t.put a.get).d, st)
  | 0, t, a, st, h, _, _ => by omega
  | n + 1, t, a, st, h, hw, hc => by
    refine WCall_val (WCall_run hm rfl ?_)
    simp only [m__law_put]
    cases t with
    | nm x =>
      simp! [Asg.look, Tm.put_nm]
      have := hc x .nm
      cases e : a.get x with
      | none => rw [e] at this; cases this
      | some u =>
        simp! [Tm.put_nm, e, Option.getD_some]
    | ap w ts =>
      cases hw with
      | ap hl hw =>
      have hl := hok _ _ hl
      simp! [Tm.put_ap]
      refine WL_comp _ _ _ _ _ _ _ _ ?_
      simp! []
      refine ⟨by simp [sizeLine]; omega, LTurns_map (g := fun t : Tm => (t.put a.get).d) _ (fun t ht K k => ?_) ?_⟩
      · unfold LTurn
        simp! []
        refine WCall_of _ (lput_ok hm hok n t a st (by have := Tm.dep_mem (w := w) ht; omega) (hw t ht) fun x hx => hc x (.ap ht hx)) ?_
        simp! []
        exact k
      · simp! []
        rw [if_pos (by simp [sizeLine]; omega)]
        simp! []
        simp [Tm.put_ap, Tm.d_ap]
theorem lfit_loop {c : CallF} {ok : Str → Nat → Prop} (hok : Fn1 ok) (p0 p1 : D) (st : Sto) (Q : Fl → ES → Prop) (z : Sl) : ∀ (m : Nat) (s : List (Tm × Tm)) (a : Asg) (x y : Sl), stkSz s ≤ m → a.length + stkSz s ≤ sizeLine → (∀ p ∈ s, p.2.dep ≤ 150 ∧ p.1.W ok ∧ p.2.W ok ∧ p.2.Tree) →
    (fitStk s a = none → ∀ S, S.st = st → Q (.rt .non) S) → (∀ r, fitStk s a = some r → ∀ x y, Q .nx ⟨[.val p0, .val p1, .own (.dic r.kv), .own (.lst []), .no, x, y], st⟩) →
    WS c (.whileS (.cmp .Gt (.e (.len (.s 3))) (.e (.int 0))) l__law_fit_1) ⟨[.val p0, .val p1, .own (.dic a.kv), .own (.lst (sk s)), .no, x, y], st⟩ Q := by
  intro m
  induction m with
  | zero =>
    intro s a x y hm hl hd hn hs
    cases s with
    | cons p s => have := p.1.sz_pos; simp only [stkSz] at hm; omega
    | nil =>
      refine WS_while _ _ _ _ _ ?_
      simp! [sk_nil]
      refine WIf_neg (by simp) ?_
      exact hs a rfl x y
  | succ m ih =>
    intro s a x y hm hl hd hn hs
    cases s with
    | nil =>
      refine WS_while _ _ _ _ _ ?_
      simp! [sk_nil]
      refine WIf_neg (by simp) ?_
      exact hs a rfl x y
    | cons p s =>
      obtain ⟨p, u⟩ := p
      refine WS_while _ _ _ _ _ ?_
      simp! [sk_len]
      refine WIf_pos (by simp) ?_
      simp! [sk_ne, sk_top, sk_rest, prT, l__law_fit_1]
      obtain ⟨hu, hw1, hw2, htr⟩ := hd (p, u) List.mem_cons_self
      have hd' : ∀ q ∈ s, q.2.dep ≤ 150 ∧ q.1.W ok ∧ q.2.W ok ∧ q.2.Tree := fun q h => hd q (List.mem_cons_of_mem _ h)
      simp only [stkSz] at hm hl
      cases p with
      | nm z =>
        simp only [Tm.sz] at hm hl
        have hany : (a.kv.map (·.1)).any (fun q => decide (q = .inr z)) = (a.get z).isSome := by
          rw [List.any_map]
          exact (Asg.any_kv a z).trans (Asg.any_get a z)
        have hf : fitT (.nm z) u a = if (a.get z).getD u = u then some (a.set z u) else none := by
          simp only [fitT]
          cases a.get z <;> simp
        simp! [Asg.look, hany]
        have fin : WB c (B.cons (S.put 2 (E.var 5) (E.var 6)) B.nil) ⟨[.val p0, .val p1, .own (.dic a.kv), .own (.lst (sk s)), .no, .val (Tm.nm z).d, .val u.d], st⟩ (seqQ c B.nil (forQ (fun S => WS c (.whileS (.cmp .Gt (.e (.len (.s 3))) (.e (.int 0))) l__law_fit_1) S Q) Q)) ∨ fitT (.nm z) u a = none := by
          by_cases h : (a.get z).getD u = u
          · left
            rw [if_pos h] at hf
            simp! [Asg.putD, Asg.length_kv]
            refine ⟨by omega, ?_⟩
            refine ih s _ _ _ (by omega) (by have := a.length_set z u; omega) hd' (fun e => hn ?_) (fun r e => hs r ?_)
            · simp only [fitStk, hf, Option.bind_some]; exact e
            · simp only [fitStk, hf, Option.bind_some]; exact e
          · right
            rw [if_neg h] at hf
            exact hf
        cases e : a.get z with
        | none =>
          simp only [e, Option.getD_none, if_true] at hf
          rcases fin with fin | fin
          · simp! [Option.isSome_none] at fin ⊢
            exact fin
          · rw [hf] at fin; cases fin
        | some v =>
          simp! [Option.isSome_some, e, eqD_tm (.inr hu)]
          simp only [e, Option.getD_some] at hf
          refine WIf_dec (fun h => ?_) fun h => ?_
          · rcases fin with fin | fin
            · simp! [] at fin ⊢
              exact fin
            · rw [hf, if_pos h] at fin; cases fin
          · simp! []
            rw [if_neg h] at hf
            exact hn (by simp only [fitStk, hf, Option.bind_none]) _ rfl
      | ap w ps =>
        simp only [Tm.sz] at hm hl
        cases u with
        | nm z => exact (htr z .nm).elim
        | ap v ts =>
          simp! []
          refine WIf_dec (fun h => ?_) fun h => ?_
          · subst h
            cases hw1 with
            | ap l1 k1 =>
            cases hw2 with
            | ap l2 k2 =>
            have hlen := hok.1 _ _ _ l1 l2
            have hle := hok.2 _ _ l1
            simp! []
            refine WL_comp _ _ _ _ _ _ _ _ ?_
            refine WI_rng2 _ _ _ _ _ ?_
            simp! [List.length_map]
            rw [if_pos (by constructor <;> omega)]
            simp! [rngD_eq]
            have e1 : ((ps.length + 1 : Nat) : Int) - 1 = (ps.length : Int) := by omega
            refine ⟨by simp [sizeLine]; omega, LTurns_map (g := fun i : Nat => D.tup [elT ps i, elT ts i]) _ (fun i hi K k => ?_) ?_⟩
            · have hi := List.mem_range.mp hi
              unfold LTurn
              simp! []
              have hi1 : i < ps.length := by omega
              simp! [atI_int_cons hi1, atI_int_cons (show i < ts.length by omega)]
              exact k
            · rw [e1, Int.toNat_natCast, range_elT hlen]
              simp! [sk_app]
              have h1 := stkSz_zip ps ts
              have h2 := stkSz_reverse (ps.zip ts)
              have h3 := stk_len s
              have h4 := stk_len (ps.zip ts)
              rw [if_pos (by rw [sk_len, List.length_map]; omega)]
              simp! []
              have hf : fitStk ((Tm.ap w ps, Tm.ap w ts) :: s) a = fitStk ((ps.zip ts).reverse ++ s) a := by
                simp only [fitStk, fitT, if_true, fitStk_zip]
              refine ih _ _ _ _ (by rw [stkSz_append]; omega) (by rw [stkSz_append]; omega) (fun q hq => ?_) (fun e => hn (hf.trans e)) (fun r e => hs r (hf.trans e))
              rcases List.mem_append.mp hq with hq | hq
              · have hq2 := List.of_mem_zip (List.mem_reverse.mp hq)
                have := Tm.dep_mem (w := w) hq2.2
                simp only at hu htr
                exact ⟨by omega, k1 _ hq2.1, k2 _ hq2.2, fun x hx => htr x (.ap hq2.2 hx)⟩
              · exact hd' q hq
          · simp! []
            exact hn (by simp only [fitStk, fitT, if_neg h, Option.bind_none]) _ rfl
theorem lfit_ok (hm : tbl "_law_fit" = some m__law_fit) {ok : Str → Nat → Prop} (hok : Fn1 ok) {n : Nat} (h1n : 1 ≤ n) (ps ts : List Tm) (st : Sto) (hl : ps.length = ts.length) (hs : Tm.szs ps ≤ sizeLine) (hp : ∀ p ∈ ps, p.W ok) (hd : ∀ t ∈ ts, t.dep ≤ 150 ∧ t.W ok ∧ t.Tree) :
    runF tbl n "_law_fit" [.lst (ps.map Tm.d), .lst (ts.map Tm.d)] st = some (asgO (fitL ps ts []), st) := by
  obtain ⟨n, rfl⟩ := Nat.exists_eq_add_of_le' h1n
  refine WCall_val (WCall_run hm rfl ?_)
  simp only [m__law_fit]
  have hlen : ps.length ≤ sizeLine := by
    have : ∀ l : List Tm, l.length ≤ Tm.szs l := fun l => by
      induction l with
      | nil => simp
      | cons t l ih => have := t.sz_pos; simp only [List.length_cons, Tm.szs]; omega
    have := this ps
    omega
  simp! []
  refine WL_comp _ _ _ _ _ _ _ _ ?_
  simp! [List.length_map]
  rw [if_pos (rng_bound hlen)]
  simp! [rngD_eq, Int.toNat_natCast]
  refine ⟨by simpa using hlen, LTurns_map (g := fun i : Nat => D.tup [elT ps i, elT ts i]) _ (fun i hi K k => ?_) ?_⟩
  · have hi := List.mem_range.mp hi
    unfold LTurn
    simp! [atI_int_map hi, atI_int_map (show i < ts.length by omega)]
    exact k
  rw [range_elT hl]
  have e : (ps.zip ts).map prT = sk (ps.zip ts).reverse := by simp [sk]
  simp! [e]
  have h1 := stkSz_zip ps ts
  refine lfit_loop hok _ _ st _ .no _ _ [] _ _ (Nat.le_refl _) (by rw [stkSz_reverse]; simp; omega) (fun p hp2 => ?_) (fun e S hS => ?_) (fun r e x y => ?_)
  · have := List.of_mem_zip (List.mem_reverse.mp hp2)
    exact ⟨(hd _ this.2).1, hp _ this.1, (hd _ this.2).2⟩
  · rw [fitStk_all] at e
    simp! [e, hS, asgO]
  · rw [fitStk_all] at e
    simp! [e, asgO]
end
end Px
/-! A3: which values patterns take. -/
namespace Px
open PySem L2 Classical
mutual
noncomputable def takT : Tm → Tm → Asg → Option Asg
  | .nm x, t, a => some (a.set x t)
  | .ap _ _, .nm _, _ => none
  | .ap w ps, .ap v ts, a => if w = v then takL ps ts a else none
noncomputable def takL : List Tm → List Tm → Asg → Option Asg
  | p :: ps, t :: ts, a => (takL ps ts a).bind (takT p t)
  | [], _, a => some a
  | _, [], a => some a
end
noncomputable def takStk : List (Tm × Tm) → Asg → Option Asg
  | [], a => some a
  | (p, t) :: s, a => (takT p t a).bind (takStk s)
theorem takStk_zip (s : List (Tm × Tm)) : ∀ (ps ts : List Tm) (a : Asg), takStk ((ps.zip ts).reverse ++ s) a = (takL ps ts a).bind (takStk s)
  | [], _, a => by simp [takL]
  | _ :: _, [], a => by simp [takL]
  | p :: ps, t :: ts, a => by
    simp only [List.zip_cons_cons, List.reverse_cons, List.append_assoc, List.cons_append, List.nil_append]
    rw [takStk_zip _ ps ts a]
    simp only [takL, Option.bind_assoc]
    rfl
theorem takStk_all (ps ts : List Tm) : takStk (ps.zip ts).reverse [] = takL ps ts [] := by
  have := takStk_zip [] ps ts []
  rw [List.append_nil] at this
  rw [this]
  cases takL ps ts [] <;> rfl
section
variable {tbl : Str → Option DefM}
theorem taken_loop {c : CallF} (p0 p1 : D) (st : Sto) (Q : Fl → ES → Prop) : ∀ (m : Nat) (s : List (Tm × Tm)) (a : Asg) (x y : Sl), stkSz s ≤ m → a.length + stkSz s ≤ sizeLine → (∀ p ∈ s, p.2.Tree) →
    (takStk s a = none → ∀ S, S.st = st → Q (.rt .non) S) → (∀ r, takStk s a = some r → ∀ x y, Q .nx ⟨[.val p0, .val p1, .own (.dic r.kv), .own (.lst []), x, y], st⟩) →
    WS c (.whileS (.tru (.s 3)) l_taken_1) ⟨[.val p0, .val p1, .own (.dic a.kv), .own (.lst (sk s)), x, y], st⟩ Q := by
  intro m
  induction m with
  | zero =>
    intro s a x y hm hl hd hn hs
    cases s with
    | cons p s => have := p.1.sz_pos; simp only [stkSz] at hm; omega
    | nil =>
      refine WS_while _ _ _ _ _ ?_
      simp! [sk_nil]
      exact hs a rfl x y
  | succ m ih =>
    intro s a x y hm hl hd hn hs
    cases s with
    | nil =>
      refine WS_while _ _ _ _ _ ?_
      simp! [sk_nil]
      exact hs a rfl x y
    | cons p s =>
      obtain ⟨p, u⟩ := p
      refine WS_while _ _ _ _ _ ?_
      simp! [sk_ne, sk_top, sk_rest, prT, l_taken_1]
      have hu : u.Tree := hd (p, u) List.mem_cons_self
      have hd' : ∀ q ∈ s, q.2.Tree := fun q h => hd q (List.mem_cons_of_mem _ h)
      simp only [stkSz] at hm hl
      cases p with
      | nm z =>
        simp only [Tm.sz] at hm hl
        simp! [Asg.putD, Asg.length_kv]
        refine ⟨by omega, ?_⟩
        simp! []
        refine ih s _ _ _ (by omega) (by have := a.length_set z u; omega) hd' (fun e => hn ?_) (fun r e => hs r ?_)
        · simp only [takStk, takT, Option.bind_some]; exact e
        · simp only [takStk, takT, Option.bind_some]; exact e
      | ap w ps =>
        simp only [Tm.sz] at hm hl
        cases u with
        | nm z => exact (hu z .nm).elim
        | ap v ts =>
          simp! []
          refine WIf_dec (fun h => ?_) fun h => ?_
          · simp! [zipD_map, sk_app]
            have h1 := stkSz_zip ps ts
            have h2 := stkSz_reverse (ps.zip ts)
            have h3 := stk_len s
            have h4 := stk_len (ps.zip ts)
            refine ⟨by rw [sk_len, List.length_map]; omega, ?_⟩
            simp! []
            have hf : takStk ((Tm.ap w ps, Tm.ap v ts) :: s) a = takStk ((ps.zip ts).reverse ++ s) a := by
              simp only [takStk, takT, if_pos h, takStk_zip]
            refine ih _ _ _ _ (by rw [stkSz_append]; omega) (by rw [stkSz_append]; omega) (fun q hq => ?_) (fun e => hn (hf.trans e)) (fun r e => hs r (hf.trans e))
            rcases List.mem_append.mp hq with hq | hq
            · have hq2 := (List.of_mem_zip (List.mem_reverse.mp hq)).2
              exact fun x hx => hu x (.ap hq2 hx)
            · exact hd' q hq
          · simp! []
            exact hn (by simp only [takStk, takT, if_neg h, Option.bind_none]) _ rfl
theorem taken_ok (hm : tbl "taken" = some m_taken) {n : Nat} (h1n : 1 ≤ n) (ps ts : List Tm) (st : Sto) (hs : Tm.szs ps ≤ sizeLine) (hd : ∀ t ∈ ts, t.Tree) :
    runF tbl n "taken" [.tup (ps.map Tm.d), .tup (ts.map Tm.d)] st = some (asgO (takL ps ts []), st) := by
  obtain ⟨n, rfl⟩ := Nat.exists_eq_add_of_le' h1n
  refine WCall_val (WCall_run hm rfl ?_)
  simp only [m_taken]
  simp! [sk_zip]
  have h1 := stkSz_zip ps ts
  refine taken_loop _ _ st _ _ _ [] _ _ (Nat.le_refl _) (by rw [stkSz_reverse]; simp; omega) (fun p hp => hd _ (List.of_mem_zip (List.mem_reverse.mp hp)).2) (fun e S hS => ?_) (fun r e x y => ?_)
  · rw [takStk_all] at e
    simp! [e, hS, asgO]
  · rw [takStk_all] at e
    simp! [e, asgO]
theorem ltaken_loop {c : CallF} {ok : Str → Nat → Prop} (hok : Fn1 ok) (p0 p1 : D) (st : Sto) (Q : Fl → ES → Prop) : ∀ (m : Nat) (s : List (Tm × Tm)) (a : Asg) (x y : Sl), stkSz s ≤ m → a.length + stkSz s ≤ sizeLine → (∀ p ∈ s, p.1.W ok ∧ p.2.W ok ∧ p.2.Tree) →
    (takStk s a = none → ∀ S, S.st = st → Q (.rt .non) S) → (∀ r, takStk s a = some r → ∀ x y, Q .nx ⟨[.val p0, .val p1, .own (.dic r.kv), .own (.lst []), .no, x, y], st⟩) →
    WS c (.whileS (.cmp .Gt (.e (.len (.s 3))) (.e (.int 0))) l__law_taken_1) ⟨[.val p0, .val p1, .own (.dic a.kv), .own (.lst (sk s)), .no, x, y], st⟩ Q := by
  intro m
  induction m with
  | zero =>
    intro s a x y hm hl hd hn hs
    cases s with
    | cons p s => have := p.1.sz_pos; simp only [stkSz] at hm; omega
    | nil =>
      refine WS_while _ _ _ _ _ ?_
      simp! [sk_nil]
      refine WIf_neg (by simp) ?_
      exact hs a rfl x y
  | succ m ih =>
    intro s a x y hm hl hd hn hs
    cases s with
    | nil =>
      refine WS_while _ _ _ _ _ ?_
      simp! [sk_nil]
      refine WIf_neg (by simp) ?_
      exact hs a rfl x y
    | cons p s =>
      obtain ⟨p, u⟩ := p
      refine WS_while _ _ _ _ _ ?_
      simp! [sk_len]
      refine WIf_pos (by simp) ?_
      simp! [sk_ne, sk_top, sk_rest, prT, l__law_taken_1]
      obtain ⟨hw1, hw2, htr⟩ := hd (p, u) List.mem_cons_self
      have hd' : ∀ q ∈ s, q.1.W ok ∧ q.2.W ok ∧ q.2.Tree := fun q h => hd q (List.mem_cons_of_mem _ h)
      simp only [stkSz] at hm hl
      cases p with
      | nm z =>
        simp only [Tm.sz] at hm hl
        simp! [Asg.putD, Asg.length_kv]
        refine ⟨by omega, ?_⟩
        simp! []
        refine ih s _ _ _ (by omega) (by have := a.length_set z u; omega) hd' (fun e => hn ?_) (fun r e => hs r ?_)
        · simp only [takStk, takT, Option.bind_some]; exact e
        · simp only [takStk, takT, Option.bind_some]; exact e
      | ap w ps =>
        simp only [Tm.sz] at hm hl
        cases u with
        | nm z => exact (htr z .nm).elim
        | ap v ts =>
          simp! []
          refine WIf_dec (fun h => ?_) fun h => ?_
          · subst h
            cases hw1 with
            | ap l1 k1 =>
            cases hw2 with
            | ap l2 k2 =>
            have hlen := hok.1 _ _ _ l1 l2
            have hle := hok.2 _ _ l1
            simp! []
            refine WL_comp _ _ _ _ _ _ _ _ ?_
            refine WI_rng2 _ _ _ _ _ ?_
            simp! [List.length_map]
            rw [if_pos (by constructor <;> omega)]
            simp! [rngD_eq]
            have e1 : ((ps.length + 1 : Nat) : Int) - 1 = (ps.length : Int) := by omega
            refine ⟨by simp [sizeLine]; omega, LTurns_map (g := fun i : Nat => D.tup [elT ps i, elT ts i]) _ (fun i hi K k => ?_) ?_⟩
            · have hi := List.mem_range.mp hi
              unfold LTurn
              simp! []
              have hi1 : i < ps.length := by omega
              simp! [atI_int_cons hi1, atI_int_cons (show i < ts.length by omega)]
              exact k
            · rw [e1, Int.toNat_natCast, range_elT hlen]
              simp! [sk_app]
              have h1 := stkSz_zip ps ts
              have h2 := stkSz_reverse (ps.zip ts)
              have h3 := stk_len s
              have h4 := stk_len (ps.zip ts)
              rw [if_pos (by rw [sk_len, List.length_map]; omega)]
              simp! []
              have hf : takStk ((Tm.ap w ps, Tm.ap w ts) :: s) a = takStk ((ps.zip ts).reverse ++ s) a := by
                simp only [takStk, takT, if_true, takStk_zip]
              refine ih _ _ _ _ (by rw [stkSz_append]; omega) (by rw [stkSz_append]; omega) (fun q hq => ?_) (fun e => hn (hf.trans e)) (fun r e => hs r (hf.trans e))
              rcases List.mem_append.mp hq with hq | hq
              · have hq2 := List.of_mem_zip (List.mem_reverse.mp hq)
                simp only at htr
                exact ⟨k1 _ hq2.1, k2 _ hq2.2, fun x hx => htr x (.ap hq2.2 hx)⟩
              · exact hd' q hq
          · simp! []
            exact hn (by simp only [takStk, takT, if_neg h, Option.bind_none]) _ rfl
theorem ltaken_ok (hm : tbl "_law_taken" = some m__law_taken) {ok : Str → Nat → Prop} (hok : Fn1 ok) {n : Nat} (h1n : 1 ≤ n) (ps ts : List Tm) (st : Sto) (hl : ps.length = ts.length) (hs : Tm.szs ps ≤ sizeLine) (hp : ∀ p ∈ ps, p.W ok) (hd : ∀ t ∈ ts, t.W ok ∧ t.Tree) :
    runF tbl n "_law_taken" [.tup (ps.map Tm.d), .tup (ts.map Tm.d)] st = some (asgO (takL ps ts []), st) := by
  obtain ⟨n, rfl⟩ := Nat.exists_eq_add_of_le' h1n
  refine WCall_val (WCall_run hm rfl ?_)
  simp only [m__law_taken]
  have hlen : ps.length ≤ sizeLine := by
    have : ∀ l : List Tm, l.length ≤ Tm.szs l := fun l => by
      induction l with
      | nil => simp
      | cons t l ih => have := t.sz_pos; simp only [List.length_cons, Tm.szs]; omega
    have := this ps
    omega
  simp! []
  refine WL_comp _ _ _ _ _ _ _ _ ?_
  simp! [List.length_map]
  rw [if_pos (rng_bound hlen)]
  simp! [rngD_eq, Int.toNat_natCast]
  refine ⟨by simpa using hlen, LTurns_map (g := fun i : Nat => D.tup [elT ps i, elT ts i]) _ (fun i hi K k => ?_) ?_⟩
  · have hi := List.mem_range.mp hi
    unfold LTurn
    simp! [atI_int_map hi, atI_int_map (show i < ts.length by omega)]
    exact k
  rw [range_elT hl]
  have e : (ps.zip ts).map prT = sk (ps.zip ts).reverse := by simp [sk]
  simp! [e]
  have h1 := stkSz_zip ps ts
  refine ltaken_loop hok _ _ st _ _ _ [] _ _ (Nat.le_refl _) (by rw [stkSz_reverse]; simp; omega) (fun p hp2 => ?_) (fun e S hS => ?_) (fun r e x y => ?_)
  · have := List.of_mem_zip (List.mem_reverse.mp hp2)
    exact ⟨hp _ this.1, hd _ this.2⟩
  · rw [takStk_all] at e
    simp! [e, hS, asgO]
  · rw [takStk_all] at e
    simp! [e, asgO]
end
end Px
/-! A4: constructors, indices of values. -/
namespace Px
open PySem L2 Classical
/-! ### what fitting brings -/
mutual
theorem fitT_prop {P : Tm → Prop} (hP : ∀ w ts, P (.ap w ts) → ∀ t ∈ ts, P t) : ∀ (p t : Tm) (a b : Asg), fitT p t a = some b → P t → (∀ x u, a.get x = some u → P u) → ∀ x u, b.get x = some u → P u
  | .nm z, t, a, b, e, ht, ha, x, u, hu => by
    have hb : b = a.set z t := by
      simp only [fitT] at e
      cases h : a.get z with
      | none => rw [h] at e; exact (Option.some.inj e).symm
      | some v =>
        rw [h] at e
        simp only at e
        split at e
        · exact (Option.some.inj e).symm
        · cases e
    rw [hb, Asg.get_set] at hu
    split at hu
    · cases hu; exact ht
    · exact ha x u hu
  | .ap w ps, .nm _, a, b, e, ht, ha, x, u, hu => by simp [fitT] at e
  | .ap w ps, .ap v ts, a, b, e, ht, ha, x, u, hu => by
    simp only [fitT] at e
    split at e
    · exact fitL_prop hP ps ts a b e (hP v ts ht) ha x u hu
    · cases e
theorem fitL_prop {P : Tm → Prop} (hP : ∀ w ts, P (.ap w ts) → ∀ t ∈ ts, P t) : ∀ (ps ts : List Tm) (a b : Asg), fitL ps ts a = some b → (∀ t ∈ ts, P t) → (∀ x u, a.get x = some u → P u) → ∀ x u, b.get x = some u → P u
  | [], ts, a, b, e, ht, ha, x, u, hu => by simp only [fitL] at e; cases e; exact ha x u hu
  | _ :: _, [], a, b, e, ht, ha, x, u, hu => by simp only [fitL] at e; cases e; exact ha x u hu
  | p :: ps, t :: ts, a, b, e, ht, ha, x, u, hu => by
    simp only [fitL] at e
    obtain ⟨c, e1, e2⟩ := Option.bind_eq_some_iff.mp e
    exact fitT_prop hP p t c b e2 (ht t List.mem_cons_self) (fitL_prop hP ps ts a c e1 (fun u h => ht u (List.mem_cons_of_mem _ h)) ha) x u hu
end
mutual
theorem fitT_cov {ok : Str → Nat → Prop} (hok : Fn1 ok) : ∀ (p t : Tm) (a b : Asg), fitT p t a = some b → p.W ok → t.W ok → (∀ x, (a.get x).isSome = true → (b.get x).isSome = true) ∧ ∀ x, p.Has x → (b.get x).isSome = true
  | .nm z, t, a, b, e, _, _ => by
    have hb : b = a.set z t := by
      simp only [fitT] at e
      cases h : a.get z with
      | none => rw [h] at e; exact (Option.some.inj e).symm
      | some v =>
        rw [h] at e
        simp only at e
        split at e
        · exact (Option.some.inj e).symm
        · cases e
    subst hb
    refine ⟨fun x hx => ?_, fun x hx => ?_⟩
    · rw [Asg.get_set]; split
      · rfl
      · exact hx
    · cases hx
      rw [Asg.get_set, if_pos rfl]; rfl
  | .ap w ps, .nm _, a, b, e, _, _ => by simp [fitT] at e
  | .ap w ps, .ap v ts, a, b, e, hp, ht => by
    simp only [fitT] at e
    split at e
    · rename_i h
      subst h
      cases hp with
      | ap l1 k1 =>
      cases ht with
      | ap l2 k2 =>
      have := hok.1 _ _ _ l1 l2
      obtain ⟨h1, h2⟩ := fitL_cov hok ps ts a b e (by omega) k1 k2
      exact ⟨h1, fun x hx => by cases hx with | ap hm hk => exact h2 _ hm x hk⟩
    · cases e
theorem fitL_cov {ok : Str → Nat → Prop} (hok : Fn1 ok) : ∀ (ps ts : List Tm) (a b : Asg), fitL ps ts a = some b → ps.length ≤ ts.length → (∀ p ∈ ps, p.W ok) → (∀ t ∈ ts, t.W ok) → (∀ x, (a.get x).isSome = true → (b.get x).isSome = true) ∧ ∀ p ∈ ps, ∀ x, p.Has x → (b.get x).isSome = true
  | [], ts, a, b, e, _, _, _ => by simp only [fitL] at e; cases e; exact ⟨fun _ h => h, fun _ h => nomatch h⟩
  | _ :: _, [], a, b, e, hl, _, _ => by simp at hl
  | p :: ps, t :: ts, a, b, e, hl, hp, ht => by
    simp only [fitL] at e
    obtain ⟨c, e1, e2⟩ := Option.bind_eq_some_iff.mp e
    obtain ⟨h1, h2⟩ := fitL_cov hok ps ts a c e1 (by simpa using hl) (fun q h => hp q (List.mem_cons_of_mem _ h)) (fun q h => ht q (List.mem_cons_of_mem _ h))
    obtain ⟨h3, h4⟩ := fitT_cov hok p t c b e2 (hp p List.mem_cons_self) (ht t List.mem_cons_self)
    refine ⟨fun x hx => h3 x (h1 x hx), fun q hq x hx => ?_⟩
    rcases List.mem_cons.mp hq with rfl | hq
    · exact h4 x hx
    · exact h3 x (h2 q hq x hx)
end

/-! ### constructors -/
structure Con where
  w : Str
  ps : List (Str × Tm)
  fam : Str
  ix : Tm
def prD (p : Str × Tm) : D := .tup [.str p.1, p.2.d]
def Con.d (c : Con) : D := .tup [.str c.w, .tup (c.ps.map prD), .str c.fam, c.ix.d]
structure Tab where
  mks : D
  fams : List Str
  cs : List Con
def Tab.d (T : Tab) : D := .tup [.str "table", T.mks, .tup (T.fams.map D.str), .tup (T.cs.map Con.d)]
def Tab.find (T : Tab) (w : Str) : Option Con := T.cs.find? fun c => decide (c.w = w)
def conO : Option Con → D
  | some c => c.d
  | none => .non
/-- the makers of index terms -/
def okI (w : Str) (n : Nat) : Prop := n = if w = "s" then 1 else if w = "p" then 2 else 0
theorem okI_fn : Fn1 okI := ⟨fun w n m h k => by unfold okI at h k; omega, fun w n h => by unfold okI at h; split at h <;> (try split at h) <;> omega⟩
def Tab.okC (T : Tab) (w : Str) (n : Nat) : Prop := ∃ c, T.find w = some c ∧ c.ps.length = n
structure Con.Ok (c : Con) : Prop where
  len : c.ps.length ≤ 3
  wps : ∀ p ∈ c.ps, p.2.W okI ∧ p.2.dep ≤ 2 ∧ p.2.sz ≤ 100
  wix : c.ix.W okI
  dix : c.ix.dep ≤ 1
  has : ∀ x, c.ix.Has x → ∃ p ∈ c.ps, p.2.Has x
def Tab.Ok (T : Tab) : Prop := T.cs.length ≤ 100 ∧ ∀ c ∈ T.cs, c.Ok
theorem Tab.find_mem {T : Tab} {w : Str} {c : Con} (h : T.find w = some c) : c ∈ T.cs ∧ c.w = w :=
  ⟨List.mem_of_find?_eq_some h, of_decide_eq_true (List.find?_some (p := fun c : Con => decide (c.w = w)) h)⟩
theorem Tab.okC_fn {T : Tab} (h : T.Ok) : Fn1 T.okC := ⟨fun w n m ⟨c, e, hn⟩ ⟨c', e', hm⟩ => by rw [e] at e'; cases e'; omega, fun w n ⟨c, e, hn⟩ => by have := (h.2 c (Tab.find_mem e).1).len; omega⟩
section
variable {tbl : Str → Option DefM}
theorem constructor_loop {c : CallF} (T : D) (w : Str) (st : Sto) (Q : Fl → ES → Prop) : ∀ (cs : List Con) (x : Sl),
    (∀ k, cs.find? (fun c => decide (c.w = w)) = some k → ∀ S, S.st = st → Q (.rt k.d) S) → (cs.find? (fun c => decide (c.w = w)) = none → ∀ x, Q .nx ⟨[.val T, .val (.str w), x], st⟩) →
    FTurns c (.v 2) l_constructor_of_1 (cs.map Con.d) ⟨[.val T, .val (.str w), x], st⟩ Q
  | [], x, hs, hn => hn rfl x
  | k :: cs, x, hs, hn => by
    simp only [List.map_cons, FTurns]
    simp! [l_constructor_of_1, Con.d]
    refine WIf_dec (fun h => ?_) fun h => ?_
    · simp! []
      exact hs k (by simp [h]) _ rfl
    · simp! []
      refine constructor_loop T w st Q cs _ (fun k' e => hs k' ?_) (fun e => hn ?_)
      · rw [List.find?_cons, decide_eq_false h]; exact e
      · rw [List.find?_cons, decide_eq_false h]; exact e
theorem constructor_ok (hm : tbl "constructor_of" = some m_constructor_of) {n : Nat} (h1n : 1 ≤ n) (T : Tab) (w : Str) (st : Sto) : runF tbl n "constructor_of" [T.d, .str w] st = some (conO (T.find w), st) := by
  obtain ⟨n, rfl⟩ := Nat.exists_eq_add_of_le' h1n
  refine WCall_val (WCall_run hm rfl ?_)
  simp only [m_constructor_of]
  simp! [Tab.d]
  refine WS_for _ _ _ _ _ _ ?_
  simp! []
  refine constructor_loop _ w st _ T.cs _ (fun k e S hS => ?_) fun e x => ?_
  · have : T.find w = some k := e
    simp! [this, conO, hS]
  · have : T.find w = none := e
    simp! [this, conO]
/-! ### indices of values -/
mutual
noncomputable def idx (T : Tab) : Tm → Option (Str × Tm)
  | .nm _ => none
  | .ap w vs => match T.find w, idxs T vs with
    | some c, some fs => if fs.map (·.1) = c.ps.map (·.1) then (fitL (c.ps.map (·.2)) (fs.map (·.2)) []).map fun a => (c.fam, c.ix.put a.get) else none
    | _, _ => none
noncomputable def idxs (T : Tab) : List Tm → Option (List (Str × Tm))
  | [] => some []
  | v :: vs => match idx T v, idxs T vs with
    | some p, some ps => some (p :: ps)
    | _, _ => none
end
def pO : Option (Str × Tm) → D
  | some p => prD p
  | none => .non
theorem prD_nb (p : Str × Tm) : (prD p).nb = true := by simp [prD, D.nb, D.nbs, Tm.nb]
theorem pO_nb (p : Option (Str × Tm)) : (pO p).nb = true := by
  cases p with
  | none => simp [pO, D.nb]
  | some p => exact prD_nb p
theorem pO_non (p : Option (Str × Tm)) : pO p = .non ↔ p = none := by cases p <;> simp [pO, prD]
theorem non_in (T : Tab) : ∀ vs : List Tm, (D.non ∈ vs.map fun v => pO (idx T v)) ↔ idxs T vs = none
  | [] => by simp [idxs]
  | v :: vs => by
    have ih := non_in T vs
    simp only [List.map_cons, List.mem_cons, ih, idxs]
    have : D.non = pO (idx T v) ↔ idx T v = none := by rw [eq_comm, pO_non]
    rw [this]
    cases idx T v <;> cases idxs T vs <;> simp
theorem idxs_map {T : Tab} : ∀ {vs : List Tm} {fs : List (Str × Tm)}, idxs T vs = some fs → vs.map (fun v => pO (idx T v)) = fs.map prD
  | [], fs, e => by simp only [idxs] at e; cases e; rfl
  | v :: vs, fs, e => by
    simp only [idxs] at e
    cases h1 : idx T v with
    | none => rw [h1] at e; simp at e
    | some p =>
      cases h2 : idxs T vs with
      | none => rw [h1, h2] at e; simp at e
      | some ps =>
        rw [h1, h2] at e
        cases e
        rw [List.map_cons, List.map_cons, h1, idxs_map h2]; rfl
theorem idxs_len {T : Tab} {vs : List Tm} {fs : List (Str × Tm)} (e : idxs T vs = some fs) : fs.length = vs.length := by
  have := congrArg List.length (idxs_map e)
  simpa using this.symm
theorem idxs_mem {T : Tab} : ∀ {vs : List Tm} {fs : List (Str × Tm)}, idxs T vs = some fs → ∀ p ∈ fs, ∃ v ∈ vs, idx T v = some p
  | [], fs, e, p, hp => by simp only [idxs] at e; cases e; cases hp
  | v :: vs, fs, e, p, hp => by
    simp only [idxs] at e
    cases h1 : idx T v with
    | none => rw [h1] at e; simp at e
    | some q =>
      cases h2 : idxs T vs with
      | none => rw [h1, h2] at e; simp at e
      | some ps =>
        rw [h1, h2] at e
        cases e
        rcases List.mem_cons.mp hp with rfl | hp
        · exact ⟨v, List.mem_cons_self, h1⟩
        · obtain ⟨u, hu, e⟩ := idxs_mem h2 p hp
          exact ⟨u, List.mem_cons_of_mem _ hu, e⟩
theorem eqD_strs (xs ys : List Str) : eqD (.lst (xs.map D.str)) (.lst (ys.map D.str)) = some (decide (xs = ys)) := by
  rw [eqD_nb]
  · congr 1
    simp only [D.lst.injEq]
    have : (xs.map D.str = ys.map D.str) ↔ xs = ys := List.map_inj_right (fun a b e => by cases e; rfl)
    simp only [this]
  · simp only [D.nb]; exact D.nbs_all.mpr fun d h => by obtain ⟨x, _, rfl⟩ := List.mem_map.mp h; simp [D.nb]
  · simp only [D.nb]; exact D.nbs_all.mpr fun d h => by obtain ⟨x, _, rfl⟩ := List.mem_map.mp h; simp [D.nb]
  · left
    have : D.deps (xs.map D.str) ≤ 0 := D.deps_le.mpr fun d h => by obtain ⟨x, _, rfl⟩ := List.mem_map.mp h; simp [D.dep]
    simp only [D.dep]; omega
/-- what an index is -/
structure IxOk (m : Nat) (t : Tm) : Prop where
  w : t.W okI
  tree : t.Tree
  dep : t.dep ≤ m
theorem IxOk.sub {m : Nat} (w : Str) (ts : List Tm) (h : IxOk m (.ap w ts)) : ∀ t ∈ ts, IxOk m t := fun t ht => by
  refine ⟨?_, fun x hx => h.tree x (.ap ht hx), ?_⟩
  · cases h.w with
    | ap _ k => exact k t ht
  · have := Tm.dep_mem (w := w) ht
    have := h.dep
    omega
theorem Tm.put_tree {a : Str → Option Tm} {t : Tm} (hc : ∀ x, t.Has x → (a x).isSome = true) (ha : ∀ x u, a x = some u → u.Tree) : (t.put a).Tree := by
  induction t using Tm.ind with
  | nm x =>
    rw [Tm.put_nm]
    have := hc x .nm
    cases e : a x with
    | none => rw [e] at this; cases this
    | some u => exact ha x u e
  | ap w ts ih =>
    rw [Tm.put_ap]
    intro x hx
    cases hx with
    | ap hm hk =>
      obtain ⟨u, hu, rfl⟩ := List.mem_map.mp hm
      exact ih u hu (fun y hy => hc y (.ap hu hy)) x hk
theorem made_ok {T : Tab} {c : Con} (hc : c.Ok) {ts : List Tm} {m : Nat} (ht : ∀ t ∈ ts, IxOk m t) (hl : c.ps.length = ts.length) {a : Asg} (e : fitL (c.ps.map (·.2)) ts [] = some a) :
    Cov c.ix a ∧ IxOk (m + 1) (c.ix.put a.get) := by
  have h1 := fitL_prop (P := IxOk m) (fun w ts h => h.sub) _ _ _ _ e ht (fun x u h => by simp [Asg.get] at h)
  obtain ⟨_, h2⟩ := fitL_cov okI_fn _ _ _ _ e (by simp [hl]) (fun p hp => by obtain ⟨q, hq, rfl⟩ := List.mem_map.mp hp; exact (hc.wps q hq).1) (fun t h => (ht t h).w)
  have cov : Cov c.ix a := fun x hx => by
    obtain ⟨p, hp, k⟩ := hc.has x hx
    exact h2 p.2 (List.mem_map.mpr ⟨p, hp, rfl⟩) x k
  refine ⟨cov, hc.wix.put fun x u h => (h1 x u h).w, Tm.put_tree cov fun x u h => (h1 x u h).tree, ?_⟩
  have := Tm.put_dep (a := a.get) (m := m) (fun x u h => (h1 x u h).dep) c.ix
  have := hc.dix
  omega
theorem idx_ok {T : Tab} (hT : T.Ok) : ∀ {v : Tm} {p : Str × Tm}, idx T v = some p → IxOk v.dep p.2 := by
  intro v
  induction v using Tm.ind with
  | nm x => intro p e; simp [idx] at e
  | ap w vs ih =>
    intro p e
    simp only [idx] at e
    cases h1 : T.find w with
    | none => rw [h1] at e; simp at e
    | some c =>
      cases h2 : idxs T vs with
      | none => rw [h1, h2] at e; simp at e
      | some fs =>
        rw [h1, h2] at e
        simp only at e
        split at e
        · rename_i hf
          obtain ⟨a, ea, rfl⟩ := Option.map_eq_some_iff.mp e
          have hc := hT.2 c (Tab.find_mem h1).1
          have hl : c.ps.length = (fs.map (·.2)).length := by
            have := congrArg List.length hf
            simpa using this.symm
          have := (made_ok (T := T) hc (m := Tm.deps vs) (fun t ht => ?_) hl ea).2
          · simpa [Tm.dep] using this
          · obtain ⟨q, hq, rfl⟩ := List.mem_map.mp ht
            obtain ⟨u, hu, e⟩ := idxs_mem h2 q hq
            have := ih u hu e
            exact ⟨this.w, this.tree, Nat.le_trans this.dep (Tm.deps_le.mp (Nat.le_refl _) u hu)⟩
        · cases e
end
end Px
/-! A5: index_of and the law's. -/
namespace Px
open PySem L2 Classical
/-- what the table's names are -/
structure TblA (tbl : Str → Option DefM) : Prop where
  put : tbl "put_indices" = some m_put
  lput : tbl "_law_put" = some m__law_put
  fitted : tbl "fitted" = some m_fitted
  lfit : tbl "_law_fit" = some m__law_fit
  taken : tbl "taken" = some m_taken
  ltaken : tbl "_law_taken" = some m__law_taken
  con : tbl "constructor_of" = some m_constructor_of
  index : tbl "index_of" = some m_index_of
  lindex : tbl "_law_index" = some m__law_index
  dem : tbl "demanded" = some m_demanded
  fn : tbl "function_of" = some m_function_of
  cl : tbl "clause_for" = some m_clause_for
  lcl : tbl "_law_clause" = some m__law_clause
  raw : tbl "is_raw" = some m_is_raw
  lraw : tbl "_law_is_raw" = some m__law_is_raw
  hd : tbl "head_of" = some m_head_of
  lhd : tbl "_law_head" = some m__law_head
  rk : tbl "reckoned" = some m_reckoned
  lrk : tbl "_law_reckoned" = some m__law_reckoned
  ti : tbl "told_index" = some m_told_index
  told : tbl "told" = some m_told
  ltold : tbl "_law_told" = some m__law_told
section
variable {tbl : Str → Option DefM}
theorem conO_none : conO none = .non := rfl
theorem conO_some (c : Con) : conO (some c) = .tup [.str c.w, .tup (c.ps.map prD), .str c.fam, c.ix.d] := rfl
theorem pO_none : pO none = .non := rfl
theorem pO_some (p : Str × Tm) : pO (some p) = .tup [.str p.1, p.2.d] := rfl
theorem memD_pO (T : Tab) (vs : List Tm) : memD .non (vs.map fun v => pO (idx T v)) = some (decide (idxs T vs = none)) := by
  rw [memD_nb (by simp [D.nb]) (D.nbs_all.mpr fun d h => by obtain ⟨v, _, rfl⟩ := List.mem_map.mp h; exact pO_nb _) (.inl (by simp [D.dep]))]
  simp only [non_in]
theorem szs_le {ps : List Tm} {n : Nat} (h : ∀ p ∈ ps, p.sz ≤ n) : Tm.szs ps ≤ ps.length * n := by
  induction ps with
  | nil => simp [Tm.szs]
  | cons p ps ih =>
    have h1 := h p List.mem_cons_self
    have h2 := ih fun q hq => h q (List.mem_cons_of_mem _ hq)
    simp only [Tm.szs, List.length_cons, Nat.succ_mul]
    omega
theorem W_sub {ok : Str → Nat → Prop} {w : Str} {ts : List Tm} (h : (Tm.ap w ts).W ok) : ok w ts.length ∧ ∀ t ∈ ts, t.W ok := by
  cases h with
  | ap a b => exact ⟨a, b⟩
theorem index_ok (B : TblA tbl) {T : Tab} (hT : T.Ok) : ∀ (v : Tm) (n : Nat) (st : Sto), v.dep + 2 ≤ n → v.dep ≤ 100 → v.W T.okC → v.Tree → runF tbl n "index_of" [T.d, v.d] st = some (pO (idx T v), st) := by
  intro v
  induction v using Tm.ind with
  | nm x => intro n st _ _ _ ht; exact (ht x .nm).elim
  | ap w vs ih =>
    intro n st hn h100 hw ht
    obtain ⟨⟨c, hc, hl⟩, hws⟩ := W_sub hw
    have cOk := hT.2 c (Tab.find_mem hc).1
    have l3 := cOk.len
    have dvs : ∀ v ∈ vs, v.dep + 1 ≤ (Tm.ap w vs).dep := fun v hv => Tm.dep_mem hv
    obtain ⟨n, rfl⟩ : ∃ k, n = k + 1 := ⟨n - 1, by omega⟩
    refine WCall_val (WCall_run B.index rfl ?_)
    simp only [m_index_of]
    simp! []
    refine WCall_of _ (constructor_ok B.con (by simp only [Tm.dep] at hn; omega) T w st) ?_
    rw [hc]
    simp! [conO_some]
    refine WL_comp _ _ _ _ _ _ _ _ ?_
    simp! []
    refine ⟨by simp [sizeLine]; omega, LTurns_map (g := fun v : Tm => pO (idx T v)) _ (fun v hv K k => ?_) ?_⟩
    · unfold LTurn
      simp! []
      refine WCall_of _ (ih v hv n st (by have := dvs v hv; omega) (by have := dvs v hv; omega) (hws v hv) fun x hx => ht x (.ap hv hx)) ?_
      simp! []
      exact k
    simp! [memD_pO]
    have es : ∀ l : List (Str × Tm), l.map (fun p => D.str p.1) = (l.map (·.1)).map D.str := fun l => by simp
    have et : ∀ l : List (Str × Tm), l.map (fun p => p.2.d) = (l.map (·.2)).map Tm.d := fun l => by simp
    refine WIf_dec (fun h => ?_) fun h => ?_
    · have hv : idx T (.ap w vs) = none := by simp only [idx, hc, h]
      rw [hv]
      simp! [pO_none]
    obtain ⟨fs, hfs⟩ := Option.ne_none_iff_exists'.mp h
    have hlen := idxs_len hfs
    rw [idxs_map hfs]
    simp! []
    refine WL_comp _ _ _ _ _ _ _ _ ?_
    simp! []
    refine ⟨by simp [sizeLine]; omega, LTurns_map (g := fun p : Str × Tm => D.str p.1) _ (fun v hv K k => ?_) ?_⟩
    · unfold LTurn
      simp! [prD]
      exact k
    simp! []
    refine WL_comp _ _ _ _ _ _ _ _ ?_
    simp! []
    refine ⟨by simp [sizeLine]; omega, LTurns_map (g := fun p : Str × Tm => D.str p.1) _ (fun v hv K k => ?_) ?_⟩
    · unfold LTurn
      simp! [prD]
      exact k
    simp! [es, eqD_strs]
    refine WIf_dec (fun hf => ?_) fun hf => ?_
    rotate_left
    · have hv : idx T (.ap w vs) = none := by simp only [idx, hc, hfs, if_neg hf]
      rw [hv]
      simp! [pO_none]
    have hv : idx T (.ap w vs) = (fitL (c.ps.map (·.2)) (fs.map (·.2)) []).map fun a => (c.fam, c.ix.put a.get) := by simp only [idx, hc, hfs, if_pos hf]
    simp! []
    refine WL_comp _ _ _ _ _ _ _ _ ?_
    simp! []
    refine ⟨by simp [sizeLine]; omega, LTurns_map (g := fun p : Str × Tm => p.2.d) _ (fun v hv K k => ?_) ?_⟩
    · unfold LTurn
      simp! [prD]
      exact k
    simp! []
    refine WL_comp _ _ _ _ _ _ _ _ ?_
    simp! []
    refine ⟨by simp [sizeLine]; omega, LTurns_map (g := fun p : Str × Tm => p.2.d) _ (fun v hv K k => ?_) ?_⟩
    · unfold LTurn
      simp! [prD]
      exact k
    simp! [et]
    have hts : ∀ t ∈ fs.map (·.2), IxOk (Tm.deps vs) t := fun t ht => by
      obtain ⟨q, hq, rfl⟩ := List.mem_map.mp ht
      obtain ⟨u, hu, e⟩ := idxs_mem hfs q hq
      have := idx_ok hT e
      exact ⟨this.w, this.tree, Nat.le_trans this.dep (Tm.deps_le.mp (Nat.le_refl _) u hu)⟩
    simp only [Tm.dep] at hn h100
    refine WCall_of _ (fitted_ok B.fitted (by omega) _ _ st ?_ fun t ht => ?_) ?_
    · have := szs_le (ps := c.ps.map (·.2)) (n := 100) fun p hp => by
        obtain ⟨q, hq, rfl⟩ := List.mem_map.mp hp
        exact (cOk.wps q hq).2.2
      rw [List.length_map] at this
      unfold sizeLine
      omega
    · have := (hts t ht).dep
      omega
    cases ef : fitL (c.ps.map (·.2)) (fs.map (·.2)) [] with
    | none =>
      rw [hv, ef]
      simp! [asgO, Option.map_none, pO_none]
    | some a =>
      rw [hv, ef]
      simp! [asgO]
      have dix := cOk.dix
      refine WCall_of _ (put_ok B.put (ok := okI) okI_fn.2 n c.ix a st (by omega) cOk.wix) ?_
      simp! [Option.map_some, pO_some]
end
end Px
/-! A6: the law's index, demanded, raw values. -/
namespace Px
open PySem L2 Classical
section
variable {tbl : Str → Option DefM}
theorem filter_first {T : Tab} {w : Str} {c : Con} (h : T.find w = some c) : ∃ l, (T.cs.filter fun c => decide (c.w = w)) = c :: l := by
  have h2 : (T.cs.filter fun c => decide (c.w = w)).head? = some c := by rw [List.head?_filter]; exact h
  cases e : T.cs.filter fun c => decide (c.w = w) with
  | nil => rw [e] at h2; cases h2
  | cons a l => rw [e] at h2; cases h2; exact ⟨l, rfl⟩
theorem strs_map (l : List (Str × Tm)) : l.map (fun p => D.str p.1) = (l.map (·.1)).map D.str := by simp
theorem tms_map (l : List (Str × Tm)) : l.map (fun p => p.2.d) = (l.map (·.2)).map Tm.d := by simp
theorem asgO_none : asgO none = .non := rfl
theorem asgO_some (a : Asg) : asgO (some a) = .dic (a.kv.map (·.1)) (a.kv.map (·.2)) := rfl
theorem fs_ix {T : Tab} (hT : T.Ok) {vs : List Tm} {fs : List (Str × Tm)} (hfs : idxs T vs = some fs) : ∀ t ∈ fs.map (·.2), IxOk (Tm.deps vs) t := fun t ht => by
  obtain ⟨q, hq, rfl⟩ := List.mem_map.mp ht
  obtain ⟨u, hu, e⟩ := idxs_mem hfs q hq
  have := idx_ok hT e
  exact ⟨this.w, this.tree, Nat.le_trans this.dep (Tm.deps_le.mp (Nat.le_refl _) u hu)⟩
theorem con_szs {c : Con} (cOk : c.Ok) : Tm.szs (c.ps.map (·.2)) ≤ sizeLine := by
  have := szs_le (ps := c.ps.map (·.2)) (n := 100) fun p hp => by
    obtain ⟨q, hq, rfl⟩ := List.mem_map.mp hp
    exact (cOk.wps q hq).2.2
  have := cOk.len
  rw [List.length_map] at *
  unfold sizeLine
  omega
theorem lindex_ok (B : TblA tbl) {T : Tab} (hT : T.Ok) : ∀ (v : Tm) (n : Nat) (st : Sto), v.dep + 2 ≤ n → v.dep ≤ 100 → v.W T.okC → v.Tree → runF tbl n "_law_index" [T.d, v.d] st = some (pO (idx T v), st) := by
  intro v
  induction v using Tm.ind with
  | nm x => intro n st _ _ _ ht; exact (ht x .nm).elim
  | ap w vs ih =>
    intro n st hn h100 hw ht
    obtain ⟨⟨c, hc, hl⟩, hws⟩ := W_sub hw
    have cOk := hT.2 c (Tab.find_mem hc).1
    have l3 := cOk.len
    have l100 := hT.1
    have dvs : ∀ v ∈ vs, v.dep + 1 ≤ (Tm.ap w vs).dep := fun v hv => Tm.dep_mem hv
    obtain ⟨n, rfl⟩ : ∃ k, n = k + 1 := ⟨n - 1, by omega⟩
    refine WCall_val (WCall_run B.lindex rfl ?_)
    simp only [m__law_index]
    simp! []
    refine WL_comp _ _ _ _ _ _ _ _ ?_
    simp! [Tab.d]
    refine ⟨by simp [sizeLine]; omega, LTurns_filter (p := fun c : Con => decide (c.w = w)) (g := Con.d) _ (fun k hk K kk => ?_) ?_⟩
    · unfold LTurn
      simp! [Con.d]
      refine WIf_dec (fun h => ?_) fun h => ?_
      · simp! []
        rw [decide_eq_true h, if_pos rfl] at kk
        exact kk
      · rw [decide_eq_false h, if_neg nofun] at kk
        exact kk
    obtain ⟨l, el⟩ := filter_first hc
    rw [el]
    simp! [Con.d]
    refine WL_comp _ _ _ _ _ _ _ _ ?_
    simp! []
    refine ⟨by simp [sizeLine]; omega, LTurns_map (g := fun v : Tm => pO (idx T v)) _ (fun v hv K k => ?_) ?_⟩
    · unfold LTurn
      simp! []
      refine WCall_of _ (ih v hv n st (by have := dvs v hv; omega) (by have := dvs v hv; omega) (hws v hv) fun x hx => ht x (.ap hv hx)) ?_
      simp! []
      exact k
    simp! [memD_pO]
    refine WIf_dec (fun h => ?_) fun h => ?_
    · have hv : idx T (.ap w vs) = none := by simp only [idx, hc, h]
      rw [hv]
      simp! [pO_none]
    obtain ⟨fs, hfs⟩ := Option.ne_none_iff_exists'.mp h
    have hlen := idxs_len hfs
    rw [idxs_map hfs]
    simp! []
    refine WL_comp _ _ _ _ _ _ _ _ ?_
    simp! []
    refine ⟨by simp [sizeLine]; omega, LTurns_map (g := fun p : Str × Tm => D.str p.1) _ (fun v hv K k => ?_) ?_⟩
    · unfold LTurn
      simp! [prD]
      exact k
    simp! []
    refine WL_comp _ _ _ _ _ _ _ _ ?_
    simp! []
    refine ⟨by simp [sizeLine]; omega, LTurns_map (g := fun p : Str × Tm => D.str p.1) _ (fun v hv K k => ?_) ?_⟩
    · unfold LTurn
      simp! [prD]
      exact k
    simp! [strs_map, eqD_strs]
    refine WIf_dec (fun hf => ?_) fun hf => ?_
    rotate_left
    · have hv : idx T (.ap w vs) = none := by simp only [idx, hc, hfs, if_neg hf]
      rw [hv]
      simp! [pO_none]
    have hv : idx T (.ap w vs) = (fitL (c.ps.map (·.2)) (fs.map (·.2)) []).map fun a => (c.fam, c.ix.put a.get) := by simp only [idx, hc, hfs, if_pos hf]
    simp! []
    refine WL_comp _ _ _ _ _ _ _ _ ?_
    simp! []
    refine ⟨by simp [sizeLine]; omega, LTurns_map (g := fun p : Str × Tm => p.2.d) _ (fun v hv K k => ?_) ?_⟩
    · unfold LTurn
      simp! [prD]
      exact k
    simp! []
    refine WL_comp _ _ _ _ _ _ _ _ ?_
    simp! []
    refine ⟨by simp [sizeLine]; omega, LTurns_map (g := fun p : Str × Tm => p.2.d) _ (fun v hv K k => ?_) ?_⟩
    · unfold LTurn
      simp! [prD]
      exact k
    simp! [tms_map]
    have hts := fs_ix hT hfs
    have hll : (c.ps.map (·.2)).length = (fs.map (·.2)).length := by simp; omega
    simp only [Tm.dep] at hn h100
    refine WCall_of _ (lfit_ok B.lfit okI_fn (by omega) _ _ st hll (con_szs cOk) (fun p hp => ?_) fun t ht => ?_) ?_
    · obtain ⟨q, hq, rfl⟩ := List.mem_map.mp hp
      exact (cOk.wps q hq).1
    · have q := hts t ht
      have q2 := q.dep
      exact ⟨by omega, q.w, q.tree⟩
    cases ef : fitL (c.ps.map (·.2)) (fs.map (·.2)) [] with
    | none =>
      rw [hv, ef]
      simp! [asgO, Option.map_none, pO_none]
    | some a =>
      rw [hv, ef]
      simp! [asgO]
      have dix := cOk.dix
      have cov := (made_ok (T := T) cOk hts (by simpa using hll) ef).1
      refine WCall_of _ (lput_ok B.lput (ok := okI) okI_fn.2 n c.ix a st (by omega) cOk.wix cov) ?_
      simp! [Option.map_some, pO_some]
/-- what a function asks for: the assignment of its names -/
noncomputable def dem (T : Tab) (ps : List (Str × Tm)) (vs : List Tm) : Option Asg := match idxs T vs with
  | some fs => if fs.map (·.1) = ps.map (·.1) then fitL (ps.map (·.2)) (fs.map (·.2)) [] else none
  | none => none
/-! ### raw values -/
mutual
noncomputable def rawD (T : Tab) : D → Bool
  | .tup ds => rawTop T ds
  | .lst _ => false
  | .non => false
  | .bl _ => false
  | .int _ => false
  | .str _ => false
  | .dic _ _ => false
  | .hdl _ => false
  | .scr _ => false
noncomputable def rawTop (T : Tab) : List D → Bool
  | .str w :: ds => match T.find w with
    | some c => decide (c.ps.length = ds.length) && rawDs T ds
    | none => false
  | _ => false
noncomputable def rawDs (T : Tab) : List D → Bool
  | [] => true
  | d :: ds => rawD T d && rawDs T ds
end
end
end Px
/-! A7: demanded, raw values, functions. -/
namespace Px
open PySem L2 Classical
structure Fun where
  w : Str
  ps : List (Str × Tm)
  fam : Str
  ix : Tm
  at' : Nat
  cls : List (List Tm × Tm)
def clD (c : List Tm × Tm) : D := .tup [.tup (c.1.map Tm.d), c.2.d]
def Fun.d (f : Fun) : D := .tup [.str f.w, .tup (f.ps.map prD), .str f.fam, f.ix.d, .int f.at', .tup (f.cls.map clD)]
def progD (fs : List Fun) : D := .tup [.str "program", .tup (fs.map Fun.d)]
/-- terms of parts or params -/
structure PsOk (ps : List (Str × Tm)) : Prop where
  len : ps.length ≤ 3
  wps : ∀ p ∈ ps, p.2.W okI ∧ p.2.dep ≤ 2 ∧ p.2.sz ≤ 100
theorem PsOk.szs {ps : List (Str × Tm)} (h : PsOk ps) : Tm.szs (ps.map (·.2)) ≤ sizeLine := by
  have := szs_le (ps := ps.map (·.2)) (n := 100) fun p hp => by
    obtain ⟨q, hq, rfl⟩ := List.mem_map.mp hp
    exact (h.wps q hq).2.2
  have := h.len
  rw [List.length_map] at *
  unfold sizeLine
  omega
theorem isIn_non_t : isIn .non "tuple" = some false := by simp only [isIn, tyName]; rfl
theorem isIn_int_t (i : Int) : isIn (.int i) "tuple" = some false := by simp only [isIn, tyName]; rfl
theorem isIn_lst_t (i : List D) : isIn (.lst i) "tuple" = some false := by simp only [isIn, tyName]; rfl
theorem isIn_lst_s (i : List D) : isIn (.lst i) "str" = some false := by simp only [isIn, tyName]; rfl
/-- values that an index is asked of -/
structure ValOk (T : Tab) (v : Tm) : Prop where
  w : v.W T.okC
  tree : v.Tree
  dep : v.dep ≤ 100
/-- tuples that are not too long -/
inductive D.sml : D → Prop
  | tup {ds : List D} (h : ds.length ≤ 1000) (k : ∀ d ∈ ds, D.sml d) : D.sml (.tup ds)
  | lst (ds : List D) : D.sml (.lst ds)
  | non : D.sml .non
  | int (i : Int) : D.sml (.int i)
  | str (i : Str) : D.sml (.str i)
section
variable {tbl : Str → Option DefM}
theorem dem_ok (B : TblA tbl) {T : Tab} (hT : T.Ok) (f : Fun) (hp : PsOk f.ps) (vs : List Tm) (n : Nat) (st : Sto) (hn : Tm.deps vs + 3 ≤ n) (hl : vs.length ≤ 1000) (hv : ∀ v ∈ vs, ValOk T v) :
    runF tbl n "demanded" [T.d, f.d, .tup (vs.map Tm.d)] st = some (asgO (dem T f.ps vs), st) := by
  obtain ⟨n, rfl⟩ : ∃ k, n = k + 1 := ⟨n - 1, by omega⟩
  refine WCall_val (WCall_run B.dem rfl ?_)
  simp only [m_demanded]
  have dvs : ∀ v ∈ vs, v.dep ≤ Tm.deps vs := fun v hv => Tm.deps_le.mp (Nat.le_refl _) v hv
  have l3 := hp.len
  simp! []
  refine WL_comp _ _ _ _ _ _ _ _ ?_
  simp! []
  refine ⟨by simp [sizeLine]; omega, LTurns_map (g := fun v : Tm => pO (idx T v)) _ (fun v hv2 K k => ?_) ?_⟩
  · unfold LTurn
    simp! []
    have q := hv v hv2
    refine WCall_of _ (index_ok B hT v n st (by have := dvs v hv2; omega) q.dep q.w q.tree) ?_
    simp! []
    exact k
  simp! [memD_pO]
  refine WIf_dec (fun h => ?_) fun h => ?_
  · have hv : dem T f.ps vs = none := by simp only [dem, h]
    rw [hv]
    simp! [asgO_none]
  obtain ⟨fs, hfs⟩ := Option.ne_none_iff_exists'.mp h
  have hlen := idxs_len hfs
  rw [idxs_map hfs]
  simp! []
  refine WL_comp _ _ _ _ _ _ _ _ ?_
  simp! []
  refine ⟨by simp [sizeLine]; omega, LTurns_map (g := fun p : Str × Tm => D.str p.1) _ (fun v hv K k => ?_) ?_⟩
  · unfold LTurn
    simp! [prD]
    exact k
  simp! [Fun.d]
  refine WL_comp _ _ _ _ _ _ _ _ ?_
  simp! []
  refine ⟨by simp [sizeLine]; omega, LTurns_map (g := fun p : Str × Tm => D.str p.1) _ (fun v hv K k => ?_) ?_⟩
  · unfold LTurn
    simp! [prD]
    exact k
  simp! [strs_map, eqD_strs]
  refine WIf_dec (fun hf => ?_) fun hf => ?_
  rotate_left
  · have hv : dem T f.ps vs = none := by simp only [dem, hfs, if_neg hf]
    rw [hv]
    simp! [asgO_none]
  have hv' : dem T f.ps vs = fitL (f.ps.map (·.2)) (fs.map (·.2)) [] := by simp only [dem, hfs, if_pos hf]
  simp! [Fun.d]
  refine WL_comp _ _ _ _ _ _ _ _ ?_
  simp! []
  refine ⟨by simp [sizeLine]; omega, LTurns_map (g := fun p : Str × Tm => p.2.d) _ (fun v hv K k => ?_) ?_⟩
  · unfold LTurn
    simp! [prD]
    exact k
  simp! []
  refine WL_comp _ _ _ _ _ _ _ _ ?_
  simp! []
  refine ⟨by simp [sizeLine]; omega, LTurns_map (g := fun p : Str × Tm => p.2.d) _ (fun v hv K k => ?_) ?_⟩
  · unfold LTurn
    simp! [prD]
    exact k
  simp! [tms_map]
  refine WCall_of _ (fitted_ok B.fitted (by omega) _ _ st hp.szs fun t ht => ?_) ?_
  · obtain ⟨q, hq, rfl⟩ := List.mem_map.mp ht
    obtain ⟨u, hu, e⟩ := idxs_mem hfs q hq
    have h1 := (idx_ok hT e).dep
    have h2 := (hv u hu).dep
    omega
  rw [hv']
  simp! []
theorem rawD_tup (T : Tab) (ds : List D) : rawD T (.tup ds) = rawTop T ds := by simp only [rawD]
theorem boolsD_raw (T : Tab) : ∀ ds : List D, (boolsD (ds.map fun d => .bl (rawD T d))).map (fun bs => bs.all id) = some (rawDs T ds)
  | [] => by simp [boolsD, rawDs]
  | d :: ds => by
    have ih := boolsD_raw T ds
    cases h : boolsD (ds.map fun d => .bl (rawD T d)) with
    | none => rw [h] at ih; cases ih
    | some bs =>
      rw [h] at ih
      simp only [Option.map_some, Option.some.injEq] at ih
      simp only [List.map_cons, boolsD, h, Option.map_some, List.all_cons, ih, rawDs, id_eq]
theorem raw_ok (B : TblA tbl) {T : Tab} (hT : T.Ok) : ∀ (m : Nat) (d : D) (n : Nat) (st : Sto), d.dep ≤ m → m + 2 ≤ n → d.nb = true → runF tbl n "is_raw" [T.d, d] st = some (.bl (rawD T d), st) := by
  intro m
  induction m with
  | zero =>
    intro d n st hd hn hb
    obtain ⟨n, rfl⟩ : ∃ k, n = k + 1 := ⟨n - 1, by omega⟩
    refine WCall_val (WCall_run B.raw rfl ?_)
    simp only [m_is_raw]
    cases d with
    | tup ds => simp only [D.dep] at hd; omega
    | lst ds => simp only [D.dep] at hd; omega
    | non => simp! [isIn_non_t, rawD]
    | int i => simp! [isIn_int_t, rawD]
    | str x => simp! [isIn_str_t, rawD]
    | bl b => simp [D.nb] at hb
    | dic b _ => simp [D.nb] at hb
    | hdl b => simp [D.nb] at hb
    | scr b => simp [D.nb] at hb
  | succ m ih =>
    intro d n st hd hn hb
    obtain ⟨n, rfl⟩ : ∃ k, n = k + 1 := ⟨n - 1, by omega⟩
    refine WCall_val (WCall_run B.raw rfl ?_)
    simp only [m_is_raw]
    cases d with
    | lst ds => simp! [isIn_lst_t, rawD]
    | non => simp! [isIn_non_t, rawD]
    | int i => simp! [isIn_int_t, rawD]
    | str x => simp! [isIn_str_t, rawD]
    | bl b => simp [D.nb] at hb
    | dic b _ => simp [D.nb] at hb
    | hdl b => simp [D.nb] at hb
    | scr b => simp [D.nb] at hb
    | tup ds =>
      rw [rawD_tup]
      simp only [D.nb] at hb
      simp only [D.dep] at hd
      simp! []
      cases ds with
      | nil =>
        simp! []
        refine WIf_pos (by simp) ?_
        simp! [rawTop]
      | cons d ds =>
        simp only [D.nbs, Bool.and_eq_true] at hb
        simp! []
        refine WIf_neg (by simp; omega) ?_
        simp! []
        cases d with
        | non => simp! [rawTop]
        | int i => simp! [rawTop]
        | lst l => simp! [isIn_lst_s, rawTop]
        | tup l => simp! [rawTop]
        | bl b => simp [D.nb] at hb
        | dic b _ => simp [D.nb] at hb
        | hdl b => simp [D.nb] at hb
        | scr b => simp [D.nb] at hb
        | str w =>
          simp! []
          refine WCall_of _ (constructor_ok B.con (by omega) T w st) ?_
          cases hc : T.find w with
          | none => simp! [conO_none, rawTop, hc]
          | some c =>
            have l3 := (hT.2 c (Tab.find_mem hc).1).len
            simp! [conO_some, List.length_map]
            refine WIf_dec (fun h => ?_) fun h => ?_
            rotate_left
            · have : rawTop T (.str w :: ds) = false := by
                simp only [rawTop, hc]
                rw [decide_eq_false (by omega)]; rfl
              rw [this]
              simp! []
            have hlen : c.ps.length = ds.length := by omega
            have e : rawTop T (.str w :: ds) = rawDs T ds := by
              simp only [rawTop, hc]
              rw [decide_eq_true hlen]; rfl
            rw [e]
            simp! []
            refine WL_comp _ _ _ _ _ _ _ _ ?_
            simp! []
            have hm : ds = ds.map id := by simp
            refine ⟨by simp [sizeLine]; omega, ?_⟩
            rw [hm]
            refine LTurns_map (g := fun d : D => .bl (rawD T d)) _ (fun d hd2 K k => ?_) ?_
            · unfold LTurn
              simp! [id_eq]
              simp only [D.deps] at hd
              have hdd : d.dep ≤ m := D.deps_le.mp (show D.deps ds ≤ m by omega) d hd2
              refine WCall_of _ (ih d n st hdd (by omega) (D.nbs_all.mp hb.2 d hd2)) ?_
              simp! []
              exact k
            simp! [boolsD_raw, List.map_id]
end
end Px
/-! A8: the law's raw values; functions, clauses, heads. -/
namespace Px
open PySem L2 Classical
def Tab.Uq (T : Tab) : Prop := (T.cs.map (·.w)).Nodup
theorem find_uq {cs : List Con} (h : (cs.map (·.w)).Nodup) {c : Con} (hc : c ∈ cs) : cs.find? (fun k => decide (k.w = c.w)) = some c := by
  induction cs with
  | nil => cases hc
  | cons k cs ih =>
    simp only [List.map_cons, List.nodup_cons] at h
    rw [List.find?_cons]
    rcases List.mem_cons.mp hc with rfl | hc
    · simp
    · have : ¬ k.w = c.w := fun e => h.1 (e ▸ List.mem_map.mpr ⟨c, hc, rfl⟩)
      rw [decide_eq_false this]
      exact ih h.2 hc
theorem Tab.find_uq {T : Tab} (h : T.Uq) {c : Con} (hc : c ∈ T.cs) {w : Str} (e : c.w = w) : T.find w = some c := by subst e; exact Px.find_uq h hc
section
variable {tbl : Str → Option DefM}
theorem lraw_ok (B : TblA tbl) {T : Tab} (hT : T.Ok) (hU : T.Uq) : ∀ (m : Nat) (d : D) (n : Nat) (st : Sto), d.dep ≤ m → m + 2 ≤ n → d.nb = true → D.sml d → runF tbl n "_law_is_raw" [T.d, d] st = some (.bl (rawD T d), st) := by
  have l100 := hT.1
  intro m
  induction m with
  | zero =>
    intro d n st hd hn hb hs
    obtain ⟨n, rfl⟩ : ∃ k, n = k + 1 := ⟨n - 1, by omega⟩
    refine WCall_val (WCall_run B.lraw rfl ?_)
    simp only [m__law_is_raw]
    cases d with
    | tup ds => simp only [D.dep] at hd; omega
    | lst ds => simp only [D.dep] at hd; omega
    | non => simp! [isIn_non_t, rawD]
    | int i => simp! [isIn_int_t, rawD]
    | str x => simp! [isIn_str_t, rawD]
    | bl b => simp [D.nb] at hb
    | dic b _ => simp [D.nb] at hb
    | hdl b => simp [D.nb] at hb
    | scr b => simp [D.nb] at hb
  | succ m ih =>
    intro d n st hd hn hb hs
    obtain ⟨n, rfl⟩ : ∃ k, n = k + 1 := ⟨n - 1, by omega⟩
    refine WCall_val (WCall_run B.lraw rfl ?_)
    simp only [m__law_is_raw]
    cases d with
    | lst ds => simp! [isIn_lst_t, rawD]
    | non => simp! [isIn_non_t, rawD]
    | int i => simp! [isIn_int_t, rawD]
    | str x => simp! [isIn_str_t, rawD]
    | bl b => simp [D.nb] at hb
    | dic b _ => simp [D.nb] at hb
    | hdl b => simp [D.nb] at hb
    | scr b => simp [D.nb] at hb
    | tup ds =>
      rw [rawD_tup]
      simp only [D.nb] at hb
      simp only [D.dep] at hd
      simp! []
      cases ds with
      | nil =>
        simp! []
        refine WIf_pos (by simp) ?_
        simp! [rawTop]
      | cons d ds =>
        simp only [D.nbs, Bool.and_eq_true] at hb
        cases hs with
        | tup hsl hss =>
        simp! []
        refine WIf_neg (by simp; omega) ?_
        simp! []
        cases d with
        | non => simp! [rawTop]
        | int i => simp! [rawTop]
        | lst l => simp! [isIn_lst_s, rawTop]
        | tup l => simp! [rawTop]
        | bl b => simp [D.nb] at hb
        | dic b _ => simp [D.nb] at hb
        | hdl b => simp [D.nb] at hb
        | scr b => simp [D.nb] at hb
        | str w =>
          simp only [List.length_cons] at hsl
          simp! []
          refine WL_comp _ _ _ _ _ _ _ _ ?_
          simp! [Tab.d]
          refine ⟨by simp [sizeLine]; omega, ?_⟩
          simp! []
          refine LTurns_filter (p := fun c : Con => decide (c.w = w ∧ c.ps.length = ds.length)) (g := Con.d) _ (fun k hk K kk => ?_) ?_
          · unfold LTurn
            simp! [Con.d]
            refine WIf_dec (fun h => ?_) fun h => ?_
            · simp! [List.length_map]
              refine WIf_dec (fun h2 => ?_) fun h2 => ?_
              · simp! []
                have h3 : k.ps.length = ds.length := by omega
                rw [decide_eq_true ⟨h, h3⟩, if_pos rfl] at kk
                exact kk
              · simp! []
                have h3 : ¬ k.ps.length = ds.length := by omega
                rw [decide_eq_false (fun z => h3 z.2), if_neg nofun] at kk
                exact kk
            · simp! []
              rw [decide_eq_false (fun z => h z.1), if_neg nofun] at kk
              exact kk
          simp! [List.length_map]
          refine WIf_dec (fun h => ?_) fun h => ?_
          rotate_left
          · have : rawTop T (.str w :: ds) = false := by
              simp only [rawTop]
              cases hc : T.find w with
              | none => rfl
              | some c =>
                simp only
                have hm := Tab.find_mem hc
                by_cases hl : c.ps.length = ds.length
                · exfalso
                  apply h
                  have : c ∈ T.cs.filter fun c : Con => decide (c.w = w ∧ c.ps.length = ds.length) := List.mem_filter.mpr ⟨hm.1, by simp [hm.2, hl]⟩
                  have := List.length_pos_of_mem this
                  omega
                · rw [decide_eq_false hl]; rfl
            rw [this]
            simp! []
          have hpos : 0 < (T.cs.filter fun c : Con => decide (c.w = w ∧ c.ps.length = ds.length)).length := by omega
          obtain ⟨c, hcm⟩ := List.exists_mem_of_length_pos hpos
          have hcm := List.mem_filter.mp hcm
          have hcw := of_decide_eq_true hcm.2
          have hc := Tab.find_uq hU hcm.1 hcw.1
          have l3 := (hT.2 c hcm.1).len
          have e : rawTop T (.str w :: ds) = rawDs T ds := by
            simp only [rawTop, hc]
            rw [decide_eq_true hcw.2]; rfl
          rw [e]
          simp! []
          refine WL_comp _ _ _ _ _ _ _ _ ?_
          simp! []
          have hm : ds = ds.map id := by simp
          refine ⟨by simp [sizeLine]; omega, ?_⟩
          rw [hm]
          refine LTurns_map (g := fun d : D => .bl (rawD T d)) _ (fun d hd2 K k => ?_) ?_
          · unfold LTurn
            simp! [id_eq]
            simp only [D.deps] at hd
            have hdd : d.dep ≤ m := D.deps_le.mp (show D.deps ds ≤ m by omega) d hd2
            refine WCall_of _ (ih d n st hdd (by omega) (D.nbs_all.mp hb.2 d hd2) (hss d (List.mem_cons_of_mem _ hd2))) ?_
            simp! []
            exact k
          simp! [boolsD_raw, List.map_id]
def funO : Option Fun → D
  | some f => f.d
  | none => .non
def ffind (fs : List Fun) (w : Str) : Option Fun := fs.find? fun c => decide (c.w = w)
theorem ffind_mem {fs : List Fun} {w : Str} {c : Fun} (h : ffind fs w = some c) : c ∈ fs ∧ c.w = w :=
  ⟨List.mem_of_find?_eq_some h, of_decide_eq_true (List.find?_some (p := fun c : Fun => decide (c.w = w)) h)⟩
theorem function_loop {c : CallF} (T : D) (w : Str) (st : Sto) (Q : Fl → ES → Prop) : ∀ (cs : List Fun) (x : Sl),
    (∀ k, ffind cs w = some k → ∀ S, S.st = st → Q (.rt k.d) S) → (ffind cs w = none → ∀ x, Q .nx ⟨[.val T, .val (.str w), x], st⟩) →
    FTurns c (.v 2) l_function_of_1 (cs.map Fun.d) ⟨[.val T, .val (.str w), x], st⟩ Q
  | [], x, hs, hn => hn rfl x
  | k :: cs, x, hs, hn => by
    simp only [List.map_cons, FTurns]
    simp! [l_function_of_1, Fun.d]
    refine WIf_dec (fun h => ?_) fun h => ?_
    · simp! []
      exact hs k (by simp [ffind, h]) _ rfl
    · simp! []
      refine function_loop T w st Q cs _ (fun k' e => hs k' ?_) (fun e => hn ?_)
      · unfold ffind at *; rw [List.find?_cons, decide_eq_false h]; exact e
      · unfold ffind at *; rw [List.find?_cons, decide_eq_false h]; exact e
theorem function_ok (B : TblA tbl) {n : Nat} (h1 : 1 ≤ n) (fs : List Fun) (w : Str) (st : Sto) : runF tbl n "function_of" [progD fs, .str w] st = some (funO (ffind fs w), st) := by
  obtain ⟨n, rfl⟩ := Nat.exists_eq_add_of_le' h1
  refine WCall_val (WCall_run B.fn rfl ?_)
  simp only [m_function_of]
  simp! [progD]
  refine WS_for _ _ _ _ _ _ ?_
  simp! []
  refine function_loop _ w st _ fs _ (fun k e S hS => ?_) fun e x => ?_
  · rw [e]
    simp! [funO, hS]
  · rw [e]
    simp! [funO]
/-- a clause's patterns -/
structure PatOk (T : Tab) (m : Nat) (ps : List Tm) : Prop where
  len : ps.length = m
  w : ∀ p ∈ ps, p.W T.okC
  sz : Tm.szs ps ≤ sizeLine
noncomputable def clAt (vs : List Tm) : List (List Tm × Tm) → Option Nat
  | [] => none
  | c :: cs => if (takL c.1 vs []).isSome then some 0 else (clAt vs cs).map (· + 1)
def clO (k : Nat) : Option Nat → D
  | some i => .int ((k + i : Nat) : Int)
  | none => .int (-1)
theorem asgO_isNon (o : Option Asg) : isNon (asgO o) = !o.isSome := by cases o <;> rfl
theorem deref_asgO (st : Sto) (o : Option Asg) : deref st (asgO o) = asgO o := by cases o <;> rfl
theorem clause_loop {n : Nat} (B : TblA tbl) (hn : 1 ≤ n) (F : D) (vs : List Tm) (st : Sto) (Q : Fl → ES → Prop) (hv : ∀ v ∈ vs, v.Tree) : ∀ (cs : List (List Tm × Tm)) (k : Nat) (x y : Sl), (∀ c ∈ cs, Tm.szs c.1 ≤ sizeLine) →
    (∀ i, clAt vs cs = some i → ∀ S, S.st = st → Q (.rt (.int ((k + i : Nat) : Int))) S) → (clAt vs cs = none → ∀ x y, Q .nx ⟨[.val F, .val (.tup (vs.map Tm.d)), x, y], st⟩) →
    FTurns (runF tbl n) (.tup (.cons (.v 2) (.cons (.v 3) .nil))) l_clause_for_1 (enumD k (cs.map clD)) ⟨[.val F, .val (.tup (vs.map Tm.d)), x, y], st⟩ Q
  | [], k, x, y, hc, hs, hn' => hn' rfl x y
  | c :: cs, k, x, y, hc, hs, hn' => by
    simp only [List.map_cons, enumD, FTurns]
    simp! [l_clause_for_1, clD]
    refine WCall_of _ (taken_ok B.taken hn c.1 vs st (hc c List.mem_cons_self) hv) ?_
    simp! [asgO_isNon, deref_asgO, Bool.not_not]
    cases h : (takL c.1 vs []).isSome with
    | true =>
      simp! []
      exact hs 0 (by simp only [clAt, h, if_true]) _ rfl
    | false =>
      simp! []
      refine clause_loop B hn F vs st Q hv cs (k + 1) _ _ (fun c h => hc c (List.mem_cons_of_mem _ h)) (fun i e S hS => ?_) (fun e => hn' ?_)
      · have := hs (i + 1) (by simp [clAt, h, e]) S hS
        have e2 : k + (i + 1) = k + 1 + i := by omega
        rw [e2] at this
        exact this
      · simp [clAt, h, e]
theorem clause_ok (B : TblA tbl) {n : Nat} (hn : 2 ≤ n) (f : Fun) (vs : List Tm) (st : Sto) (hv : ∀ v ∈ vs, v.Tree) (hc : ∀ c ∈ f.cls, Tm.szs c.1 ≤ sizeLine) :
    runF tbl n "clause_for" [f.d, .tup (vs.map Tm.d)] st = some (clO 0 (clAt vs f.cls), st) := by
  obtain ⟨n, rfl⟩ : ∃ k, n = k + 1 := ⟨n - 1, by omega⟩
  refine WCall_val (WCall_run B.cl rfl ?_)
  simp only [m_clause_for]
  simp! [Fun.d]
  refine WS_for _ _ _ _ _ _ ?_
  simp! []
  refine clause_loop B (by omega) _ vs st _ hv f.cls 0 _ _ hc (fun i e S hS => ?_) fun e x y => ?_
  · rw [e]
    simp! [clO, hS]
  · rw [e]
    simp! [clO]
end
end Px
/-! A9: the law's clauses; heads; what bodies come to. -/
namespace Px
open PySem L2 Classical
section
variable {tbl : Str → Option DefM}
theorem lclause_loop {n : Nat} (B : TblA tbl) (hn : 1 ≤ n) {T : Tab} (hT : T.Ok) (f : Fun) (vs : List Tm) (st : Sto) (Q : Fl → ES → Prop) (hv : ∀ v ∈ vs, v.W T.okC ∧ v.Tree) (hc : ∀ c ∈ f.cls, PatOk T vs.length c.1) : ∀ (m i : Nat) (x : Sl), i + m = f.cls.length →
    (∀ j, clAt vs (f.cls.drop i) = some j → ∀ S, S.st = st → Q (.rt (.int ((i + j : Nat) : Int))) S) → (clAt vs (f.cls.drop i) = none → ∀ x, Q .nx ⟨[.val f.d, .val (.tup (vs.map Tm.d)), x], st⟩) →
    FTurns (runF tbl n) (.v 2) l__law_clause_1 ((List.range' i m).map fun i : Nat => D.int (0 + i)) ⟨[.val f.d, .val (.tup (vs.map Tm.d)), x], st⟩ Q
  | 0, i, x, hl, hs, hn' => by
    have : f.cls.drop i = [] := List.drop_of_length_le (by omega)
    rw [this] at hn'
    exact hn' rfl x
  | m + 1, i, x, hl, hs, hn' => by
    have hi : i < f.cls.length := by omega
    have e : f.cls.drop i = f.cls[i] :: f.cls.drop (i + 1) := List.drop_eq_getElem_cons hi
    have hp := hc f.cls[i] (List.getElem_mem hi)
    rw [List.range'_succ]
    simp only [List.map_cons, FTurns]
    have e0 : (0 : Int) + (i : Int) = ((i : Nat) : Int) := by omega
    rw [e0]
    simp! [l__law_clause_1, Fun.d, atI_nat, List.getElem?_map, List.getElem?_eq_getElem hi, clD]
    refine WCall_of _ (ltaken_ok B.ltaken (Tab.okC_fn hT) hn f.cls[i].1 vs st hp.len hp.sz hp.w hv) ?_
    simp! [asgO_isNon, deref_asgO, Bool.not_not]
    cases h : (takL f.cls[i].1 vs []).isSome with
    | true =>
      simp! []
      exact hs 0 (by rw [e]; simp only [clAt, h, if_true]) _ rfl
    | false =>
      simp! []
      refine lclause_loop B hn hT f vs st Q hv hc m (i + 1) _ (by omega) (fun j e2 S hS => ?_) (fun e2 => hn' ?_)
      · have := hs (j + 1) (by rw [e]; simp [clAt, h, e2]) S hS
        have e3 : i + (j + 1) = i + 1 + j := by omega
        rw [e3] at this
        exact this
      · rw [e]; simp [clAt, h, e2]
theorem lclause_ok (B : TblA tbl) {n : Nat} (hn : 2 ≤ n) {T : Tab} (hT : T.Ok) (f : Fun) (vs : List Tm) (st : Sto) (hl : f.cls.length ≤ 1000) (hv : ∀ v ∈ vs, v.W T.okC ∧ v.Tree) (hc : ∀ c ∈ f.cls, PatOk T vs.length c.1) :
    runF tbl n "_law_clause" [f.d, .tup (vs.map Tm.d)] st = some (clO 0 (clAt vs f.cls), st) := by
  obtain ⟨n, rfl⟩ : ∃ k, n = k + 1 := ⟨n - 1, by omega⟩
  refine WCall_val (WCall_run B.lcl rfl ?_)
  simp only [m__law_clause]
  simp! [Fun.d]
  refine WS_for _ _ _ _ _ _ ?_
  simp! [List.length_map]
  rw [if_pos (rng_bound (by unfold sizeLine; omega))]
  simp! [rngD_eq, Int.toNat_natCast, List.range_eq_range']
  refine lclause_loop B (by omega) hT f vs st _ hv hc f.cls.length 0 _ (by omega) (fun i e S hS => ?_) fun e x => ?_
  · rw [List.drop_zero] at e
    rw [e]
    simp! [clO, hS]
  · rw [List.drop_zero] at e
    rw [e]
    simp! [clO]
/-! ### heads -/
/-- terms of parts, the index, the word of a fault -/
noncomputable def hdO (T : Tab) (fs : List Fun) (w : Str) : Option (List Tm × Tm × Str) := match T.find w with
  | some c => some (c.ps.map (·.2), c.ix, "make")
  | none => (ffind fs w).map fun f => (f.ps.map (·.2), f.ix, "demand")
def hdD (h : List Tm × Tm × Str) : D := .tup [.lst (h.1.map Tm.d), h.2.1.d, .str h.2.2]
structure FunOk (f : Fun) : Prop where
  ps : PsOk f.ps
  wix : f.ix.W okI
  dix : f.ix.dep ≤ 1
  has : ∀ x, f.ix.Has x → ∃ p ∈ f.ps, p.2.Has x
theorem Con.Ok.psOk {c : Con} (h : c.Ok) : PsOk c.ps := ⟨h.len, h.wps⟩
theorem head_ok (B : TblA tbl) {n : Nat} (hn : 2 ≤ n) {T : Tab} (hT : T.Ok) (fs : List Fun) (hf : ∀ f ∈ fs, FunOk f) (w : Str) (st : Sto) (h : List Tm × Tm × Str) (e : hdO T fs w = some h) :
    runF tbl n "head_of" [T.d, progD fs, .str w] st = some (hdD h, st) := by
  obtain ⟨n, rfl⟩ : ∃ k, n = k + 1 := ⟨n - 1, by omega⟩
  refine WCall_val (WCall_run B.hd rfl ?_)
  simp only [m_head_of]
  simp! []
  refine WCall_of _ (constructor_ok B.con (by omega) T w st) ?_
  cases hc : T.find w with
  | some c =>
    have l3 := (hT.2 c (Tab.find_mem hc).1).len
    simp only [hdO, hc, Option.some.injEq] at e
    subst e
    simp! [conO_some]
    refine WL_comp _ _ _ _ _ _ _ _ ?_
    simp! []
    refine ⟨by simp [sizeLine]; omega, LTurns_map (g := fun p : Str × Tm => p.2.d) _ (fun v hv K k => ?_) ?_⟩
    · unfold LTurn
      simp! [prD]
      exact k
    simp! [tms_map, hdD]
  | none =>
    simp only [hdO, hc] at e
    obtain ⟨f, hff, rfl⟩ := Option.map_eq_some_iff.mp e
    have l3 := (hf f (ffind_mem hff).1).ps.len
    simp! [conO_none]
    refine WCall_of _ (function_ok B (by omega) fs w st) ?_
    rw [hff]
    simp! [funO, Fun.d]
    refine WL_comp _ _ _ _ _ _ _ _ ?_
    simp! []
    refine ⟨by simp [sizeLine]; omega, LTurns_map (g := fun p : Str × Tm => p.2.d) _ (fun v hv K k => ?_) ?_⟩
    · unfold LTurn
      simp! [prD]
      exact k
    simp! [tms_map, hdD]
theorem lhead_loop {c : CallF} (T : D) (P : D) (w : Str) (st : Sto) (Q : Fl → ES → Prop) : ∀ (cs : List Con) (x : Sl), (∀ c ∈ cs, c.ps.length ≤ 3) →
    (∀ k, cs.find? (fun c => decide (c.w = w)) = some k → ∀ S, S.st = st → Q (.rt (hdD (k.ps.map (·.2), k.ix, "make"))) S) → (cs.find? (fun c => decide (c.w = w)) = none → ∀ x, Q .nx ⟨[.val T, .val P, .val (.str w), x, .no, .no], st⟩) →
    FTurns c (.v 3) l__law_head_1 (cs.map Con.d) ⟨[.val T, .val P, .val (.str w), x, .no, .no], st⟩ Q
  | [], x, _, hs, hn => hn rfl x
  | k :: cs, x, hl, hs, hn => by
    simp only [List.map_cons, FTurns]
    simp! [l__law_head_1, Con.d]
    have l3 := hl k List.mem_cons_self
    refine WIf_dec (fun h => ?_) fun h => ?_
    · simp! []
      refine WL_comp _ _ _ _ _ _ _ _ ?_
      simp! []
      refine ⟨by simp [sizeLine]; omega, LTurns_map (g := fun p : Str × Tm => p.2.d) _ (fun v hv K k => ?_) ?_⟩
      · unfold LTurn
        simp! [prD]
        exact k
      simp! [tms_map]
      exact hs k (by simp [h]) _ rfl
    · simp! []
      refine lhead_loop T P w st Q cs _ (fun c h => hl c (List.mem_cons_of_mem _ h)) (fun k' e => hs k' ?_) (fun e => hn ?_)
      · rw [List.find?_cons, decide_eq_false h]; exact e
      · rw [List.find?_cons, decide_eq_false h]; exact e
theorem ffilter_first {fs : List Fun} {w : Str} {c : Fun} (h : ffind fs w = some c) : ∃ l, (fs.filter fun c => decide (c.w = w)) = c :: l := by
  have h2 : (fs.filter fun c => decide (c.w = w)).head? = some c := by rw [List.head?_filter]; exact h
  cases e : fs.filter fun c => decide (c.w = w) with
  | nil => rw [e] at h2; cases h2
  | cons a l => rw [e] at h2; cases h2; exact ⟨l, rfl⟩
theorem lhead_ok (B : TblA tbl) {n : Nat} (hn : 1 ≤ n) {T : Tab} (hT : T.Ok) (fs : List Fun) (hf : ∀ f ∈ fs, FunOk f) (hl : fs.length ≤ 1000) (w : Str) (st : Sto) (h : List Tm × Tm × Str) (e : hdO T fs w = some h) :
    runF tbl n "_law_head" [T.d, progD fs, .str w] st = some (hdD h, st) := by
  obtain ⟨n, rfl⟩ : ∃ k, n = k + 1 := ⟨n - 1, by omega⟩
  refine WCall_val (WCall_run B.lhd rfl ?_)
  simp only [m__law_head]
  simp! [Tab.d]
  refine WS_for _ _ _ _ _ _ ?_
  simp! []
  refine lhead_loop _ _ w st _ T.cs _ (fun c hc => (hT.2 c hc).len) (fun k ek S hS => ?_) fun en x => ?_
  · have hc : T.find w = some k := ek
    simp only [hdO, hc, Option.some.injEq] at e
    subst e
    simp! [hS]
  · have hc : T.find w = none := en
    simp only [hdO, hc] at e
    obtain ⟨f, hff, rfl⟩ := Option.map_eq_some_iff.mp e
    have l3 := (hf f (ffind_mem hff).1).ps.len
    simp! []
    refine WL_comp _ _ _ _ _ _ _ _ ?_
    simp! [progD]
    refine ⟨by simp [sizeLine]; omega, ?_⟩
    simp! []
    refine LTurns_filter (p := fun c : Fun => decide (c.w = w)) (g := Fun.d) _ (fun k hk K kk => ?_) ?_
    · unfold LTurn
      simp! [Fun.d]
      refine WIf_dec (fun h => ?_) fun h => ?_
      · simp! []
        rw [decide_eq_true h, if_pos rfl] at kk
        exact kk
      · simp! []
        rw [decide_eq_false h, if_neg nofun] at kk
        exact kk
    obtain ⟨l, el⟩ := ffilter_first hff
    rw [el]
    simp! [Fun.d]
    refine WL_comp _ _ _ _ _ _ _ _ ?_
    simp! []
    refine ⟨by simp [sizeLine]; omega, LTurns_map (g := fun p : Str × Tm => p.2.d) _ (fun v hv K k => ?_) ?_⟩
    · unfold LTurn
      simp! [prD]
      exact k
    simp! [tms_map, hdD]
/-! ### what a body comes to -/
inductive Rk where
  | ix (t : Tm) | bad (w : Str) (way : List Int)
def Rk.d : Rk → D
  | .ix t => .tup [.str "index", t.d]
  | .bad w way => .tup [.str w, .tup (way.map D.int)]
mutual
noncomputable def rk (T : Tab) (fs : List Fun) (a : Asg) : Tm → List Int → Rk
  | .nm x, _ => match a.get x with
    | some t => .ix t
    | none => .bad "" []
  | .ap w es, way => match rks T fs a es 0 way with
    | .inr b => b
    | .inl ts => match hdO T fs w with
      | some h => match fitL h.1 ts [] with
        | some b => .ix (h.2.1.put b.get)
        | none => .bad h.2.2 way
      | none => .bad "" []
noncomputable def rks (T : Tab) (fs : List Fun) (a : Asg) : List Tm → Nat → List Int → List Tm ⊕ Rk
  | [], _, _ => .inl []
  | e :: es, k, way => match rk T fs a e (way ++ [(k : Int)]) with
    | .bad w y => .inr (.bad w y)
    | .ix t => match rks T fs a es (k + 1) way with
      | .inl ts => .inl (t :: ts)
      | .inr b => .inr b
end
structure HdOk (h : List Tm × Tm × Str) : Prop where
  len : h.1.length ≤ 3
  wps : ∀ p ∈ h.1, p.W okI ∧ p.dep ≤ 2 ∧ p.sz ≤ 100
  wix : h.2.1.W okI
  dix : h.2.1.dep ≤ 1
  has : ∀ x, h.2.1.Has x → ∃ p ∈ h.1, p.Has x
  wd : h.2.2 = "make" ∨ h.2.2 = "demand"
theorem hd_ok {T : Tab} (hT : T.Ok) {fs : List Fun} (hf : ∀ f ∈ fs, FunOk f) {w : Str} {h : List Tm × Tm × Str} (e : hdO T fs w = some h) : HdOk h := by
  unfold hdO at e
  cases hc : T.find w with
  | some c =>
    rw [hc] at e
    cases e
    have q := hT.2 c (Tab.find_mem hc).1
    refine ⟨by simpa using q.len, fun p hp => ?_, q.wix, q.dix, fun x hx => ?_, .inl rfl⟩
    · obtain ⟨r, hr, rfl⟩ := List.mem_map.mp hp; exact q.wps r hr
    · obtain ⟨r, hr, k⟩ := q.has x hx; exact ⟨_, List.mem_map.mpr ⟨r, hr, rfl⟩, k⟩
  | none =>
    rw [hc] at e
    obtain ⟨f, hff, rfl⟩ := Option.map_eq_some_iff.mp e
    have q := hf f (ffind_mem hff).1
    refine ⟨by simpa using q.ps.len, fun p hp => ?_, q.wix, q.dix, fun x hx => ?_, .inr rfl⟩
    · obtain ⟨r, hr, rfl⟩ := List.mem_map.mp hp; exact q.ps.wps r hr
    · obtain ⟨r, hr, k⟩ := q.has x hx; exact ⟨_, List.mem_map.mpr ⟨r, hr, rfl⟩, k⟩
theorem HdOk.made {h : List Tm × Tm × Str} (hh : HdOk h) {ts : List Tm} {m : Nat} (ht : ∀ t ∈ ts, IxOk m t) (hl : h.1.length = ts.length) {a : Asg} (e : fitL h.1 ts [] = some a) :
    Cov h.2.1 a ∧ IxOk (m + 1) (h.2.1.put a.get) := by
  have h1 := fitL_prop (P := IxOk m) (fun w ts h => h.sub) _ _ _ _ e ht (fun x u h => by simp [Asg.get] at h)
  obtain ⟨_, h2⟩ := fitL_cov okI_fn _ _ _ _ e (by omega) (fun p hp => (hh.wps p hp).1) (fun t h => (ht t h).w)
  have cov : Cov h.2.1 a := fun x hx => by
    obtain ⟨p, hp, k⟩ := hh.has x hx
    exact h2 p hp x k
  refine ⟨cov, hh.wix.put fun x u h => (h1 x u h).w, Tm.put_tree cov fun x u h => (h1 x u h).tree, ?_⟩
  have := Tm.put_dep (a := a.get) (m := m) (fun x u h => (h1 x u h).dep) h.2.1
  have := hh.dix
  omega
/-- a body's makers: constructors and functions with their numbers of parts -/
def okB (T : Tab) (fs : List Fun) (w : Str) (n : Nat) : Prop := ∃ h, hdO T fs w = some h ∧ h.1.length = n
mutual
theorem rk_ix {T : Tab} (hT : T.Ok) {fs : List Fun} (hf : ∀ f ∈ fs, FunOk f) {a : Asg} {m : Nat} (ha : ∀ x u, a.get x = some u → IxOk m u) : ∀ (e : Tm) (way : List Int) (t : Tm), e.W (okB T fs) → rk T fs a e way = .ix t → IxOk (m + e.dep) t
  | .nm x, way, t, hw, e => by
    simp only [rk] at e
    cases h : a.get x with
    | none => rw [h] at e; cases e
    | some u => rw [h] at e; cases e; simpa [Tm.dep] using ha x _ h
  | .ap w es, way, t, hw, e => by
    obtain ⟨⟨h, hh, hl⟩, hws⟩ := W_sub hw
    simp only [rk] at e
    cases h1 : rks T fs a es 0 way with
    | inr b =>
      rw [h1] at e
      simp only at e
      exact (rks_bad es 0 way b h1 t e).elim
    | inl ts =>
      rw [h1] at e
      simp only [hh] at e
      cases h3 : fitL h.1 ts [] with
      | none => rw [h3] at e; cases e
      | some b =>
        rw [h3] at e
        cases e
        obtain ⟨q1, q2⟩ := rks_ix hT hf ha es 0 way ts hws h1
        have := ((hd_ok hT hf hh).made q2 (by omega) h3).2
        simpa [Tm.dep, Nat.add_assoc] using this
theorem rks_ix {T : Tab} (hT : T.Ok) {fs : List Fun} (hf : ∀ f ∈ fs, FunOk f) {a : Asg} {m : Nat} (ha : ∀ x u, a.get x = some u → IxOk m u) : ∀ (es : List Tm) (k : Nat) (way : List Int) (ts : List Tm), (∀ e ∈ es, e.W (okB T fs)) → rks T fs a es k way = .inl ts → ts.length = es.length ∧ ∀ t ∈ ts, IxOk (m + Tm.deps es) t
  | [], k, way, ts, hw, e => by simp only [rks] at e; cases e; exact ⟨rfl, fun _ h => nomatch h⟩
  | e :: es, k, way, ts, hw, h => by
    simp only [rks] at h
    cases h1 : rk T fs a e (way ++ [(k : Int)]) with
    | bad w y => rw [h1] at h; cases h
    | ix t =>
      rw [h1] at h
      simp only at h
      cases h2 : rks T fs a es (k + 1) way with
      | inr b => rw [h2] at h; cases h
      | inl us =>
        rw [h2] at h
        cases h
        have q1 := rk_ix hT hf ha e _ t (hw e List.mem_cons_self) h1
        obtain ⟨q2, q3⟩ := rks_ix hT hf ha es (k + 1) way us (fun u hu => hw u (List.mem_cons_of_mem _ hu)) h2
        refine ⟨by simp [q2], fun u hu => ?_⟩
        rcases List.mem_cons.mp hu with rfl | hu
        · exact ⟨q1.w, q1.tree, by have := q1.dep; simp only [Tm.deps]; omega⟩
        · have q := q3 u hu
          exact ⟨q.w, q.tree, by have := q.dep; simp only [Tm.deps]; omega⟩
theorem rks_bad {T : Tab} {fs : List Fun} {a : Asg} : ∀ (es : List Tm) (k : Nat) (way : List Int) (b : Rk), rks T fs a es k way = .inr b → ∀ t, b = .ix t → False
  | [], k, way, b, h, t, e => by simp only [rks] at h; cases h
  | e :: es, k, way, b, h, t, eq => by
    simp only [rks] at h
    cases h1 : rk T fs a e (way ++ [(k : Int)]) with
    | bad w y => rw [h1] at h; cases h; cases eq
    | ix t2 =>
      rw [h1] at h
      simp only at h
      cases h2 : rks T fs a es (k + 1) way with
      | inr b2 => rw [h2] at h; cases h; exact rks_bad es (k + 1) way _ h2 t eq
      | inl us => rw [h2] at h; cases h
end
end
end Px
/-! A10: reckoned. -/
namespace Px
open PySem L2 Classical
theorem str_ne {a b : String} (h : a ≠ b) : ¬ (Str.ofString a = Str.ofString b) := fun e => h (ofString_inj.mp e)
def Rk.NI : Rk → Prop
  | .ix _ => True
  | .bad w _ => ¬ (w = Str.ofString "index")
mutual
theorem rk_ni {T : Tab} (hT : T.Ok) {fs : List Fun} (hf : ∀ f ∈ fs, FunOk f) {a : Asg} : ∀ (e : Tm) (way : List Int), (rk T fs a e way).NI
  | .nm x, way => by
    simp only [rk]
    cases a.get x with
    | none => exact str_ne (by decide)
    | some t => exact True.intro
  | .ap w es, way => by
    simp only [rk]
    cases h1 : rks T fs a es 0 way with
    | inr b => exact rks_ni hT hf es 0 way b h1
    | inl ts =>
      simp only
      cases hh : hdO T fs w with
      | none => exact str_ne (by decide)
      | some h =>
        simp only
        cases fitL h.1 ts [] with
        | some b => exact True.intro
        | none =>
          rcases (hd_ok hT hf hh).wd with e | e
          · simp only [e]; exact str_ne (by decide)
          · simp only [e]; exact str_ne (by decide)
theorem rks_ni {T : Tab} (hT : T.Ok) {fs : List Fun} (hf : ∀ f ∈ fs, FunOk f) {a : Asg} : ∀ (es : List Tm) (k : Nat) (way : List Int) (b : Rk), rks T fs a es k way = .inr b → b.NI
  | [], k, way, b, h => by simp only [rks] at h; cases h
  | e :: es, k, way, b, h => by
    simp only [rks] at h
    have q := rk_ni hT hf (a := a) e (way ++ [(k : Int)])
    cases h1 : rk T fs a e (way ++ [(k : Int)]) with
    | bad w y => rw [h1] at h q; cases h; exact q
    | ix t2 =>
      rw [h1] at h
      simp only at h
      cases h2 : rks T fs a es (k + 1) way with
      | inr b2 => rw [h2] at h; cases h; exact rks_ni hT hf es (k + 1) way _ h2
      | inl us => rw [h2] at h; cases h
end
section
variable {tbl : Str → Option DefM}
theorem rk_d_ix (t : Tm) : (Rk.ix t).d = .tup [.str "index", t.d] := rfl
theorem rk_d_bad (w : Str) (y : List Int) : (Rk.bad w y).d = .tup [.str w, .tup (y.map D.int)] := rfl
theorem reck_loop {c : CallF} {T : Tab} (hT : T.Ok) {fs : List Fun} (hf : ∀ f ∈ fs, FunOk f) (p2 : D) (a : Asg) (way : List Int) (st : Sto) (Q : Fl → ES → Prop) (hw : way.length ≤ 1000) : ∀ (es : List Tm) (k : Nat) (acc : List Tm) (x7 x8 x9 : Sl), acc.length + es.length ≤ 1000 →
    (∀ e ∈ es, ∀ k : Nat, c "reckoned" [T.d, progD fs, e.d, a.d, .tup ((way ++ [(k : Int)]).map D.int)] st = some ((rk T fs a e (way ++ [(k : Int)])).d, st)) →
    (∀ b, rks T fs a es k way = .inr b → ∀ S, S.st = st → Q (.rt b.d) S) →
    (∀ ts, rks T fs a es k way = .inl ts → ∀ x7 x8 x9, Q .nx ⟨[.val T.d, .val (progD fs), .val p2, .val a.d, .val (.tup (way.map D.int)), .own (.lst ((acc ++ ts).map Tm.d)), .no, x7, x8, x9, .no, .no, .no], st⟩) →
    FTurns c (.tup (.cons (.v 7) (.cons (.v 8) .nil))) l_reckoned_1 (enumD k (es.map Tm.d)) ⟨[.val T.d, .val (progD fs), .val p2, .val a.d, .val (.tup (way.map D.int)), .own (.lst (acc.map Tm.d)), .no, x7, x8, x9, .no, .no, .no], st⟩ Q
  | [], k, acc, x7, x8, x9, hl, hc, hb, hs => by
    have := hs [] (by simp only [rks]) x7 x8 x9
    rw [List.append_nil] at this
    exact this
  | e :: es, k, acc, x7, x8, x9, hl, hc, hb, hs => by
    simp only [List.map_cons, enumD, FTurns]
    simp only [List.length_cons] at hl
    simp! [l_reckoned_1, List.length_map]
    rw [if_pos (by unfold sizeLine; omega)]
    have e1 : way.map D.int ++ [D.int (k : Int)] = (way ++ [(k : Int)]).map D.int := by simp
    simp! []
    rw [e1]
    refine WCall_of _ (hc e List.mem_cons_self k) ?_
    have ni := rk_ni hT hf (a := a) e (way ++ [(k : Int)])
    cases h1 : rk T fs a e (way ++ [(k : Int)]) with
    | bad w y =>
      rw [h1] at ni
      simp! [rk_d_bad]
      refine WIf_neg (decide_eq_false ni) ?_
      simp! []
      have := hb (.bad w y) (by simp only [rks, h1]) 
      exact this _ rfl
    | ix t =>
      simp! [rk_d_ix, List.length_map]
      refine ⟨by unfold sizeLine; omega, ?_⟩
      have e2 : acc.map Tm.d ++ [t.d] = (acc ++ [t]).map Tm.d := by simp
      simp! []
      rw [e2]
      refine reck_loop hT hf p2 a way st Q hw es (k + 1) (acc ++ [t]) _ _ _ (by simp; omega) (fun e h => hc e (List.mem_cons_of_mem _ h)) (fun b h => hb b ?_) (fun ts h => ?_)
      · simp only [rks, h1, h]
      · have := hs (t :: ts) (by simp only [rks, h1, h])
        simpa [List.append_assoc] using this
theorem reck_ok (B : TblA tbl) {T : Tab} (hT : T.Ok) {fs : List Fun} (hf : ∀ f ∈ fs, FunOk f) {a : Asg} {m : Nat} (ha : ∀ x u, a.get x = some u → IxOk m u) : ∀ (e : Tm) (n : Nat) (way : List Int) (st : Sto), e.dep + 3 ≤ n → m + e.dep ≤ 100 → way.length + e.dep ≤ 1000 → e.W (okB T fs) → Cov e a →
    runF tbl n "reckoned" [T.d, progD fs, e.d, a.d, .tup (way.map D.int)] st = some ((rk T fs a e way).d, st) := by
  intro e
  induction e using Tm.ind with
  | nm x =>
    intro n way st hn h100 hway hw hc
    obtain ⟨n, rfl⟩ : ∃ k, n = k + 1 := ⟨n - 1, by omega⟩
    refine WCall_val (WCall_run B.rk rfl ?_)
    simp only [m_reckoned]
    simp! []
    have := hc x .nm
    cases e : a.get x with
    | none => rw [e] at this; cases this
    | some u => simp! [e, Option.map_some, rk, rk_d_ix]
  | ap w es ih =>
    intro n way st hn h100 hway hw hc
    obtain ⟨⟨h, hh, hl⟩, hws⟩ := W_sub hw
    have hd := hd_ok hT hf hh
    have l3 := hd.len
    have des : ∀ v ∈ es, v.dep + 1 ≤ (Tm.ap w es).dep := fun v hv => Tm.dep_mem hv
    obtain ⟨n, rfl⟩ : ∃ k, n = k + 1 := ⟨n - 1, by omega⟩
    refine WCall_val (WCall_run B.rk rfl ?_)
    simp only [m_reckoned]
    simp! []
    refine WS_for _ _ _ _ _ _ ?_
    simp! []
    have hloop := reck_loop (c := runF tbl n) hT hf (Tm.ap w es).d a way st
    simp! [] at hloop
    refine hloop _ (by omega) es 0 [] _ _ _ (by simp; omega) (fun e he k => ?_) (fun b hb S hS => ?_) (fun ts hts x7 x8 x9 => ?_)
    · have q := ih e he n (way ++ [(k : Int)]) st (by have := des e he; omega) (by have := des e he; omega) (by have := des e he; simp; omega) (hws e he) (fun x hx => hc x (.ap he hx))
      simp! [] at q
      exact q
    · have : rk T fs a (.ap w es) way = b := by simp only [rk, hb]
      rw [this]
      simp! [hS]
    · obtain ⟨q1, q2⟩ := rks_ix hT hf ha es 0 way ts hws hts
      simp! []
      refine WCall_of _ (head_ok B (by omega) hT fs hf w st h hh) ?_
      simp! [hdD]
      simp only [Tm.dep] at h100 hn
      refine WCall_of _ (fitted_ok B.fitted (by omega) _ _ st ?_ fun t ht => ?_) ?_
      · have := szs_le (ps := h.1) (n := 100) fun p hp => (hd.wps p hp).2.2
        unfold sizeLine
        omega
      · have := (q2 t ht).dep
        omega
      cases ef : fitL h.1 ts [] with
      | none =>
        have : rk T fs a (.ap w es) way = .bad h.2.2 way := by simp only [rk, hts, hh, ef]
        rw [this]
        simp! [asgO, rk_d_bad]
      | some b =>
        have : rk T fs a (.ap w es) way = .ix (h.2.1.put b.get) := by simp only [rk, hts, hh, ef]
        rw [this]
        simp! [asgO]
        have dix := hd.dix
        refine WCall_of _ (put_ok B.put (ok := okI) okI_fn.2 n h.2.1 b st (by omega) hd.wix) ?_
        simp! [rk_d_ix]
theorem lreck_loop {c : CallF} {T : Tab} (hT : T.Ok) {fs : List Fun} (hf : ∀ f ∈ fs, FunOk f) (w : Str) (es : List Tm) (a : Asg) (way : List Int) (st : Sto) (Q : Fl → ES → Prop) (hw : way.length ≤ 1000) (hl : es.length ≤ 500)
    (hc : ∀ e ∈ es, ∀ k : Nat, c "_law_reckoned" [T.d, progD fs, e.d, a.d, .tup ((way ++ [(k : Int)]).map D.int)] st = some ((rk T fs a e (way ++ [(k : Int)])).d, st)) : ∀ (m k : Nat) (acc : List Tm) (x7 x8 : Sl), acc.length = k → k + m = es.length →
    (∀ b, rks T fs a (es.drop k) k way = .inr b → ∀ S, S.st = st → Q (.rt b.d) S) →
    (∀ ts, rks T fs a (es.drop k) k way = .inl ts → ∀ x7 x8, Q .nx ⟨[.val T.d, .val (progD fs), .val (.tup (.str w :: es.map Tm.d)), .val a.d, .val (.tup (way.map D.int)), .own (.lst ((acc ++ ts).map Tm.d)), x7, .no, x8, .no, .no, .no], st⟩) →
    FTurns c (.v 6) l__law_reckoned_1 ((List.range' k m).map fun i : Nat => D.int (1 + i)) ⟨[.val T.d, .val (progD fs), .val (.tup (.str w :: es.map Tm.d)), .val a.d, .val (.tup (way.map D.int)), .own (.lst (acc.map Tm.d)), x7, .no, x8, .no, .no, .no], st⟩ Q
  | 0, k, acc, x7, x8, ha, hk, hb, hs => by
    have : es.drop k = [] := List.drop_of_length_le (by omega)
    rw [this] at hs
    have := hs [] (by simp only [rks]) x7 x8
    rw [List.append_nil] at this
    exact this
  | m + 1, k, acc, x7, x8, ha, hk, hb, hs => by
    have hi : k < es.length := by omega
    have e0 : es.drop k = es[k] :: es.drop (k + 1) := List.drop_eq_getElem_cons hi
    rw [List.range'_succ]
    simp only [List.map_cons, FTurns]
    have el : elT es k = es[k].d := by simp [elT, hi]
    simp! [l__law_reckoned_1, atI_int_cons hi, el, List.length_map]
    rw [if_pos (by unfold sizeLine; omega)]
    have e1 : way.map D.int ++ [D.int (1 + (k : Int) - 1)] = (way ++ [(k : Int)]).map D.int := by
      have : 1 + (k : Int) - 1 = k := by omega
      simp [this]
    simp! []
    rw [e1]
    refine WCall_of _ (hc es[k] (List.getElem_mem hi) k) ?_
    have ni := rk_ni hT hf (a := a) es[k] (way ++ [(k : Int)])
    cases h1 : rk T fs a es[k] (way ++ [(k : Int)]) with
    | bad w y =>
      rw [h1] at ni
      simp! [rk_d_bad]
      refine WIf_neg (decide_eq_false ni) ?_
      simp! []
      have := hb (.bad w y) (by rw [e0]; simp only [rks, h1]) 
      exact this _ rfl
    | ix t =>
      simp! [rk_d_ix, List.length_map]
      refine ⟨by unfold sizeLine; omega, ?_⟩
      have e2 : acc.map Tm.d ++ [t.d] = (acc ++ [t]).map Tm.d := by simp
      simp! []
      rw [e2]
      refine lreck_loop hT hf w es a way st Q hw hl hc m (k + 1) (acc ++ [t]) _ _ (by simp; omega) (by omega) (fun b h => hb b ?_) (fun ts h => ?_)
      · rw [e0]; simp only [rks, h1, h]
      · have := hs (t :: ts) (by rw [e0]; simp only [rks, h1, h])
        simpa [List.append_assoc] using this
theorem lreck_ok (B : TblA tbl) {T : Tab} (hT : T.Ok) {fs : List Fun} (hf : ∀ f ∈ fs, FunOk f) (hfl : fs.length ≤ 1000) {a : Asg} {m : Nat} (ha : ∀ x u, a.get x = some u → IxOk m u) : ∀ (e : Tm) (n : Nat) (way : List Int) (st : Sto), e.dep + 3 ≤ n → m + e.dep ≤ 100 → way.length + e.dep ≤ 1000 → e.W (okB T fs) → Cov e a →
    runF tbl n "_law_reckoned" [T.d, progD fs, e.d, a.d, .tup (way.map D.int)] st = some ((rk T fs a e way).d, st) := by
  intro e
  induction e using Tm.ind with
  | nm x =>
    intro n way st hn h100 hway hw hc
    obtain ⟨n, rfl⟩ : ∃ k, n = k + 1 := ⟨n - 1, by omega⟩
    refine WCall_val (WCall_run B.lrk rfl ?_)
    simp only [m__law_reckoned]
    simp! []
    have := hc x .nm
    cases e : a.get x with
    | none => rw [e] at this; cases this
    | some u => simp! [e, Option.map_some, rk, rk_d_ix]
  | ap w es ih =>
    intro n way st hn h100 hway hw hc
    obtain ⟨⟨h, hh, hl⟩, hws⟩ := W_sub hw
    have hd := hd_ok hT hf hh
    have l3 := hd.len
    have des : ∀ v ∈ es, v.dep + 1 ≤ (Tm.ap w es).dep := fun v hv => Tm.dep_mem hv
    obtain ⟨n, rfl⟩ : ∃ k, n = k + 1 := ⟨n - 1, by omega⟩
    refine WCall_val (WCall_run B.lrk rfl ?_)
    simp only [m__law_reckoned]
    simp! []
    refine WS_for _ _ _ _ _ _ ?_
    refine WI_rng2 _ _ _ _ _ ?_
    simp! [List.length_map]
    rw [if_pos (by constructor <;> omega)]
    have e1 : (((es.length + 1 : Nat) : Int) - 1).toNat = es.length := by omega
    simp! [rngD_eq, e1, List.range_eq_range']
    have hloop := lreck_loop (c := runF tbl n) hT hf w es a way st
    simp! [] at hloop
    refine hloop _ (by omega) (by omega) (fun e he k => ?_) es.length 0 [] _ _ (by simp) (by omega) (fun b hb S hS => ?_) (fun ts hts x7 x8 => ?_)
    · have q := ih e he n (way ++ [(k : Int)]) st (by have := des e he; omega) (by have := des e he; omega) (by have := des e he; simp; omega) (hws e he) (fun x hx => hc x (.ap he hx))
      simp! [] at q
      exact q
    · rw [List.drop_zero] at hb
      have : rk T fs a (.ap w es) way = b := by simp only [rk, hb]
      rw [this]
      simp! [hS]
    · rw [List.drop_zero] at hts
      obtain ⟨q1, q2⟩ := rks_ix hT hf ha es 0 way ts hws hts
      simp! []
      refine WCall_of _ (lhead_ok B (by omega) hT fs hf hfl w st h hh) ?_
      simp! [hdD]
      simp only [Tm.dep] at h100 hn
      refine WCall_of _ (lfit_ok B.lfit okI_fn (by omega) _ _ st (by omega) ?_ (fun p hp => (hd.wps p hp).1) fun t ht => ?_) ?_
      · have := szs_le (ps := h.1) (n := 100) fun p hp => (hd.wps p hp).2.2
        unfold sizeLine
        omega
      · have q := q2 t ht
        have q3 := q.dep
        exact ⟨by omega, q.w, q.tree⟩
      cases ef : fitL h.1 ts [] with
      | none =>
        have : rk T fs a (.ap w es) way = .bad h.2.2 way := by simp only [rk, hts, hh, ef]
        rw [this]
        simp! [asgO, rk_d_bad]
      | some b =>
        have : rk T fs a (.ap w es) way = .ix (h.2.1.put b.get) := by simp only [rk, hts, hh, ef]
        rw [this]
        simp! [asgO]
        have dix := hd.dix
        have cov := (hd.made q2 (by omega) ef).1
        refine WCall_of _ (lput_ok B.lput (ok := okI) okI_fn.2 n h.2.1 b st (by omega) hd.wix cov) ?_
        simp! [rk_d_ix]
end
end Px
/-! A11: told. -/
namespace Px
open PySem L2 Classical
/-! ### what taking brings -/
mutual
theorem takT_prop {P : Tm → Prop} (hP : ∀ w ts, P (.ap w ts) → ∀ t ∈ ts, P t) : ∀ (p t : Tm) (a b : Asg), takT p t a = some b → P t → (∀ q ∈ a, P q.2) → ∀ q ∈ b, P q.2
  | .nm z, t, a, b, e, ht, ha, q, hq => by
    simp only [takT] at e
    cases e
    unfold Asg.set at hq
    split at hq
    · obtain ⟨r, hr, rfl⟩ := List.mem_map.mp hq
      split
      · exact ht
      · exact ha r hr
    · rcases List.mem_append.mp hq with hq | hq
      · exact ha q hq
      · simp only [List.mem_singleton] at hq; subst hq; exact ht
  | .ap w ps, .nm _, a, b, e, ht, ha, q, hq => by simp [takT] at e
  | .ap w ps, .ap v ts, a, b, e, ht, ha, q, hq => by
    simp only [takT] at e
    split at e
    · exact takL_prop hP ps ts a b e (hP v ts ht) ha q hq
    · cases e
theorem takL_prop {P : Tm → Prop} (hP : ∀ w ts, P (.ap w ts) → ∀ t ∈ ts, P t) : ∀ (ps ts : List Tm) (a b : Asg), takL ps ts a = some b → (∀ t ∈ ts, P t) → (∀ q ∈ a, P q.2) → ∀ q ∈ b, P q.2
  | [], ts, a, b, e, ht, ha, q, hq => by simp only [takL] at e; cases e; exact ha q hq
  | _ :: _, [], a, b, e, ht, ha, q, hq => by simp only [takL] at e; cases e; exact ha q hq
  | p :: ps, t :: ts, a, b, e, ht, ha, q, hq => by
    simp only [takL] at e
    obtain ⟨c, e1, e2⟩ := Option.bind_eq_some_iff.mp e
    exact takT_prop hP p t c b e2 (ht t List.mem_cons_self) (takL_prop hP ps ts a c e1 (fun u h => ht u (List.mem_cons_of_mem _ h)) ha) q hq
end
mutual
theorem takT_cov {ok : Str → Nat → Prop} (hok : Fn1 ok) : ∀ (p t : Tm) (a b : Asg), takT p t a = some b → p.W ok → t.W ok → (∀ x, (a.get x).isSome = true → (b.get x).isSome = true) ∧ ∀ x, p.Has x → (b.get x).isSome = true
  | .nm z, t, a, b, e, _, _ => by
    simp only [takT] at e
    cases e
    refine ⟨fun x hx => ?_, fun x hx => ?_⟩
    · rw [Asg.get_set]; split
      · rfl
      · exact hx
    · cases hx
      rw [Asg.get_set, if_pos rfl]; rfl
  | .ap w ps, .nm _, a, b, e, _, _ => by simp [takT] at e
  | .ap w ps, .ap v ts, a, b, e, hp, ht => by
    simp only [takT] at e
    split at e
    · rename_i h
      subst h
      cases hp with
      | ap l1 k1 =>
      cases ht with
      | ap l2 k2 =>
      have := hok.1 _ _ _ l1 l2
      obtain ⟨h1, h2⟩ := takL_cov hok ps ts a b e (by omega) k1 k2
      exact ⟨h1, fun x hx => by cases hx with | ap hm hk => exact h2 _ hm x hk⟩
    · cases e
theorem takL_cov {ok : Str → Nat → Prop} (hok : Fn1 ok) : ∀ (ps ts : List Tm) (a b : Asg), takL ps ts a = some b → ps.length ≤ ts.length → (∀ p ∈ ps, p.W ok) → (∀ t ∈ ts, t.W ok) → (∀ x, (a.get x).isSome = true → (b.get x).isSome = true) ∧ ∀ p ∈ ps, ∀ x, p.Has x → (b.get x).isSome = true
  | [], ts, a, b, e, _, _, _ => by simp only [takL] at e; cases e; exact ⟨fun _ h => h, fun _ h => nomatch h⟩
  | _ :: _, [], a, b, e, hl, _, _ => by simp at hl
  | p :: ps, t :: ts, a, b, e, hl, hp, ht => by
    simp only [takL] at e
    obtain ⟨c, e1, e2⟩ := Option.bind_eq_some_iff.mp e
    obtain ⟨h1, h2⟩ := takL_cov hok ps ts a c e1 (by simpa using hl) (fun q h => hp q (List.mem_cons_of_mem _ h)) (fun q h => ht q (List.mem_cons_of_mem _ h))
    obtain ⟨h3, h4⟩ := takT_cov hok p t c b e2 (hp p List.mem_cons_self) (ht t List.mem_cons_self)
    refine ⟨fun x hx => h3 x (h1 x hx), fun q hq x hx => ?_⟩
    rcases List.mem_cons.mp hq with rfl | hq
    · exact h4 x hx
    · exact h3 x (h2 q hq x hx)
end
/-- each name once, at most so many -/
def Asg.Nd (a : Asg) : Prop := (a.map (·.1)).Nodup
theorem Asg.Nd.set {a : Asg} (h : a.Nd) (x : Str) (t : Tm) : (a.set x t).Nd := by
  unfold Asg.Nd at *
  unfold Asg.set
  split
  · have : (a.map fun p => if p.1 = x then (p.1, t) else p).map (·.1) = a.map (·.1) := by
      rw [List.map_map]
      apply List.map_congr_left
      intro p _
      simp only [Function.comp]
      split <;> rfl
    rw [this]; exact h
  · rename_i hn
    rw [List.map_append, List.nodup_append]
    refine ⟨h, by simp, fun y hy z hz => ?_⟩
    simp only [List.map_cons, List.map_nil, List.mem_singleton] at hz
    subst hz
    intro e
    subst e
    obtain ⟨p, hp, rfl⟩ := List.mem_map.mp hy
    apply hn
    exact List.any_eq_true.mpr ⟨p, hp, by simp⟩
mutual
theorem takT_nd : ∀ (p t : Tm) (a b : Asg), takT p t a = some b → a.Nd → b.Nd ∧ b.length ≤ a.length + p.sz
  | .nm z, t, a, b, e, h => by
    simp only [takT] at e; cases e
    exact ⟨h.set z t, by have := a.length_set z t; simp only [Tm.sz]; exact this⟩
  | .ap w ps, .nm _, a, b, e, h => by simp [takT] at e
  | .ap w ps, .ap v ts, a, b, e, h => by
    simp only [takT] at e
    split at e
    · obtain ⟨h1, h2⟩ := takL_nd ps ts a b e h
      exact ⟨h1, by simp only [Tm.sz]; omega⟩
    · cases e
theorem takL_nd : ∀ (ps ts : List Tm) (a b : Asg), takL ps ts a = some b → a.Nd → b.Nd ∧ b.length ≤ a.length + Tm.szs ps
  | [], ts, a, b, e, h => by simp only [takL] at e; cases e; exact ⟨h, by simp⟩
  | _ :: _, [], a, b, e, h => by simp only [takL] at e; cases e; exact ⟨h, by omega⟩
  | p :: ps, t :: ts, a, b, e, h => by
    simp only [takL] at e
    obtain ⟨c, e1, e2⟩ := Option.bind_eq_some_iff.mp e
    obtain ⟨h1, h2⟩ := takL_nd ps ts a c e1 h
    obtain ⟨h3, h4⟩ := takT_nd p t c b e2 h1
    exact ⟨h3, by simp only [Tm.szs]; omega⟩
end
theorem Asg.Nd.get {a : Asg} (h : a.Nd) {p : Str × Tm} (hp : p ∈ a) : a.get p.1 = some p.2 := by
  unfold Asg.Nd at h
  unfold Asg.get
  induction a with
  | nil => cases hp
  | cons q a ih =>
    simp only [List.map_cons, List.nodup_cons] at h
    rw [List.find?_cons]
    rcases List.mem_cons.mp hp with rfl | hp
    · simp
    · have : ¬ q.1 = p.1 := fun e => h.1 (e ▸ List.mem_map.mpr ⟨p, hp, rfl⟩)
      rw [decide_eq_false this]
      exact ih h.2 hp
theorem Asg.get_mem {a : Asg} {x : Str} {u : Tm} (h : a.get x = some u) : (x, u) ∈ a := by
  unfold Asg.get at h
  obtain ⟨p, hp, rfl⟩ := Option.map_eq_some_iff.mp h
  have h1 := List.mem_of_find?_eq_some hp
  have h2 := of_decide_eq_true (List.find?_some (p := fun p : Str × Tm => decide (p.1 = x)) hp)
  subst h2
  exact h1
/-- the trees of the values that names stand for -/
noncomputable def ixv (T : Tab) (v : Tm) : Tm := match idx T v with
  | some p => p.2
  | none => .nm ""
noncomputable def trs (T : Tab) : Asg → Asg → Asg
  | [], acc => acc
  | p :: a, acc => trs T a (acc.set p.1 (ixv T p.2))
theorem trs_prop {T : Tab} {P : Tm → Prop} : ∀ (a acc : Asg), (∀ q ∈ a, P (ixv T q.2)) → (∀ x u, acc.get x = some u → P u) → ∀ x u, (trs T a acc).get x = some u → P u
  | [], acc, _, ha, x, u, h => ha x u h
  | p :: a, acc, hq, ha, x, u, h => trs_prop a _ (fun q hm => hq q (List.mem_cons_of_mem _ hm)) (fun y v hv => by
      rw [Asg.get_set] at hv
      split at hv
      · cases hv; exact hq p List.mem_cons_self
      · exact ha y v hv) x u h
theorem trs_cov {T : Tab} : ∀ (a acc : Asg) (x : Str), ((acc.get x).isSome = true ∨ (a.get x).isSome = true) → ((trs T a acc).get x).isSome = true
  | [], acc, x, h => by
    rcases h with h | h
    · exact h
    · simp [Asg.get] at h
  | p :: a, acc, x, h => by
    refine trs_cov a _ x ?_
    rw [Asg.get_set]
    by_cases e : p.1 = x
    · left; rw [if_pos e]; rfl
    · rw [if_neg e]
      rcases h with h | h
      · exact .inl h
      · right
        unfold Asg.get at h ⊢
        rw [List.find?_cons, decide_eq_false e] at h
        exact h
/-- a value with an index -/
structure Vi (T : Tab) (v : Tm) : Prop where
  some : (idx T v).isSome = true
  ok : ValOk T v
  dep : v.dep ≤ 50
theorem idxs_some {T : Tab} : ∀ {vs : List Tm}, (idxs T vs).isSome = true → ∀ v ∈ vs, (idx T v).isSome = true
  | [], _, v, h => nomatch h
  | u :: us, h, v, hv => by
    simp only [idxs] at h
    cases h1 : idx T u with
    | none => rw [h1] at h; simp at h
    | some p =>
      cases h2 : idxs T us with
      | none => rw [h1, h2] at h; simp at h
      | some ps =>
        rcases List.mem_cons.mp hv with rfl | hv
        · rw [h1]; rfl
        · exact idxs_some (by rw [h2]; rfl) v hv
theorem Vi.sub {T : Tab} (w : Str) (ts : List Tm) (h : Vi T (.ap w ts)) : ∀ t ∈ ts, Vi T t := fun t ht => by
  have hd := Tm.dep_mem (w := w) ht
  refine ⟨?_, ⟨(W_sub h.ok.w).2 t ht, fun x hx => h.ok.tree x (.ap ht hx), by have := h.ok.dep; omega⟩, by have := h.dep; omega⟩
  have hs := h.some
  simp only [idx] at hs
  cases h1 : T.find w with
  | none => rw [h1] at hs; simp at hs
  | some c =>
    cases h2 : idxs T ts with
    | none => rw [h1, h2] at hs; simp at hs
    | some fs => exact idxs_some (by rw [h2]; rfl) t ht
structure FullFun (T : Tab) (fs : List Fun) (f : Fun) : Prop where
  ok : FunOk f
  len : f.cls.length ≤ 1000
  pat : ∀ c ∈ f.cls, PatOk T f.ps.length c.1
  body : ∀ c ∈ f.cls, c.2.W (okB T fs) ∧ c.2.dep ≤ 20
  has : ∀ c ∈ f.cls, ∀ x, c.2.Has x → ∃ p ∈ c.1, p.Has x
theorem clAt_get {vs : List Tm} : ∀ {cs : List (List Tm × Tm)} {i : Nat}, clAt vs cs = some i → ∃ c, cs[i]? = some c ∧ c ∈ cs ∧ (takL c.1 vs []).isSome = true
  | [], i, h => by simp [clAt] at h
  | c :: cs, i, h => by
    simp only [clAt] at h
    split at h
    · rename_i hc
      cases h
      exact ⟨c, rfl, List.mem_cons_self, hc⟩
    · obtain ⟨j, hj, rfl⟩ := Option.map_eq_some_iff.mp h
      obtain ⟨d, h1, h2, h3⟩ := clAt_get hj
      exact ⟨d, by simpa using h1, List.mem_cons_of_mem _ h2, h3⟩
/-- what is told -/
noncomputable def toldM (T : Tab) (fs : List Fun) (f : Fun) (vs : List Tm) (a : Asg) : Option (Str × List Int) := match clAt vs f.cls with
  | none => some ("hole", [])
  | some i => match f.cls[i]? with
    | none => none
    | some c => match rk T fs (trs T ((takL c.1 vs []).getD []) []) c.2 [] with
      | .bad w y => some (w, y)
      | .ix t => if t = f.ix.put a.get then none else some ("result", [])
def toldD : Option (Str × List Int) → D
  | none => .non
  | some (w, y) => .tup [.str w, .tup (y.map D.int)]
section
variable {tbl : Str → Option DefM}
theorem ixv_ok {T : Tab} (hT : T.Ok) {v : Tm} (h : Vi T v) : ∃ p, idx T v = some p ∧ ixv T v = p.2 ∧ IxOk 50 p.2 := by
  cases e : idx T v with
  | none => have := h.some; rw [e] at this; cases this
  | some p =>
    have q := idx_ok hT e
    exact ⟨p, rfl, by simp only [ixv, e], q.w, q.tree, by have := q.dep; have := h.dep; omega⟩
theorem items_map (a : Asg) : zipD ((a.kv.map (·.1)).map dKey) (a.kv.map (·.2)) = a.map prD := by
  unfold Asg.kv
  induction a with
  | nil => rfl
  | cons p a ih => simp only [List.map_cons, zipD] at ih ⊢; rw [ih]; rfl
theorem told_trees {c : CallF} {T : Tab} (hc : ∀ v, Vi T v → ∀ st, c "index_of" [T.d, v.d] st = some (pO (idx T v), st)) (hT : T.Ok) (s1 s2 s3 s4 s5 s6 s7 s8 s9 s10 : Sl) (st : Sto) : ∀ (a acc : Asg) (Q : List (Key × D) → ES → Prop), (∀ q ∈ a, Vi T q.2) →
    Q (trs T a acc).kv ⟨[.val T.d, s1, s2, s3, s4, s5, s6, s7, s8, s9, .no, .no], st⟩ →
    DTurns c (.var 10) (.idx (.e (.call "index_of" (.cons (.var 0) (.cons (.var 11) .nil)))) (.int 1)) (.tup (.cons (.v 10) (.cons (.v 11) .nil))) [10, 11] (a.map prD) acc.kv ⟨[.val T.d, s1, s2, s3, s4, s5, s6, s7, s8, s9, .no, .no], st⟩ Q
  | [], acc, Q, _, q => q
  | p :: a, acc, Q, hv, q => by
    simp only [List.map_cons, DTurns]
    obtain ⟨r, h1, h2, h3⟩ := ixv_ok hT (hv p List.mem_cons_self)
    simp! [prD]
    refine WCall_of _ (hc p.2 (hv p List.mem_cons_self) st) ?_
    rw [h1]
    simp! [pO_some, Asg.putD]
    refine told_trees hc hT s1 s2 s3 s4 s5 s6 s7 s8 s9 s10 st a _ Q (fun q h => hv q (List.mem_cons_of_mem _ h)) ?_
    rw [← h2]
    exact q
theorem dep_deps {vs : List Tm} {m : Nat} (h : ∀ v ∈ vs, v.dep ≤ m) : Tm.deps vs ≤ m := Tm.deps_le.mpr h
theorem told_ok (B : TblA tbl) {T : Tab} (hT : T.Ok) {fs : List Fun} (hf : ∀ f ∈ fs, FunOk f) (w : Str) (f : Fun) (hff : ffind fs w = some f) (hF : FullFun T fs f) (vs : List Tm) (hl : vs.length = f.ps.length) (hv : ∀ v ∈ vs, Vi T v) (a : Asg) (hd : dem T f.ps vs = some a) (n : Nat) (hn : 60 ≤ n) (st : Sto) (ha : ∀ x u, a.get x = some u → u.dep ≤ 50) :
    runF tbl n "told" [T.d, progD fs, .str w, .tup (vs.map Tm.d)] st = some (toldD (toldM T fs f vs a), st) := by
  obtain ⟨n, rfl⟩ : ∃ k, n = k + 1 := ⟨n - 1, by omega⟩
  refine WCall_val (WCall_run B.told rfl ?_)
  simp only [m_told]
  have l3 := hF.ok.ps.len
  simp! []
  refine WCall_of _ (function_ok B (by omega) fs w st) ?_
  rw [hff]
  simp! [funO]
  have hszs : ∀ c ∈ f.cls, Tm.szs c.1 ≤ sizeLine := fun c h => (hF.pat c h).sz
  refine WCall_of _ (clause_ok B (by omega) f vs st (fun v h => (hv v h).ok.tree) hszs) ?_
  cases hcl : clAt vs f.cls with
  | none =>
    have : toldM T fs f vs a = some (Str.ofString "hole", []) := by simp only [toldM, hcl]
    rw [this]
    simp! [clO, toldD]
  | some i =>
    obtain ⟨c, hci, hcm, hct⟩ := clAt_get hcl
    obtain ⟨av, hav⟩ := Option.isSome_iff_exists.mp hct
    have hp := hF.pat c hcm
    have hvi : ∀ q ∈ av, Vi T q.2 := takL_prop (P := Vi T) (fun w ts h => h.sub) _ _ _ _ hav hv (fun q h => nomatch h)
    obtain ⟨nd, avl⟩ := takL_nd c.1 vs [] av hav List.nodup_nil
    have hsz := hp.sz
    have e0 : (0 : Nat) + i = i := by omega
    simp! [clO]
    simp! [Fun.d, atI_nat, List.getElem?_map, e0, hci, Option.map_some, clD]
    refine WCall_of _ (taken_ok B.taken (by omega) c.1 vs st hp.sz fun v h => (hv v h).ok.tree) ?_
    rw [hav]
    simp! [asgO_some]
    refine WD_comp _ _ _ _ _ _ _ _ ?_
    simp! [items_map]
    refine ⟨by rw [List.length_map]; have h0 : ([] : Asg).length = 0 := rfl; omega, ?_⟩
    simp! []
    have hidx : ∀ v, Vi T v → ∀ st, runF tbl n "index_of" [T.d, v.d] st = some (pO (idx T v), st) := fun v q st => index_ok B hT v n st (by have := q.dep; omega) (by have := q.dep; omega) q.ok.w q.ok.tree
    refine told_trees hidx hT _ _ _ _ _ _ _ _ _ (.no) st av [] _ hvi ?_
    simp! []
    obtain ⟨n2, rfl⟩ : ∃ k, n = k + 1 := ⟨n - 1, by omega⟩
    have hrk : runF tbl (n2 + 1) "told_index" [T.d, progD fs, .str w, .int (i : Int), (trs T av []).d] st = some ((rk T fs (trs T av []) c.2 []).d, st) := by
      refine WCall_val (WCall_run B.ti rfl ?_)
      simp only [m_told_index]
      simp! []
      refine WCall_of _ (function_ok B (by omega) fs w st) ?_
      rw [hff]
      simp! [funO, Fun.d, atI_nat, List.getElem?_map, hci, Option.map_some, clD]
      have hb := hF.body c hcm
      have q := reck_ok B hT hf (a := trs T av []) (m := 50) (trs_prop av [] (fun q h => by
          obtain ⟨r, h1, h2, h3⟩ := ixv_ok hT (hvi q h)
          rw [h2]; exact h3) (fun x u h => by simp [Asg.get] at h)) c.2 n2 [] st (by omega) (by omega) (by simp; omega) hb.1 (fun x hx => ?_)
      · simp! [] at q
        refine WCall_of _ q ?_
        simp! []
      · refine trs_cov av [] x (.inr ?_)
        obtain ⟨p, hpm, hpx⟩ := hF.has c hcm x hx
        exact (takL_cov (Tab.okC_fn hT) c.1 vs [] av hav (by rw [hp.len]; omega) hp.w (fun v h => (hv v h).ok.w)).2 p hpm x hpx
    simp! [] at hrk
    rw [e0]
    refine WCall_of _ hrk ?_
    have ni := rk_ni hT hf (a := trs T av []) c.2 []
    have ht : toldM T fs f vs a = match rk T fs (trs T av []) c.2 [] with
      | .bad w y => some (w, y)
      | .ix t => if t = f.ix.put a.get then none else some ("result", []) := by
      simp only [toldM, hcl, hci, hav, Option.getD_some]
    rw [ht]
    cases hr : rk T fs (trs T av []) c.2 [] with
    | bad w y =>
      rw [hr] at ni
      simp! [rk_d_bad]
      refine WIf_neg (decide_eq_false ni) ?_
      simp! [toldD]
    | ix t =>
      simp! [rk_d_ix, Fun.d]
      have qd := dem_ok B hT f hF.ok.ps vs (n2 + 1) st (by have := dep_deps fun v h => (hv v h).dep; omega) (by omega) (fun v h => (hv v h).ok)
      rw [hd] at qd
      simp! [asgO, Fun.d] at qd
      refine WCall_of _ qd ?_
      simp! []
      have dix := hF.ok.dix
      have qp := put_ok B.put (ok := okI) okI_fn.2 (n2 + 1) f.ix a st (by omega) hF.ok.wix
      simp! [] at qp
      refine WCall_of _ qp ?_
      have hdep := Tm.put_dep ha f.ix
      simp! [eqD_tm (t := t) (u := f.ix.put a.get) (.inr (by omega))]
      refine WIf_dec (fun e => ?_) fun e => ?_
      · simp! [if_pos e, toldD]
      · simp! [if_neg e, toldD]
end
end Px
/-! A12: the law's telling; what is accepted. -/
namespace Px
open PySem L2 Classical
section
variable {tbl : Str → Option DefM}
theorem toldM_isNon (o : Option (Str × List Int)) : isNon (toldD o) = o.isNone := by
  cases o with
  | none => rfl
  | some p => rfl
theorem deref_told (st : Sto) (o : Option (Str × List Int)) : deref st (toldD o) = toldD o := by
  cases o with
  | none => rfl
  | some p => rfl
theorem ltold_loop {c : CallF} {T : Tab} (hc : ∀ v, Vi T v → ∀ st, c "_law_index" [T.d, v.d] st = some (pO (idx T v), st)) (hT : T.Ok) (s1 s2 s3 s4 s5 s9 : Sl) (av : Asg) (st : Sto) (Q : Fl → ES → Prop) : ∀ (a acc : Asg) (x8 : Sl), (∀ q ∈ a, Vi T q.2 ∧ av.get q.1 = some q.2) → acc.length + a.length ≤ sizeLine →
    (∀ x8, Q .nx ⟨[.val T.d, s1, s2, s3, s4, s5, .val av.d, .own (.dic (trs T a acc).kv), x8, s9], st⟩) →
    FTurns c (.v 8) l__law_told_1 (a.map fun p => D.str p.1) ⟨[.val T.d, s1, s2, s3, s4, s5, .val av.d, .own (.dic acc.kv), x8, s9], st⟩ Q
  | [], acc, x8, _, _, q => q x8
  | p :: a, acc, x8, hv, hl, q => by
    simp only [List.map_cons, FTurns]
    obtain ⟨hvi, hg⟩ := hv p List.mem_cons_self
    obtain ⟨r, h1, h2, h3⟩ := ixv_ok hT hvi
    simp only [List.length_cons] at hl
    simp! [l__law_told_1, hg, Option.map_some]
    refine WCall_of _ (hc p.2 hvi st) ?_
    rw [h1]
    simp! [pO_some, Asg.putD, Asg.length_kv]
    refine ⟨by omega, ?_⟩
    simp! []
    have hs := acc.length_set p.1 (ixv T p.2)
    have hloop := ltold_loop hc hT s1 s2 s3 s4 s5 s9 av st Q a (acc.set p.1 (ixv T p.2)) (.val (.str p.1)) (fun q h => hv q (List.mem_cons_of_mem _ h)) (by omega) q
    rw [h2] at hloop
    simp! [] at hloop
    exact hloop
theorem keys_map (a : Asg) : (a.kv.map (·.1)).map dKey = a.map fun p => D.str p.1 := by
  unfold Asg.kv
  simp [dKey]
theorem ltold_ok (B : TblA tbl) {T : Tab} (hT : T.Ok) {fs : List Fun} (hf : ∀ f ∈ fs, FunOk f) (hfl : fs.length ≤ 1000) (f : Fun) (hF : FullFun T fs f) (vs : List Tm) (hl : vs.length = f.ps.length) (hv : ∀ v ∈ vs, Vi T v) (a : Asg) (n : Nat) (hn : 60 ≤ n) (st : Sto) (ha : ∀ x u, a.get x = some u → u.dep ≤ 50) (hcov : Cov f.ix a) :
    runF tbl n "_law_told" [T.d, progD fs, f.d, .tup (vs.map Tm.d), a.d] st = some (toldD (toldM T fs f vs a), st) := by
  obtain ⟨n, rfl⟩ : ∃ k, n = k + 1 := ⟨n - 1, by omega⟩
  refine WCall_val (WCall_run B.ltold rfl ?_)
  simp only [m__law_told]
  have l3 := hF.ok.ps.len
  simp! []
  refine WCall_of _ (lclause_ok B (by omega) hT f vs st hF.len (fun v h => ⟨(hv v h).ok.w, (hv v h).ok.tree⟩) (by rw [hl]; exact hF.pat)) ?_
  cases hcl : clAt vs f.cls with
  | none =>
    have : toldM T fs f vs a = some (Str.ofString "hole", []) := by simp only [toldM, hcl]
    rw [this]
    simp! [clO, toldD]
  | some i =>
    obtain ⟨c, hci, hcm, hct⟩ := clAt_get hcl
    obtain ⟨av, hav⟩ := Option.isSome_iff_exists.mp hct
    have hp := hF.pat c hcm
    have hvi : ∀ q ∈ av, Vi T q.2 := takL_prop (P := Vi T) (fun w ts h => h.sub) _ _ _ _ hav hv (fun q h => nomatch h)
    obtain ⟨nd, avl⟩ := takL_nd c.1 vs [] av hav List.nodup_nil
    have hsz := hp.sz
    have e0 : (0 : Nat) + i = i := by omega
    simp! [clO]
    simp! [Fun.d, atI_nat, List.getElem?_map, e0, hci, Option.map_some, clD]
    refine WCall_of _ (ltaken_ok B.ltaken (Tab.okC_fn hT) (by omega) c.1 vs st (by rw [hp.len, hl]) hp.sz hp.w fun v h => ⟨(hv v h).ok.w, (hv v h).ok.tree⟩) ?_
    rw [hav]
    simp! [asgO_some]
    refine WS_for _ _ _ _ _ _ ?_
    simp! [keys_map]
    have hidx : ∀ v, Vi T v → ∀ st, runF tbl n "_law_index" [T.d, v.d] st = some (pO (idx T v), st) := fun v q st => lindex_ok B hT v n st (by have := q.dep; omega) (by have := q.dep; omega) q.ok.w q.ok.tree
    have h0 : ([] : Asg).length = 0 := rfl
    have hloop := ltold_loop (c := runF tbl n) hidx hT
    simp! [] at hloop
    refine hloop _ _ _ _ _ _ av st _ av [] _ (fun q h => ⟨hvi q h, nd.get h⟩) (by omega) fun x8 => ?_
    simp! [Fun.d, atI_nat, List.getElem?_map, e0, hci, Option.map_some, clD]
    have hb := hF.body c hcm
    have q := lreck_ok B hT hf hfl (a := trs T av []) (m := 50) (trs_prop av [] (fun q h => by
        obtain ⟨r, h1, h2, h3⟩ := ixv_ok hT (hvi q h)
        rw [h2]; exact h3) (fun x u h => by simp [Asg.get] at h)) c.2 n [] st (by omega) (by omega) (by simp; omega) hb.1 (fun x hx => by
      refine trs_cov av [] x (.inr ?_)
      obtain ⟨p, hpm, hpx⟩ := hF.has c hcm x hx
      exact (takL_cov (Tab.okC_fn hT) c.1 vs [] av hav (by rw [hp.len]; omega) hp.w (fun v h => (hv v h).ok.w)).2 p hpm x hpx)
    simp! [] at q
    refine WCall_of _ q ?_
    have ni := rk_ni hT hf (a := trs T av []) c.2 []
    have ht : toldM T fs f vs a = match rk T fs (trs T av []) c.2 [] with
      | .bad w y => some (w, y)
      | .ix t => if t = f.ix.put a.get then none else some ("result", []) := by
      simp only [toldM, hcl, hci, hav, Option.getD_some] <;> rfl
    rw [ht]
    cases hr : rk T fs (trs T av []) c.2 [] with
    | bad w y =>
      rw [hr] at ni
      simp! [rk_d_bad]
      refine WIf_neg (decide_eq_false ni) ?_
      simp! [toldD]
    | ix t =>
      simp! [rk_d_ix, Fun.d]
      have dix := hF.ok.dix
      have qp := lput_ok B.lput (ok := okI) okI_fn.2 n f.ix a st (by omega) hF.ok.wix hcov
      simp! [] at qp
      refine WCall_of _ qp ?_
      have hdep := Tm.put_dep ha f.ix
      simp! [eqD_tm (t := t) (u := f.ix.put a.get) (.inr (by omega))]
      refine WIf_dec (fun e => ?_) fun e => ?_
      · simp! [if_pos e, toldD]
      · simp! [if_neg e, toldD]
/-- raw values are values -/
theorem raw_tm {T : Tab} : ∀ (m : Nat) (d : D), d.dep ≤ m → rawD T d = true → ∃ t : Tm, d = t.d ∧ t.W T.okC ∧ t.Tree ∧ t.dep ≤ m := by
  intro m
  induction m with
  | zero =>
    intro d hd hr
    cases d with
    | tup ds => simp only [D.dep] at hd; omega
    | _ => simp [rawD] at hr
  | succ m ih =>
    intro d hd hr
    cases d with
    | tup ds =>
      simp only [rawD] at hr
      simp only [D.dep] at hd
      cases ds with
      | nil => simp [rawTop] at hr
      | cons d ds =>
        cases d with
        | str w =>
          simp only [rawTop] at hr
          cases hc : T.find w with
          | none => rw [hc] at hr; simp at hr
          | some c =>
            rw [hc] at hr
            simp only [Bool.and_eq_true, decide_eq_true_eq] at hr
            have hall : ∀ d ∈ ds, d.dep ≤ m ∧ rawD T d = true := by
              have h1 : D.deps ds ≤ m := by simp only [D.deps] at hd; omega
              have h2 := hr.2
              clear hr hd hc
              induction ds with
              | nil => intro d h; cases h
              | cons e es ih2 =>
                simp only [D.deps] at h1
                simp only [rawDs, Bool.and_eq_true] at h2
                intro d h
                rcases List.mem_cons.mp h with rfl | h
                · exact ⟨by omega, h2.1⟩
                · exact ih2 (by omega) h2.2 d h
            have : ∃ ts : List Tm, ds = ts.map Tm.d ∧ ∀ t ∈ ts, t.W T.okC ∧ t.Tree ∧ t.dep ≤ m := by
              clear hr hd
              induction ds with
              | nil => exact ⟨[], rfl, fun _ h => nomatch h⟩
              | cons e es ih2 =>
                obtain ⟨ts, h1, h2⟩ := ih2 fun d h => hall d (List.mem_cons_of_mem _ h)
                obtain ⟨t, h3, h4⟩ := ih e (hall e List.mem_cons_self).1 (hall e List.mem_cons_self).2
                refine ⟨t :: ts, by rw [h1, h3]; rfl, fun u hu => ?_⟩
                rcases List.mem_cons.mp hu with rfl | hu
                · exact h4
                · exact h2 u hu
            obtain ⟨ts, rfl, hts⟩ := this
            refine ⟨.ap w ts, by rw [Tm.d_ap], .ap ⟨c, hc, by simpa using hr.1⟩ (fun t h => (hts t h).1), fun x hx => ?_, Tm.dep_ap.mpr fun t h => (hts t h).2.2⟩
            cases hx with
            | ap hm hk => exact (hts _ hm).2.1 x hk
        | _ => simp [rawTop] at hr
    | _ => simp [rawD] at hr
theorem raws_tm {T : Tab} {m : Nat} : ∀ {ds : List D}, D.deps ds ≤ m → rawDs T ds = true → ∃ ts : List Tm, ds = ts.map Tm.d ∧ ∀ t ∈ ts, t.W T.okC ∧ t.Tree ∧ t.dep ≤ m
  | [], _, _ => ⟨[], rfl, fun _ h => nomatch h⟩
  | e :: es, h1, h2 => by
    simp only [D.deps] at h1
    simp only [rawDs, Bool.and_eq_true] at h2
    obtain ⟨t, h3, h4⟩ := raw_tm m e (by omega) h2.1
    obtain ⟨ts, h5, h6⟩ := raws_tm (m := m) (ds := es) (by omega) h2.2
    refine ⟨t :: ts, by rw [h5, h3]; rfl, fun u hu => ?_⟩
    rcases List.mem_cons.mp hu with rfl | hu
    · exact h4
    · exact h6 u hu
/-- the values that a paper tells -/
structure ArgOk (d : D) : Prop where
  nb : d.nb = true
  dep : d.dep ≤ 40
  sml : D.sml d
/-- is a NOT paper with this word and these values to be taken -/
noncomputable def nrB (T : Tab) (fs : List Fun) (w : Str) (vs : List Tm) : Bool := match ffind fs w with
  | none => false
  | some f => if vs.length = f.ps.length then match dem T f.ps vs with
    | none => false
    | some a => (toldM T fs f vs a).isSome
    else false
theorem map_d_inj {vs us : List Tm} (h : vs.map Tm.d = us.map Tm.d) : vs = us := (List.map_inj_right (fun _ _ e => Tm.d_inj.mp e)).mp h
theorem dem_vi {T : Tab} (hT : T.Ok) {ps : List (Str × Tm)} (hp : PsOk ps) {vs : List Tm} {a : Asg} (hd : dem T ps vs = some a) (hv : ∀ v ∈ vs, ValOk T v ∧ v.dep ≤ 50) : (∀ v ∈ vs, Vi T v) ∧ (∀ x u, a.get x = some u → IxOk 50 u) ∧ ∃ fs', idxs T vs = some fs' ∧ fs'.map (·.1) = ps.map (·.1) ∧ fitL (ps.map (·.2)) (fs'.map (·.2)) [] = some a := by
  unfold dem at hd
  cases h : idxs T vs with
  | none => rw [h] at hd; cases hd
  | some fs' =>
    rw [h] at hd
    simp only at hd
    split at hd
    · rename_i hf
      refine ⟨fun v hm => ⟨idxs_some (by rw [h]; rfl) v hm, (hv v hm).1, (hv v hm).2⟩, ?_, fs', rfl, hf, hd⟩
      refine fitL_prop (P := IxOk 50) (fun w ts h => h.sub) _ _ _ _ hd (fun t ht => ?_) (fun x u h => by simp [Asg.get] at h)
      obtain ⟨q, hq, rfl⟩ := List.mem_map.mp ht
      obtain ⟨u, hu, e⟩ := idxs_mem h q hq
      have := idx_ok hT e
      exact ⟨this.w, this.tree, by have := this.dep; have := (hv u hu).2; omega⟩
    · cases hd
end
end Px
/-! A13: what is accepted. -/
namespace Px
open PySem L2 Classical
structure TblB (tbl : Str → Option DefM) : Prop extends TblA tbl where
  acc : tbl "accepts" = some m_accepts
  accn : tbl "accepts_not" = some m_accepts_not
  iwr : tbl "is_word_row" = some m_is_word_row
  nr : tbl "_law_not_right" = some m__law_not_right
  due : tbl "_law_due" = some m__law_due
section
variable {tbl : Str → Option DefM}
/-- a program -/
structure Prog (T : Tab) (fs : List Fun) : Prop where
  len : fs.length ≤ 100
  full : ∀ f ∈ fs, FullFun T fs f
theorem eqD_hd (T : Tab) (vs : List Tm) : True := trivial
theorem lnr_ok (B : TblB tbl) {T : Tab} (hT : T.Ok) {fs : List Fun} (hP : Prog T fs) (w : Str) (vs : List Tm) (n : Nat) (hn : 70 ≤ n) (st : Sto) (hl : vs.length ≤ 1000) (hv : ∀ v ∈ vs, ValOk T v ∧ v.dep ≤ 50) :
    runF tbl n "_law_not_right" [T.d, progD fs, .str w, .tup (vs.map Tm.d)] st = some (.bl (nrB T fs w vs), st) := by
  obtain ⟨n, rfl⟩ : ∃ k, n = k + 1 := ⟨n - 1, by omega⟩
  have hfl := hP.len
  refine WCall_val (WCall_run B.nr rfl ?_)
  simp only [m__law_not_right]
  simp! [progD]
  refine WL_comp _ _ _ _ _ _ _ _ ?_
  simp! [progD]
  refine ⟨by simp [sizeLine]; omega, ?_⟩
  simp! []
  refine LTurns_filter (p := fun c : Fun => decide (c.w = w)) (g := Fun.d) _ (fun k hk K kk => ?_) ?_
  · unfold LTurn
    simp! [Fun.d]
    refine WIf_dec (fun h => ?_) fun h => ?_
    · simp! []
      rw [decide_eq_true h, if_pos rfl] at kk
      exact kk
    · simp! []
      rw [decide_eq_false h, if_neg nofun] at kk
      exact kk
  cases hff : ffind fs w with
  | none =>
    have he : (fs.filter fun c => decide (c.w = w)) = [] := by
      unfold ffind at hff
      rw [List.find?_eq_none] at hff
      rw [List.filter_eq_nil_iff]
      exact hff
    have : nrB T fs w vs = false := by simp only [nrB, hff]
    rw [he, this]
    simp! []
    refine WIf_pos (by simp) ?_
    simp! []
  | some f =>
    have hF := hP.full f (ffind_mem hff).1
    have l3 := hF.ok.ps.len
    obtain ⟨l, el⟩ := ffilter_first hff
    rw [el]
    simp! []
    refine WIf_neg (decide_eq_false (by omega)) ?_
    simp! [Fun.d, List.length_map]
    refine WIf_dec (fun h => ?_) fun h => ?_
    rotate_left
    · have : nrB T fs w vs = false := by simp only [nrB, hff, if_neg (show ¬ vs.length = f.ps.length by omega)]
      rw [this]
      simp! []
    have hlen : vs.length = f.ps.length := by omega
    simp! []
    refine WL_comp _ _ _ _ _ _ _ _ ?_
    simp! []
    refine ⟨by simp [sizeLine]; omega, LTurns_map (g := fun v : Tm => pO (idx T v)) _ (fun v hv2 K k => ?_) ?_⟩
    · unfold LTurn
      simp! []
      have q := hv v hv2
      refine WCall_of _ (lindex_ok B.toTblA hT v n st (by omega) (by omega) q.1.w q.1.tree) ?_
      simp! []
      exact k
    simp! [memD_pO]
    refine WIf_dec (fun h => ?_) fun h => ?_
    · have : nrB T fs w vs = false := by simp only [nrB, hff, if_pos hlen, dem, h]
      rw [this]
      simp! []
    obtain ⟨gs, hgs⟩ := Option.ne_none_iff_exists'.mp h
    have hlen2 := idxs_len hgs
    rw [idxs_map hgs]
    simp! []
    refine WL_comp _ _ _ _ _ _ _ _ ?_
    simp! []
    refine ⟨by simp [sizeLine]; omega, LTurns_map (g := fun p : Str × Tm => D.str p.1) _ (fun v hv K k => ?_) ?_⟩
    · unfold LTurn
      simp! [prD]
      exact k
    simp! [Fun.d]
    refine WL_comp _ _ _ _ _ _ _ _ ?_
    simp! []
    refine ⟨by simp [sizeLine]; omega, LTurns_map (g := fun p : Str × Tm => D.str p.1) _ (fun v hv K k => ?_) ?_⟩
    · unfold LTurn
      simp! [prD]
      exact k
    simp! [strs_map, eqD_strs]
    refine WIf_dec (fun hf => ?_) fun hf => ?_
    rotate_left
    · have : nrB T fs w vs = false := by simp only [nrB, hff, if_pos hlen, dem, hgs, if_neg hf]
      rw [this]
      simp! []
    have hv' : dem T f.ps vs = fitL (f.ps.map (·.2)) (gs.map (·.2)) [] := by simp only [dem, hgs, if_pos hf]
    simp! [Fun.d]
    refine WL_comp _ _ _ _ _ _ _ _ ?_
    simp! []
    refine ⟨by simp [sizeLine]; omega, LTurns_map (g := fun p : Str × Tm => p.2.d) _ (fun v hv K k => ?_) ?_⟩
    · unfold LTurn
      simp! [prD]
      exact k
    simp! []
    refine WL_comp _ _ _ _ _ _ _ _ ?_
    simp! []
    refine ⟨by simp [sizeLine]; omega, LTurns_map (g := fun p : Str × Tm => p.2.d) _ (fun v hv K k => ?_) ?_⟩
    · unfold LTurn
      simp! [prD]
      exact k
    simp! [tms_map]
    have hll : (f.ps.map (·.2)).length = (gs.map (·.2)).length := by simp; omega
    have hts : ∀ t ∈ gs.map (·.2), IxOk 50 t := fun t ht => by
      obtain ⟨q, hq, rfl⟩ := List.mem_map.mp ht
      obtain ⟨u, hu, e⟩ := idxs_mem hgs q hq
      have q1 := idx_ok hT e
      have q2 := q1.dep
      have q3 := (hv u hu).2
      exact ⟨q1.w, q1.tree, by omega⟩
    refine WCall_of _ (lfit_ok B.lfit okI_fn (by omega) _ _ st hll hF.ok.ps.szs (fun p hp => ?_) fun t ht => ?_) ?_
    · obtain ⟨q, hq, rfl⟩ := List.mem_map.mp hp
      exact (hF.ok.ps.wps q hq).1
    · have q := hts t ht
      have q2 := q.dep
      exact ⟨by omega, q.w, q.tree⟩
    cases ef : fitL (f.ps.map (·.2)) (gs.map (·.2)) [] with
    | none =>
      have : nrB T fs w vs = false := by simp only [nrB, hff, if_pos hlen, hv', ef]
      rw [this]
      simp! [asgO]
    | some a =>
      have hd : dem T f.ps vs = some a := by rw [hv', ef]
      obtain ⟨hvi, hai, _⟩ := dem_vi hT hF.ok.ps hd hv
      have hcov : Cov f.ix a := fun x hx => by
        obtain ⟨p, hp, k⟩ := hF.ok.has x hx
        exact (fitL_cov okI_fn _ _ _ _ ef (by omega) (fun p hp => by obtain ⟨q, hq, rfl⟩ := List.mem_map.mp hp; exact (hF.ok.ps.wps q hq).1) (fun t h => (hts t h).w)).2 p.2 (List.mem_map.mpr ⟨p, hp, rfl⟩) x k
      have : nrB T fs w vs = (toldM T fs f vs a).isSome := by simp only [nrB, hff, if_pos hlen, hd]
      rw [this]
      simp! [asgO]
      have q := ltold_ok B.toTblA hT (fun f h => (hP.full f h).ok) (by omega) f hF vs hlen hvi a n (by omega) st (fun x u h => (hai x u h).dep) hcov
      simp! [Fun.d, progD] at q
      refine WCall_of _ q ?_
      simp! [deref_told, toldM_isNon]
      cases toldM T fs f vs a <;> rfl
theorem ldue_str (B : TblB tbl) {T : Tab} (hT : T.Ok) (hU : T.Uq) {fs : List Fun} (hP : Prog T fs) (w : Str) (ds : List D) (n : Nat) (hn : 80 ≤ n) (st : Sto) (hl : ds.length ≤ 1000) (hv : ∀ d ∈ ds, ArgOk d) (b : Bool)
    (hb : (rawDs T ds = false ∧ b = false) ∨ ∃ vs : List Tm, rawDs T ds = true ∧ ds = vs.map Tm.d ∧ (∀ v ∈ vs, ValOk T v ∧ v.dep ≤ 40) ∧ b = nrB T fs w vs) :
    runF tbl n "_law_due" [T.d, progD fs, .str w, .tup ds] st = some (.bl b, st) := by
  obtain ⟨n, rfl⟩ : ∃ k, n = k + 1 := ⟨n - 1, by omega⟩
  refine WCall_val (WCall_run B.due rfl ?_)
  simp only [m__law_due]
  simp! []
  refine WL_comp _ _ _ _ _ _ _ _ ?_
  simp! []
  have hm : ds = ds.map id := by simp
  refine ⟨by unfold sizeLine; omega, ?_⟩
  simp! []
  rw [hm]
  refine LTurns_map (g := fun d : D => .bl (rawD T d)) _ (fun d hd K k => ?_) ?_
  · unfold LTurn
    simp! [id_eq]
    have q := hv d hd
    refine WCall_of _ (lraw_ok B.toTblA hT hU 40 d n st q.dep (by omega) q.nb q.sml) ?_
    simp! []
    exact k
  rw [← hm]
  simp! [boolsD_raw]
  rcases hb with ⟨h, rfl⟩ | ⟨vs, h, rfl, hvs, rfl⟩
  · rw [h]
    simp! []
  · rw [h]
    simp! []
    refine WCall_of _ (lnr_ok B hT hP w vs n (by omega) st (by simpa using hl) fun v hv => ⟨(hvs v hv).1, by have := (hvs v hv).2; omega⟩) ?_
    simp! []
theorem iwr_no (B : TblB tbl) {n : Nat} (hn : 1 ≤ n) {d : D} {w : Str} {k : Int} (st : Sto) (h : isIn d "tuple" = some false) (hd : deref st d = d) : runF tbl n "is_word_row" [d, .str w, .int k] st = some (.bl false, st) := by
  obtain ⟨n, rfl⟩ : ∃ k, n = k + 1 := ⟨n - 1, by omega⟩
  refine WCall_val (WCall_run B.iwr rfl ?_)
  simp only [m_is_word_row]
  simp! [hd, h]
theorem iwr_len (B : TblB tbl) {n : Nat} (hn : 1 ≤ n) {ds : List D} {w : Str} {k : Int} (st : Sto) (h : ¬ (ds.length : Int) = k) : runF tbl n "is_word_row" [.tup ds, .str w, .int k] st = some (.bl false, st) := by
  obtain ⟨n, rfl⟩ : ∃ k, n = k + 1 := ⟨n - 1, by omega⟩
  refine WCall_val (WCall_run B.iwr rfl ?_)
  simp only [m_is_word_row]
  simp! []
  refine WIf_neg (decide_eq_false h) ?_
  simp! []
theorem iwr_yes (B : TblB tbl) {n : Nat} (hn : 1 ≤ n) {x w : Str} {ds : List D} {k : Int} (st : Sto) (h : ((ds.length + 1 : Nat) : Int) = k) : runF tbl n "is_word_row" [.tup (.str x :: ds), .str w, .int k] st = some (.bl (decide (x = w)), st) := by
  obtain ⟨n, rfl⟩ : ∃ k, n = k + 1 := ⟨n - 1, by omega⟩
  refine WCall_val (WCall_run B.iwr rfl ?_)
  simp only [m_is_word_row]
  simp! []
  refine WIf_pos (decide_eq_true h) ?_
  simp! []
theorem accn_ok (B : TblB tbl) {T : Tab} (hT : T.Ok) {fs : List Fun} (hP : Prog T fs) (w : Str) (ds : List D) (n : Nat) (hn : 80 ≤ n) (st : Sto) (hl : ds.length ≤ 1000) (hv : ∀ d ∈ ds, ArgOk d) (b : Bool)
    (hb : (rawDs T ds = false ∧ b = false) ∨ ∃ vs : List Tm, rawDs T ds = true ∧ ds = vs.map Tm.d ∧ (∀ v ∈ vs, ValOk T v ∧ v.dep ≤ 40) ∧ b = nrB T fs w vs) :
    runF tbl n "accepts_not" [T.d, progD fs, .tup [.str "not", .str w, .tup ds]] st = some (.bl b, st) := by
  obtain ⟨n, rfl⟩ : ∃ k, n = k + 1 := ⟨n - 1, by omega⟩
  refine WCall_val (WCall_run B.accn rfl ?_)
  simp only [m_accepts_not]
  simp! []
  refine WCall_of _ (function_ok B.toTblA (by omega) fs w st) ?_
  have hb0 : ∀ h : ffind fs w = none ∨ ∃ f, ffind fs w = some f ∧ ¬ ds.length = f.ps.length, b = false := fun h => by
    rcases hb with ⟨_, rfl⟩ | ⟨vs, _, rfl, _, rfl⟩
    · rfl
    · rcases h with h | ⟨f, h, h2⟩
      · simp only [nrB, h]
      · simp only [nrB, h, if_neg (show ¬ vs.length = f.ps.length by simpa using h2)]
  cases hff : ffind fs w with
  | none =>
    rw [hb0 (.inl hff)]
    simp! [funO]
  | some f =>
    have hF := hP.full f (ffind_mem hff).1
    have l3 := hF.ok.ps.len
    simp! [funO, Fun.d, List.length_map]
    refine WIf_dec (fun h => ?_) fun h => ?_
    rotate_left
    · rw [hb0 (.inr ⟨f, hff, by omega⟩)]
      simp! []
    have hlen : ds.length = f.ps.length := by omega
    simp! []
    refine WL_comp _ _ _ _ _ _ _ _ ?_
    simp! []
    have hm : ds = ds.map id := by simp
    refine ⟨by unfold sizeLine; omega, ?_⟩
    simp! []
    rw [hm]
    refine LTurns_map (g := fun d : D => .bl (rawD T d)) _ (fun d hd K k => ?_) ?_
    · unfold LTurn
      simp! [id_eq]
      have q := hv d hd
      refine WCall_of _ (raw_ok B.toTblA hT 40 d n st q.dep (by omega) q.nb) ?_
      simp! []
      exact k
    rw [← hm]
    simp! [boolsD_raw]
    rcases hb with ⟨h, rfl⟩ | ⟨vs, h, rfl, hvs, rfl⟩
    · rw [h]
      simp! []
    · rw [h]
      simp! []
      have hlen' : vs.length = f.ps.length := by simpa using hlen
      have qd := dem_ok B.toTblA hT f hF.ok.ps vs n st (by have := dep_deps fun v h => (hvs v h).2; omega) (by omega) (fun v h => (hvs v h).1)
      simp! [Fun.d] at qd
      refine WCall_of _ qd ?_
      cases hd : dem T f.ps vs with
      | none =>
        have : nrB T fs w vs = false := by simp only [nrB, hff, if_pos hlen', hd]
        rw [this]
        simp! [asgO]
      | some a =>
        obtain ⟨hvi, hai, _⟩ := dem_vi hT hF.ok.ps hd (fun v h => ⟨(hvs v h).1, by have := (hvs v h).2; omega⟩)
        have : nrB T fs w vs = (toldM T fs f vs a).isSome := by simp only [nrB, hff, if_pos hlen', hd]
        rw [this]
        simp! [asgO]
        refine WCall_of _ (told_ok B.toTblA hT (fun f h => (hP.full f h).ok) w f hff hF vs hlen' hvi a hd n (by omega) st (fun x u h => (hai x u h).dep)) ?_
        simp! [deref_told, toldM_isNon]
        cases toldM T fs f vs a <;> rfl
theorem acc_not (B : TblB tbl) {n : Nat} (hn : 2 ≤ n) (P T : D) (w vs : D) (st : Sto) (b : Bool) (h : runF tbl n "accepts_not" [T, P, .tup [.str "not", w, vs]] st = some (.bl b, st)) :
    runF tbl (n + 1) "accepts" [T, P, .tup [.str "not", w, vs]] st = some (.bl b, st) := by
  refine WCall_val (WCall_run B.acc rfl ?_)
  simp only [m_accepts]
  simp! []
  refine WCall_of _ (iwr_yes B (by omega) st (by simp)) ?_
  simp! []
  refine WCall_of _ h ?_
  simp! []
/-- neither a NOT nor a LET paper -/
theorem acc_odd (B : TblB tbl) {n : Nat} (hn : 2 ≤ n) (P T : D) (d : D) (st : Sto) (h : ∀ w : Str, w = Str.ofString "not" ∨ w = Str.ofString "let" → runF tbl n "is_word_row" [d, .str w, .int 3] st = some (.bl false, st)) :
    runF tbl (n + 1) "accepts" [T, P, d] st = some (.bl false, st) := by
  refine WCall_val (WCall_run B.acc rfl ?_)
  simp only [m_accepts]
  simp! []
  refine WCall_of _ (h _ (.inl rfl)) ?_
  simp! []
  refine WCall_of _ (h _ (.inr rfl)) ?_
  simp! []
/-- what is no word, or no tuple of values -/
theorem accn_bad (B : TblB tbl) {n : Nat} (hn : 2 ≤ n) (P T : D) (w vs : D) (st : Sto) (b c : Bool) (h1 : isIn w "str" = some b) (h2 : isIn vs "tuple" = some c) (hw : deref st w = w) (hvs : deref st vs = vs) (h : b = false ∨ c = false) :
    runF tbl n "accepts_not" [T, P, .tup [.str "not", w, vs]] st = some (.bl false, st) := by
  obtain ⟨n, rfl⟩ : ∃ k, n = k + 1 := ⟨n - 1, by omega⟩
  refine WCall_val (WCall_run B.accn rfl ?_)
  simp only [m_accepts_not]
  simp! [hw, h1]
  cases b with
  | false => simp! []
  | true =>
    obtain rfl : c = false := by simpa using h
    simp! [hvs, h2]
theorem ldue_bad (B : TblB tbl) {n : Nat} (hn : 2 ≤ n) (P T : D) (w vs : D) (st : Sto) (b c : Bool) (h1 : isIn w "str" = some b) (h2 : isIn vs "tuple" = some c) (hw : deref st w = w) (hvs : deref st vs = vs) (h : b = false ∨ c = false) :
    runF tbl n "_law_due" [T, P, w, vs] st = some (.bl false, st) := by
  obtain ⟨n, rfl⟩ : ∃ k, n = k + 1 := ⟨n - 1, by omega⟩
  refine WCall_val (WCall_run B.due rfl ?_)
  simp only [m__law_due]
  simp! [hw, h1]
  cases b with
  | false => simp! []
  | true =>
    obtain rfl : c = false := by simpa using h
    simp! [hvs, h2]
/-- the law's due and the program's answer are the same -/
theorem acc_due (B : TblB tbl) {T : Tab} (hT : T.Ok) (hU : T.Uq) {fs : List Fun} (hP : Prog T fs) (w vs : D) (n : Nat) (hn : 100 ≤ n) (st : Sto) (hw : (∃ x, w = .str x) ∨ w = .int 0 ∨ w = .non) (hv : ∃ ds, (vs = .tup ds ∨ vs = .lst ds) ∧ ds.length ≤ 1000 ∧ ∀ d ∈ ds, ArgOk d) :
    ∃ b, runF tbl n "accepts" [T.d, progD fs, .tup [.str "not", w, vs]] st = some (.bl b, st) ∧ runF tbl n "_law_due" [T.d, progD fs, w, vs] st = some (.bl b, st) := by
  obtain ⟨n, rfl⟩ : ∃ k, n = k + 1 := ⟨n - 1, by omega⟩
  obtain ⟨ds, hvs, hl, hds⟩ := hv
  rcases hvs with rfl | rfl
  · rcases hw with ⟨x, rfl⟩ | rfl | rfl
    · have hb : ∃ b, (rawDs T ds = false ∧ b = false) ∨ ∃ vs : List Tm, rawDs T ds = true ∧ ds = vs.map Tm.d ∧ (∀ v ∈ vs, ValOk T v ∧ v.dep ≤ 40) ∧ b = nrB T fs x vs := by
        cases h : rawDs T ds with
        | false => exact ⟨false, .inl ⟨rfl, rfl⟩⟩
        | true =>
          obtain ⟨ts, e, hts⟩ := raws_tm (m := 40) (D.deps_le.mpr fun d h => (hds d h).dep) h
          exact ⟨_, .inr ⟨ts, rfl, e, fun v hv => ⟨⟨(hts v hv).1, (hts v hv).2.1, by have := (hts v hv).2.2; omega⟩, (hts v hv).2.2⟩, rfl⟩⟩
      obtain ⟨b, hb⟩ := hb
      exact ⟨b, acc_not B (by omega) _ _ _ _ st b (accn_ok B hT hP x ds n (by omega) st hl hds b hb), ldue_str B hT hU hP x ds (n + 1) (by omega) st hl hds b hb⟩
    · exact ⟨false, acc_not B (by omega) _ _ _ _ st _ (accn_bad B (by omega) _ _ _ _ st _ _ (isIn_int 0) (isIn_tup_t ds) rfl rfl (.inl rfl)), ldue_bad B (by omega) _ _ _ _ st _ _ (isIn_int 0) (isIn_tup_t ds) rfl rfl (.inl rfl)⟩
    · exact ⟨false, acc_not B (by omega) _ _ _ _ st _ (accn_bad B (by omega) _ _ _ _ st _ _ isIn_non (isIn_tup_t ds) rfl rfl (.inl rfl)), ldue_bad B (by omega) _ _ _ _ st _ _ isIn_non (isIn_tup_t ds) rfl rfl (.inl rfl)⟩
  · rcases hw with ⟨x, rfl⟩ | rfl | rfl
    · exact ⟨false, acc_not B (by omega) _ _ _ _ st _ (accn_bad B (by omega) _ _ _ _ st _ _ (isIn_str x) (isIn_lst_t ds) rfl rfl (.inr rfl)), ldue_bad B (by omega) _ _ _ _ st _ _ (isIn_str x) (isIn_lst_t ds) rfl rfl (.inr rfl)⟩
    · exact ⟨false, acc_not B (by omega) _ _ _ _ st _ (accn_bad B (by omega) _ _ _ _ st _ _ (isIn_int 0) (isIn_lst_t ds) rfl rfl (.inl rfl)), ldue_bad B (by omega) _ _ _ _ st _ _ (isIn_int 0) (isIn_lst_t ds) rfl rfl (.inl rfl)⟩
    · exact ⟨false, acc_not B (by omega) _ _ _ _ st _ (accn_bad B (by omega) _ _ _ _ st _ _ isIn_non (isIn_lst_t ds) rfl rfl (.inl rfl)), ldue_bad B (by omega) _ _ _ _ st _ _ isIn_non (isIn_lst_t ds) rfl rfl (.inl rfl)⟩
end
end Px
/-! A14: the law's draws. -/
namespace Px
open PySem L2 Classical
structure TblC (tbl : Str → Option DefM) : Prop where
  state : tbl "_law_state" = some m__law_state
  draw : tbl "_law_draw" = some m__law_draw
  pick : tbl "_law_pick" = some m__law_pick
  shape : tbl "_law_shape" = some m__law_shape
  table : tbl "_law_table" = some m__law_table
  cons : tbl "_law_constructors" = some m__law_constructors
  heads : tbl "_law_heads" = some m__law_heads
  deeper : tbl "_law_deeper" = some m__law_deeper
  pats : tbl "_law_patterns" = some m__law_patterns
  namesAt : tbl "_law_names_at" = some m__law_names_at
  named : tbl "_law_named" = some m__law_named
  call : tbl "_law_call" = some m__law_call
  made : tbl "_law_made" = some m__law_made
  body : tbl "_law_body" = some m__law_body
  copy : tbl "_law_copy" = some m__law_copy
  prog : tbl "_law_program" = some m__law_program
  grown : tbl "_law_grown" = some m__law_grown
  values : tbl "_law_values" = some m__law_values
  asked : tbl "_law_asked" = some m__law_asked
  wrong : tbl "_law_wrong_ones" = some m__law_wrong_ones
  raw : tbl "_law_raw" = some m__law_raw
  thing : tbl "_law_thing" = some m__law_thing
  vfor : tbl "_law_values_for" = some m__law_values_for
  law : tbl "law" = some m_law
def mkS (cells : List Int) (seed : Int) (fl : Bool) : Sto := [.lst (cells.map D.int), .lst [.hdl 0, .int seed, .bl fl]]
def OkS (st : Sto) : Prop := ∃ cells seed fl, st = mkS cells seed fl ∧ (∀ c ∈ cells, 0 ≤ c) ∧ 0 ≤ seed ∧ seed < 2 ^ 31
def hdlD (n : Nat) : Option Ob → D
  | some b => b.frz
  | none => .hdl n
theorem hdlD_some (n : Nat) (b : Ob) : hdlD n (some b) = b.frz := rfl
theorem deref_hd (st : Sto) (n : Nat) : deref st (.hdl n) = hdlD n st[n]? := by
  simp only [deref]
  rcases st[n]? with _ | b <;> rfl
theorem bop_mul {i j : Int} (h : -(2 ^ 64) < j ∧ j < 2 ^ 64) : bop .mul (.int i) (.int j) = some (.int (i * j)) := by
  simp only [bop]; rw [if_pos (.inr h)]
theorem bop_mod {i j : Int} (h : 0 < j) : bop .mod (.int i) (.int j) = some (.int (i % j)) := by
  simp only [bop]; rw [if_pos h]
theorem bop_fdiv {i j : Int} (h : 0 < j ∧ j < 1073741824) : bop .fdiv (.int i) (.int j) = some (.int (i / j)) := by
  simp only [bop]; rw [if_pos h]
section
variable {tbl : Str → Option DefM}
theorem state_for {c : CallF} (s0 : Sl) (st : Sto) (Q : Fl → ES → Prop) (hq : ∀ v x, 0 ≤ v → v < 1000003 → Q .nx ⟨[s0, .val (.int v), x], st⟩) : ∀ (ns : List Int) (v : Int) (x : Sl), 0 ≤ v → v < 1000003 →
    FTurns c (.v 2) l__law_state_1 (ns.map D.int) ⟨[s0, .val (.int v), x], st⟩ Q
  | [], v, x, h1, h2 => hq v x h1 h2
  | i :: ns, v, x, h1, h2 => by
    simp only [List.map_cons, FTurns]
    simp! [l__law_state_1, bop_mul (i := v) (j := 31) (by decide), bop_mod (j := 1000003) (by decide)]
    exact state_for s0 st Q hq ns _ _ (Int.emod_nonneg _ (by decide)) (Int.emod_lt_of_pos _ (by decide))
theorem state_ok (C : TblC tbl) {n : Nat} (hn : 1 ≤ n) (ns : List Int) (hl : ns.length ≤ 63) : WCall (runF tbl n) "_law_state" [.scr ns] [] fun d st => d = .hdl 1 ∧ OkS st := by
  obtain ⟨n, rfl⟩ : ∃ k, n = k + 1 := ⟨n - 1, by omega⟩
  refine WCall_run C.state rfl ?_
  simp only [m__law_state]
  simp! []
  refine WS_for _ _ _ _ _ _ ?_
  simp! []
  refine state_for _ _ _ (fun v x h1 h2 => ?_) ns 7 _ (by decide) (by decide)
  simp! []
  refine WL_comp _ _ _ _ _ _ _ _ ?_
  simp! []
  refine ⟨by simp [sizeLine]; omega, LTurns_map (g := fun i : Int => D.int (if i < 0 then -i else i)) _ (fun i hi K k => ?_) ?_⟩
  · unfold LTurn
    simp! []
    exact k
  simp! []
  refine ⟨ns.map (fun i : Int => if i < 0 then -i else i), v + 1, false, ?_, ?_, by omega, by omega⟩
  · simp [mkS]
  · intro c hc
    obtain ⟨i, _, rfl⟩ := List.mem_map.mp hc
    split <;> omega
theorem draw_while {c : CallF} (m : Int) (x y : Sl) (seed : Int) (fl : Bool) (Q : Fl → ES → Prop) : ∀ (cells : List Int), (∀ c ∈ cells, 0 ≤ c) →
    (∀ cs : List Int, (∀ c ∈ cs, 0 ≤ c) → Q .nx ⟨[.val (.hdl 1), .val (.int m), .val (.hdl 0), x, y], mkS cs seed fl⟩) →
    WS c (.whileS (.andT (.cmp .Gt (.e (.len (.s 2))) (.e (.int 0))) (.oneT (.cmp .Eq (.e (.idx (.s 2) (.int 0))) (.e (.int 0))))) l__law_draw_1) ⟨[.val (.hdl 1), .val (.int m), .val (.hdl 0), x, y], mkS cells seed fl⟩ Q
  | [], hc, q => by
    refine WS_while _ _ _ _ _ ?_
    simp! [mkS, deref_hd, hdlD_some]
    refine WIf_neg (by simp) ?_
    simp! []
    exact q [] hc
  | i :: cells, hc, q => by
    refine WS_while _ _ _ _ _ ?_
    simp! [mkS, deref_hd, hdlD_some]
    refine WIf_pos (decide_eq_true (by omega)) ?_
    simp! [mkS, deref_hd, hdlD_some]
    refine WIf_dec (fun h => ?_) fun h => ?_
    · simp! [l__law_draw_1, isHL, hnd, WHpop, mkS]
      refine ⟨by omega, ?_⟩
      simp! [show Int.toNat 0 = 0 from rfl, List.eraseIdx_cons_zero]
      exact draw_while m x y seed fl Q cells (fun c h => hc c (List.mem_cons_of_mem _ h)) q
    · exact q (i :: cells) hc
theorem ixN_0 (n : Nat) : ixN (n + 1) 0 = some 0 := by
  unfold ixN
  rw [if_pos (by omega), if_pos (by omega)]
  rfl
theorem ixN_1 (n : Nat) : ixN (n + 2) 1 = some 1 := by
  unfold ixN
  rw [if_pos (by omega), if_pos (by omega)]
  rfl
theorem draw_ok (C : TblC tbl) {n : Nat} (hn : 1 ≤ n) (m : Int) (h1 : 0 < m) (h2 : m < 1073741824) {st : Sto} (hs : OkS st) : WCall (runF tbl n) "_law_draw" [.hdl 1, .int m] st fun d st => OkS st ∧ ∃ v : Int, d = .int v ∧ 0 ≤ v ∧ v < m := by
  obtain ⟨n, rfl⟩ : ∃ k, n = k + 1 := ⟨n - 1, by omega⟩
  obtain ⟨cells, seed, fl, rfl, hc, hs1, hs2⟩ := hs
  refine WCall_run C.draw rfl ?_
  simp only [m__law_draw]
  simp! [mkS, deref_hd, hdlD_some]
  refine draw_while m _ _ seed fl _ cells hc fun cs hcs => ?_
  simp! [mkS, deref_hd, hdlD_some]
  cases cs with
  | nil =>
    refine WIf_neg (by simp) ?_
    simp! [mkS, deref_hd, hdlD_some, bop_mul (i := seed) (j := 48271) (by decide), bop_mod (j := 2147483647) (by decide)]
    have f1 : ∀ i : Int, bop .fdiv (.int i) (.int 64) = some (.int (i / 64)) := fun i => bop_fdiv (by decide)
    have f2 : ∀ i : Int, bop .mod (.int i) (.int m) = some (.int (i % m)) := fun i => bop_mod h1
    simp! [f1, f2, hsetS, hnd, ixN_1, show ixN 3 1 = some 1 from rfl]
    refine ⟨⟨[], _, fl, rfl, hcs, Int.emod_nonneg _ (by decide), ?_⟩, _, rfl, Int.emod_nonneg _ (by omega), Int.emod_lt_of_pos _ h1⟩
    have := Int.emod_lt_of_pos (seed * 48271 + 12345) (show (0 : Int) < 2147483647 by decide)
    omega
  | cons i cs =>
    refine WIf_pos (decide_eq_true (by simp <;> omega)) ?_
    simp! [mkS, deref_hd, hdlD_some, bop_fdiv (i := i) ⟨h1, h2⟩, bop_mod (i := i) h1]
    simp! [hsetS, hnd, ixN_0, bop_mod (i := i) h1]
    refine ⟨⟨i / m :: cs, seed, fl, by simp [mkS], fun c h => ?_, hs1, hs2⟩, _, rfl, Int.emod_nonneg _ (by omega), Int.emod_lt_of_pos _ h1⟩
    rcases List.mem_cons.mp h with rfl | h
    · exact Int.ediv_nonneg (hcs i List.mem_cons_self) (by omega)
    · exact hcs c (List.mem_cons_of_mem _ h)
theorem pick_ok (C : TblC tbl) {n : Nat} (hn : 2 ≤ n) (r : D) (ds : List D) (hr : r = .lst ds ∨ r = .tup ds) (h1 : 0 < ds.length) (h2 : ds.length < 1073741824) {st : Sto} (hs : OkS st) : WCall (runF tbl n) "_law_pick" [.hdl 1, r] st fun d st => OkS st ∧ d ∈ ds := by
  obtain ⟨n, rfl⟩ : ∃ k, n = k + 1 := ⟨n - 1, by omega⟩
  refine WCall_run C.pick rfl ?_
  simp only [m__law_pick]
  rcases hr with rfl | rfl
  · simp! []
    refine WCall_mono _ (draw_ok C (by omega) ds.length (by omega) (by omega) hs) fun d st' hd => ?_
    obtain ⟨hs', v, rfl, hv1, hv2⟩ := hd
    have hlt : v.toNat < ds.length := by omega
    simp! [atI_int _ _ hv1, List.getElem?_eq_getElem hlt]
    exact ⟨hs', List.getElem_mem hlt⟩
  · simp! []
    refine WCall_mono _ (draw_ok C (by omega) ds.length (by omega) (by omega) hs) fun d st' hd => ?_
    obtain ⟨hs', v, rfl, hv1, hv2⟩ := hd
    have hlt : v.toNat < ds.length := by omega
    simp! [atI_int _ _ hv1, List.getElem?_eq_getElem hlt]
    exact ⟨hs', List.getElem_mem hlt⟩
end
end Px
/-! A15: the law's table. -/
namespace Px
open PySem L2 Classical
theorem okI_z : okI "z" 0 := by unfold okI; rw [if_neg (str_ne (by decide)), if_neg (str_ne (by decide))]
theorem okI_o : okI "o" 0 := by unfold okI; rw [if_neg (str_ne (by decide)), if_neg (str_ne (by decide))]
theorem okI_s : okI "s" 1 := by unfold okI; rw [if_pos rfl]
theorem okI_p : okI "p" 2 := by unfold okI; rw [if_neg (str_ne (by decide)), if_pos rfl]
abbrev tz : Tm := .ap "z" []
abbrev to' : Tm := .ap "o" []
abbrev tsn : Tm := .ap "s" [.nm "n"]
abbrev tpnm : Tm := .ap "p" [.nm "n", .nm "m"]
theorem tz_W : tz.W okI := .ap okI_z fun _ h => nomatch h
theorem to_W : to'.W okI := .ap okI_o fun _ h => nomatch h
theorem nm_W (x : Str) : (Tm.nm x).W okI := .nm x
theorem tsn_W : tsn.W okI := .ap okI_s fun t h => by simp only [List.mem_singleton] at h; subst h; exact .nm _
theorem tpnm_W : tpnm.W okI := .ap okI_p fun t h => by
  simp only [List.mem_cons, List.not_mem_nil, or_false] at h
  rcases h with rfl | rfl <;> exact .nm _
/-- what a shape is: parts and the index -/
structure ShOk (ps : List (Str × Tm)) (ix : Tm) : Prop where
  len : ps.length ≤ 3
  wps : ∀ p ∈ ps, p.2.W okI ∧ p.2.dep ≤ 2 ∧ p.2.sz ≤ 100
  wix : ix.W okI
  dix : ix.dep ≤ 1
  has : ∀ x, ix.Has x → ∃ p ∈ ps, p.2.Has x
def shD (s : List (Str × Tm) × Tm) : D := .tup [.tup (s.1.map prD), s.2.d]
theorem has_nm {x y : Str} : (Tm.nm y).Has x ↔ x = y := ⟨fun h => by cases h; rfl, fun h => h ▸ .nm⟩
theorem has_ap {x w : Str} {ts : List Tm} : (Tm.ap w ts).Has x ↔ ∃ t ∈ ts, t.Has x := ⟨fun h => by cases h with | ap a b => exact ⟨_, a, b⟩, fun ⟨t, a, b⟩ => .ap a b⟩
theorem sh_mk {ps : List (Str × Tm)} {ix : Tm} (h1 : ps.length ≤ 3) (h2 : ∀ p ∈ ps, p.2 = tz ∨ p.2 = tsn ∨ p.2 = tpnm ∨ p.2 = .nm "n" ∨ p.2 = .nm "m") (h3 : ix = tz ∨ ix = to' ∨ ix = tsn ∨ ix = tpnm ∨ ix = .nm "n") (h4 : ∀ x, ix.Has x → ∃ p ∈ ps, p.2.Has x) : ShOk ps ix := by
  refine ⟨h1, fun p hp => ?_, ?_, ?_, h4⟩
  · rcases h2 p hp with e | e | e | e | e <;> rw [e]
    · exact ⟨tz_W, by simp [Tm.dep, Tm.deps], by simp [Tm.sz, Tm.szs]⟩
    · exact ⟨tsn_W, by simp [Tm.dep, Tm.deps], by simp [Tm.sz, Tm.szs]⟩
    · exact ⟨tpnm_W, by simp [Tm.dep, Tm.deps], by simp [Tm.sz, Tm.szs]⟩
    · exact ⟨.nm _, by simp [Tm.dep, Tm.deps], by simp [Tm.sz, Tm.szs]⟩
    · exact ⟨.nm _, by simp [Tm.dep, Tm.deps], by simp [Tm.sz, Tm.szs]⟩
  · rcases h3 with e | e | e | e | e <;> rw [e]
    · exact tz_W
    · exact to_W
    · exact tsn_W
    · exact tpnm_W
    · exact .nm _
  · rcases h3 with e | e | e | e | e <;> rw [e] <;> simp [Tm.dep, Tm.deps]
section
variable {tbl : Str → Option DefM}
theorem shape_ok (C : TblC tbl) {n : Nat} (hn : 1 ≤ n) (k : Int) (own other third : Str) (st : Sto) : WCall (runF tbl n) "_law_shape" [.int k, .str own, .str other, .str third] st fun d st' => st' = st ∧ ∃ l : List (List (Str × Tm) × Tm), d = .lst (l.map shD) ∧ 0 < l.length ∧ l.length ≤ 3 ∧ ∀ s ∈ l, ShOk s.1 s.2 := by
  obtain ⟨n, rfl⟩ : ∃ k, n = k + 1 := ⟨n - 1, by omega⟩
  refine WCall_run C.shape rfl ?_
  simp only [m__law_shape]
  have fin : ∀ l : List (List (Str × Tm) × Tm), ∀ d, d = D.lst (l.map shD) → 0 < l.length → l.length ≤ 3 → (∀ s ∈ l, s.1.length ≤ 3 ∧ (∀ p ∈ s.1, p.2 = tz ∨ p.2 = tsn ∨ p.2 = tpnm ∨ p.2 = .nm "n" ∨ p.2 = .nm "m") ∧ (s.2 = tz ∨ s.2 = to' ∨ s.2 = tsn ∨ s.2 = tpnm ∨ s.2 = .nm "n") ∧ ∀ x, s.2.Has x → ∃ t ∈ s.1.map (·.2), t.Has x) → ∃ l : List (List (Str × Tm) × Tm), d = .lst (l.map shD) ∧ 0 < l.length ∧ l.length ≤ 3 ∧ ∀ s ∈ l, ShOk s.1 s.2 :=
    fun l d e h1 h2 h3 => ⟨l, e, h1, h2, fun s hs => sh_mk (h3 s hs).1 (h3 s hs).2.1 (h3 s hs).2.2.1 fun x hx => by
      obtain ⟨t, ht, k⟩ := (h3 s hs).2.2.2 x hx
      obtain ⟨p, hp, rfl⟩ := List.mem_map.mp ht
      exact ⟨p, hp, k⟩⟩
  simp! []
  refine WIf_dec (fun h => ?_) fun h => ?_
  · simp! []
    refine fin [([], tz), ([(own, .nm "n")], tsn)] _ (by simp [shD, prD, Tm.d_ap, Tm.d_nm]) (by simp) (by simp) ?_
    simp [or_and_right, exists_or, exists_eq_left, has_ap, has_nm]
    try (intro a b h; rcases h with ⟨_, rfl⟩ | ⟨_, rfl⟩ | ⟨_, rfl⟩ <;> simp)
    try (intro a b h; rcases h with ⟨_, rfl⟩ | ⟨_, rfl⟩ <;> simp)
  simp! []
  refine WIf_dec (fun h => ?_) fun h => ?_
  · simp! []
    refine fin [([], tz)] _ (by simp [shD, prD, Tm.d_ap, Tm.d_nm]) (by simp) (by simp) ?_
    simp [or_and_right, exists_or, exists_eq_left, has_ap, has_nm]
    try (intro a b h; rcases h with ⟨_, rfl⟩ | ⟨_, rfl⟩ | ⟨_, rfl⟩ <;> simp)
    try (intro a b h; rcases h with ⟨_, rfl⟩ | ⟨_, rfl⟩ <;> simp)
  simp! []
  refine WIf_dec (fun h => ?_) fun h => ?_
  · simp! []
    refine fin [([(other, .nm "n")], tsn)] _ (by simp [shD, prD, Tm.d_ap, Tm.d_nm]) (by simp) (by simp) ?_
    simp [or_and_right, exists_or, exists_eq_left, has_ap, has_nm]
    try (intro a b h; rcases h with ⟨_, rfl⟩ | ⟨_, rfl⟩ | ⟨_, rfl⟩ <;> simp)
    try (intro a b h; rcases h with ⟨_, rfl⟩ | ⟨_, rfl⟩ <;> simp)
  simp! []
  refine WIf_dec (fun h => ?_) fun h => ?_
  · simp! []
    refine fin [([(other, .nm "n")], tsn), ([(own, .nm "n")], tsn)] _ (by simp [shD, prD, Tm.d_ap, Tm.d_nm]) (by simp) (by simp) ?_
    simp [or_and_right, exists_or, exists_eq_left, has_ap, has_nm]
    try (intro a b h; rcases h with ⟨_, rfl⟩ | ⟨_, rfl⟩ | ⟨_, rfl⟩ <;> simp)
    try (intro a b h; rcases h with ⟨_, rfl⟩ | ⟨_, rfl⟩ <;> simp)
  simp! []
  refine WIf_dec (fun h => ?_) fun h => ?_
  · simp! []
    refine fin [([], tz), ([(other, tz), (own, .nm "n")], tsn)] _ (by simp [shD, prD, Tm.d_ap, Tm.d_nm]) (by simp) (by simp) ?_
    simp [or_and_right, exists_or, exists_eq_left, has_ap, has_nm]
    try (intro a b h; rcases h with ⟨_, rfl⟩ | ⟨_, rfl⟩ | ⟨_, rfl⟩ <;> simp)
    try (intro a b h; rcases h with ⟨_, rfl⟩ | ⟨_, rfl⟩ <;> simp)
  simp! []
  refine WIf_dec (fun h => ?_) fun h => ?_
  · simp! []
    refine fin [([], tz), ([(other, .nm "n")], tsn)] _ (by simp [shD, prD, Tm.d_ap, Tm.d_nm]) (by simp) (by simp) ?_
    simp [or_and_right, exists_or, exists_eq_left, has_ap, has_nm]
    try (intro a b h; rcases h with ⟨_, rfl⟩ | ⟨_, rfl⟩ | ⟨_, rfl⟩ <;> simp)
    try (intro a b h; rcases h with ⟨_, rfl⟩ | ⟨_, rfl⟩ <;> simp)
  simp! []
  refine WIf_dec (fun h => ?_) fun h => ?_
  · simp! []
    refine fin [([(other, tsn)], .nm "n")] _ (by simp [shD, prD, Tm.d_ap, Tm.d_nm]) (by simp) (by simp) ?_
    simp [or_and_right, exists_or, exists_eq_left, has_ap, has_nm]
    try (intro a b h; rcases h with ⟨_, rfl⟩ | ⟨_, rfl⟩ | ⟨_, rfl⟩ <;> simp)
    try (intro a b h; rcases h with ⟨_, rfl⟩ | ⟨_, rfl⟩ <;> simp)
  simp! []
  refine WIf_dec (fun h => ?_) fun h => ?_
  · simp! []
    refine fin [([(other, .nm "n"), (third, .nm "n")], tsn)] _ (by simp [shD, prD, Tm.d_ap, Tm.d_nm]) (by simp) (by simp) ?_
    simp [or_and_right, exists_or, exists_eq_left, has_ap, has_nm]
    try (intro a b h; rcases h with ⟨_, rfl⟩ | ⟨_, rfl⟩ | ⟨_, rfl⟩ <;> simp)
    try (intro a b h; rcases h with ⟨_, rfl⟩ | ⟨_, rfl⟩ <;> simp)
  simp! []
  refine WIf_dec (fun h => ?_) fun h => ?_
  · simp! []
    refine fin [([(other, .nm "n"), (third, .nm "n")], tz)] _ (by simp [shD, prD, Tm.d_ap, Tm.d_nm]) (by simp) (by simp) ?_
    simp [or_and_right, exists_or, exists_eq_left, has_ap, has_nm]
    try (intro a b h; rcases h with ⟨_, rfl⟩ | ⟨_, rfl⟩ | ⟨_, rfl⟩ <;> simp)
    try (intro a b h; rcases h with ⟨_, rfl⟩ | ⟨_, rfl⟩ <;> simp)
  simp! []
  refine WIf_dec (fun h => ?_) fun h => ?_
  · simp! []
    refine fin [([(own, .nm "n")], tsn)] _ (by simp [shD, prD, Tm.d_ap, Tm.d_nm]) (by simp) (by simp) ?_
    simp [or_and_right, exists_or, exists_eq_left, has_ap, has_nm]
    try (intro a b h; rcases h with ⟨_, rfl⟩ | ⟨_, rfl⟩ | ⟨_, rfl⟩ <;> simp)
    try (intro a b h; rcases h with ⟨_, rfl⟩ | ⟨_, rfl⟩ <;> simp)
  simp! []
  refine WIf_dec (fun h => ?_) fun h => ?_
  · simp! []
    refine fin [([], tz), ([(other, .nm "n")], tsn), ([(third, .nm "n")], tsn)] _ (by simp [shD, prD, Tm.d_ap, Tm.d_nm]) (by simp) (by simp) ?_
    simp [or_and_right, exists_or, exists_eq_left, has_ap, has_nm]
    try (intro a b h; rcases h with ⟨_, rfl⟩ | ⟨_, rfl⟩ | ⟨_, rfl⟩ <;> simp)
    try (intro a b h; rcases h with ⟨_, rfl⟩ | ⟨_, rfl⟩ <;> simp)
  simp! []
  refine WIf_dec (fun h => ?_) fun h => ?_
  · simp! []
    refine fin [([], tz), ([(own, .nm "n"), (other, .nm "m")], tpnm), ([(own, tpnm)], .nm "n")] _ (by simp [shD, prD, Tm.d_ap, Tm.d_nm]) (by simp) (by simp) ?_
    simp [or_and_right, exists_or, exists_eq_left, has_ap, has_nm]
    try (intro a b h; rcases h with ⟨_, rfl⟩ | ⟨_, rfl⟩ | ⟨_, rfl⟩ <;> simp)
    try (intro a b h; rcases h with ⟨_, rfl⟩ | ⟨_, rfl⟩ <;> simp)
  simp! []
  refine WIf_dec (fun h => ?_) fun h => ?_
  · simp! []
    refine fin [([], tz), ([(own, .nm "n")], tsn), ([(own, tsn)], .nm "n")] _ (by simp [shD, prD, Tm.d_ap, Tm.d_nm]) (by simp) (by simp) ?_
    simp [or_and_right, exists_or, exists_eq_left, has_ap, has_nm]
    try (intro a b h; rcases h with ⟨_, rfl⟩ | ⟨_, rfl⟩ | ⟨_, rfl⟩ <;> simp)
    try (intro a b h; rcases h with ⟨_, rfl⟩ | ⟨_, rfl⟩ <;> simp)
  simp! []
  refine WIf_dec (fun h => ?_) fun h => ?_
  · simp! []
    refine fin [([], to'), ([(other, .nm "n")], tsn)] _ (by simp [shD, prD, Tm.d_ap, Tm.d_nm]) (by simp) (by simp) ?_
    simp [or_and_right, exists_or, exists_eq_left, has_ap, has_nm]
    try (intro a b h; rcases h with ⟨_, rfl⟩ | ⟨_, rfl⟩ | ⟨_, rfl⟩ <;> simp)
    try (intro a b h; rcases h with ⟨_, rfl⟩ | ⟨_, rfl⟩ <;> simp)
  simp! []
  refine WIf_dec (fun h => ?_) fun h => ?_
  · simp! []
    refine fin [([], tz), ([(own, .nm "n"), (other, .nm "m"), (third, .nm "m")], tsn)] _ (by simp [shD, prD, Tm.d_ap, Tm.d_nm]) (by simp) (by simp) ?_
    simp [or_and_right, exists_or, exists_eq_left, has_ap, has_nm]
    try (intro a b h; rcases h with ⟨_, rfl⟩ | ⟨_, rfl⟩ | ⟨_, rfl⟩ <;> simp)
    try (intro a b h; rcases h with ⟨_, rfl⟩ | ⟨_, rfl⟩ <;> simp)
  simp! []
  refine fin [([], tz), ([(own, .nm "n"), (other, .nm "m")], tsn)] _ (by simp [shD, prD, Tm.d_ap, Tm.d_nm]) (by simp) (by simp) ?_
  simp [or_and_right, exists_or, exists_eq_left, has_ap, has_nm]
  try (intro a b h; rcases h with ⟨_, rfl⟩ | ⟨_, rfl⟩ | ⟨_, rfl⟩ <;> simp)
  try (intro a b h; rcases h with ⟨_, rfl⟩ | ⟨_, rfl⟩ <;> simp)
end
end Px
/-! A16: the law's table, made. -/
namespace Px
open PySem L2 Classical
def kW (i : Nat) : Str := (Str.ofString "K") ++ Str.ofString (toString (i : Int))
theorem kW_inj : ∀ i < 13, ∀ j < 13, kW i = kW j → i = j := by decide +kernel
theorem kW_len : ∀ i < 13, (Str.ofString "K").length + (Str.ofString (toString ((i : Nat) : Int))).length ≤ 16777216 := by decide +kernel
theorem small_log : ∀ i < 13, ((i : Nat) : Int).natAbs.log2 < 1920 := by decide +kernel
structure CsOk (cs : List Con) : Prop where
  ok : ∀ c ∈ cs, c.Ok
  ws : cs.map (·.w) = (List.range cs.length).map kW
theorem CsOk.add {cs : List Con} (h : CsOk cs) {s : List (Str × Tm) × Tm} (hs : ShOk s.1 s.2) (own : Str) : CsOk (cs ++ [⟨kW cs.length, s.1, own, s.2⟩]) := by
  refine ⟨fun c hc => ?_, ?_⟩
  · rcases List.mem_append.mp hc with hc | hc
    · exact h.ok c hc
    · simp only [List.mem_singleton] at hc
      subst hc
      exact ⟨hs.len, hs.wps, hs.wix, hs.dix, hs.has⟩
  · simp only [List.map_append, h.ws, List.map_cons, List.map_nil, List.length_append, List.length_cons, List.length_nil, Nat.zero_add, List.range_succ]
theorem CsOk.uq {cs : List Con} (h : CsOk cs) (hl : cs.length ≤ 12) : (cs.map (·.w)).Nodup := by
  rw [h.ws]
  rw [List.Nodup, List.pairwise_map]
  refine List.Pairwise.imp_of_mem (fun {i j} hi hj hne e => hne ?_) List.nodup_range
  exact kW_inj i (by have := List.mem_range.mp hi; omega) j (by have := List.mem_range.mp hj; omega) e
theorem memD_int (k : Int) (ks : List Int) : memD (.int k) (ks.map D.int) = some (decide (k ∈ ks)) := by
  rw [memD_nb (by simp [D.nb]) (D.nbs_all.mpr fun d h => by obtain ⟨x, _, rfl⟩ := List.mem_map.mp h; simp [D.nb]) (.inl (by simp [D.dep]))]
  have : (D.int k ∈ ks.map D.int) ↔ k ∈ ks := by
    constructor
    · intro h; obtain ⟨x, hx, e⟩ := List.mem_map.mp h; cases e; exact hx
    · intro h; exact List.mem_map.mpr ⟨k, h, rfl⟩
  simp only [this]
section
variable {tbl : Str → Option DefM}
theorem table_in {c : CallF} (s0 s1 s2 s5 : Sl) (own : Str) (st : Sto) (Q : Fl → ES → Prop) : ∀ (l : List (List (Str × Tm) × Tm)) (cs : List Con) (x6 x7 : Sl), (∀ s ∈ l, ShOk s.1 s.2) → CsOk cs → cs.length + l.length ≤ 12 →
    (∀ cs' x6 x7, CsOk cs' → cs'.length = cs.length + l.length → Q .nx ⟨[s0, s1, s2, .own (.lst (cs'.map Con.d)), .val (.str own), s5, x6, x7], st⟩) →
    FTurns c (.tup (.cons (.v 6) (.cons (.v 7) .nil))) l__law_table_1 (l.map shD) ⟨[s0, s1, s2, .own (.lst (cs.map Con.d)), .val (.str own), s5, x6, x7], st⟩ Q
  | [], cs, x6, x7, _, hc, _, q => q cs x6 x7 hc rfl
  | s :: l, cs, x6, x7, hs, hc, hl, q => by
    simp only [List.map_cons, FTurns]
    simp only [List.length_cons] at hl
    have h1 := small_log cs.length (by omega)
    have h2 := kW_len cs.length (by omega)
    simp! [l__law_table_1, shD, List.length_map, if_pos h1]
    rw [if_pos (by unfold sizeLine; omega)]
    simp! [List.length_map]
    refine ⟨by unfold sizeLine; omega, ?_⟩
    have e : cs.map Con.d ++ [D.tup [D.str (Str.ofString "K" ++ Str.ofString (toString ((cs.length : Nat) : Int))), D.tup (s.1.map prD), D.str own, s.2.d]] = (cs ++ [(⟨kW cs.length, s.1, own, s.2⟩ : Con)]).map Con.d := by
      simp only [List.map_append, List.map_cons, List.map_nil]; rfl
    rw [e]
    refine table_in s0 s1 s2 s5 own st Q l _ _ _ (fun t h => hs t (List.mem_cons_of_mem _ h)) (hc.add (hs s List.mem_cons_self) own) (by simp; omega) fun cs' x6 x7 h h2 => q cs' x6 x7 h (by simp at h2 ⊢; omega)
theorem str_mem {d : D} {fs : List Str} (h : d ∈ fs.map D.str) : ∃ x ∈ fs, d = .str x := by
  obtain ⟨x, hx, rfl⟩ := List.mem_map.mp h
  exact ⟨x, hx, rfl⟩
theorem table_out {n : Nat} (C : TblC tbl) (hn : 2 ≤ n) (mks : List D) (fams : List Str) (hf : 0 < fams.length) (hf4 : fams.length ≤ 4) (Q : Fl → ES → Prop) : ∀ (l : List Str) (cs : List Con) (st : Sto) (x4 x5 x6 x7 : Sl), OkS st → CsOk cs → cs.length + 3 * l.length ≤ 12 →
    (∀ cs' st' x4 x5 x6 x7, OkS st' → CsOk cs' → cs.length + l.length ≤ cs'.length → cs'.length ≤ 12 → Q .nx ⟨[.val (.hdl 1), .val (.tup mks), .val (.lst (fams.map D.str)), .own (.lst (cs'.map Con.d)), x4, x5, x6, x7], st'⟩) →
    FTurns (runF tbl n) (.v 4) l__law_table_2 (l.map D.str) ⟨[.val (.hdl 1), .val (.tup mks), .val (.lst (fams.map D.str)), .own (.lst (cs.map Con.d)), x4, x5, x6, x7], st⟩ Q
  | [], cs, st, x4, x5, x6, x7, hs, hc, hl, q => q cs st x4 x5 x6 x7 hs hc (by simp) (by simpa using hl)
  | own :: l, cs, st, x4, x5, x6, x7, hs, hc, hl, q => by
    simp only [List.map_cons, FTurns]
    simp only [List.length_cons] at hl
    simp! [l__law_table_2]
    refine WCall_mono _ (draw_ok C (by omega) 16 (by decide) (by decide) hs) fun d st1 hd => ?_
    obtain ⟨hs1, v, rfl, hv1, hv2⟩ := hd
    have em : memD (.int v) [.int 11, .int 13] = some (decide (v ∈ [11, 13])) := memD_int v [11, 13]
    have rest : ∀ v : Int, WS (runF tbl n) (.forS (.tup (.cons (.v 6) (.cons (.v 7) .nil))) (.p (.e (.call "_law_shape" (.cons (.var 5) (.cons (.var 4) (.cons (.call "_law_pick" (.cons (.var 0) (.cons (.var 2) .nil))) (.cons (.call "_law_pick" (.cons (.var 0) (.cons (.var 2) .nil))) .nil))))))) l__law_table_1)
        ⟨[.val (.hdl 1), .val (.tup mks), .val (.lst (fams.map D.str)), .own (.lst (cs.map Con.d)), .val (.str own), .val (.int v), x6, x7], st1⟩ (seqQ (runF tbl n) .nil (forQ (fun S => FTurns (runF tbl n) (.v 4) l__law_table_2 (l.map D.str) S Q) Q)) := fun v => by
      refine WS_for _ _ _ _ _ _ ?_
      simp! []
      refine WCall_mono _ (pick_ok C (by omega) _ (fams.map D.str) (.inl rfl) (by simpa using hf) (by simp; omega) hs1) fun d st2 hd => ?_
      obtain ⟨hs2, hd2⟩ := hd
      obtain ⟨other, _, rfl⟩ := str_mem hd2
      simp! []
      refine WCall_mono _ (pick_ok C (by omega) _ (fams.map D.str) (.inl rfl) (by simpa using hf) (by simp; omega) hs2) fun d st3 hd => ?_
      obtain ⟨hs3, hd3⟩ := hd
      obtain ⟨third, _, rfl⟩ := str_mem hd3
      simp! []
      refine WCall_mono _ (shape_ok C (by omega) v own other third st3) fun d st4 hd => ?_
      obtain ⟨rfl, sl, rfl, h1, h3, hsl⟩ := hd
      simp! []
      refine table_in _ _ _ _ own st4 _ sl cs _ _ hsl hc (by omega) fun cs' x6 x7 hc' hl' => ?_
      simp! []
      exact table_out C hn mks fams hf hf4 Q l cs' st4 _ _ _ _ hs3 hc' (by omega) fun cs2 st2 x4 x5 x6 x7 a b c d => q cs2 st2 x4 x5 x6 x7 a b (by simp; omega) d
    simp! [em]
    refine WIf_mk (fun h1 => ?_) fun h1 => ?_
    · simp! [em]
      refine WIf_mk (fun h2 => ?_) fun h2 => ?_
      · simp! []
        exact rest 0
      · simp! []
        exact rest v
    · simp! []
      exact rest v
theorem table_ok (C : TblC tbl) {n : Nat} (hn : 3 ≤ n) {st : Sto} (hs : OkS st) : WCall (runF tbl n) "_law_table" [.hdl 1] st fun d st' => OkS st' ∧ ∃ T : Tab, d = T.d ∧ T.Ok ∧ T.Uq ∧ T.cs.map (·.w) = (List.range T.cs.length).map kW ∧ 0 < T.cs.length ∧ T.cs.length ≤ 12 ∧ 0 < T.fams.length ∧ T.fams.length ≤ 4 := by
  obtain ⟨n, rfl⟩ : ∃ k, n = k + 1 := ⟨n - 1, by omega⟩
  refine WCall_run C.table rfl ?_
  simp only [m__law_table]
  simp! []
  refine WCall_mono _ (draw_ok C (by omega) 3 (by decide) (by decide) hs) fun d st1 hd => ?_
  obtain ⟨hs1, v, rfl, hv1, hv2⟩ := hd
  have hv : v.toNat < 3 := by omega
  have e1 : ∃ k : Nat, atI [D.int 2, D.int 2, D.int 4] v = some (.int k) := by
    rw [atI_int _ _ hv1]
    rcases (show v.toNat = 0 ∨ v.toNat = 1 ∨ v.toNat = 2 by omega) with e | e | e <;> rw [e]
    · exact ⟨2, rfl⟩
    · exact ⟨2, rfl⟩
    · exact ⟨4, rfl⟩
  obtain ⟨k, e1⟩ := e1
  simp! [e1, cutD_take]
  refine WCall_mono _ (draw_ok C (by omega) 3 (by decide) (by decide) hs1) fun d st2 hd => ?_
  obtain ⟨hs2, v2, rfl, hv3, hv4⟩ := hd
  have e2 : (2 + v2) = ((2 + v2.toNat : Nat) : Int) := by omega
  simp! []
  rw [e2]
  simp! [cutD_take]
  have e3 : ([D.str (Str.ofString "Fa"), D.str (Str.ofString "Fb"), D.str (Str.ofString "Fc"), D.str (Str.ofString "Fd")].take (2 + v2.toNat)) = ((["Fa", "Fb", "Fc", "Fd"] : List Str).take (2 + v2.toNat)).map D.str := by
    rw [List.map_take]; rfl
  rw [e3]
  have hfl : ((["Fa", "Fb", "Fc", "Fd"] : List Str).take (2 + v2.toNat)).length = min (2 + v2.toNat) 4 := by rw [List.length_take]; rfl
  generalize ((["Fa", "Fb", "Fc", "Fd"] : List Str).take (2 + v2.toNat)) = fams at hfl
  refine WS_for _ _ _ _ _ _ ?_
  simp! []
  refine table_out C (by omega) _ fams (by omega) (by omega) _ fams [] st2 _ _ _ _ hs2 ⟨fun _ h => (nomatch h), rfl⟩ (by simp; omega) fun cs' st' x4 x5 x6 x7 h1 h2 h3 h4 => ?_
  simp! []
  have q1 : cs'.length ≤ 100 := by omega
  have q2 : 0 < cs'.length := by simp only [List.length_nil] at h3; omega
  have q3 : 0 < fams.length := by omega
  have q4 : fams.length ≤ 4 := by omega
  exact ⟨h1, ⟨_, fams, cs'⟩, rfl, ⟨q1, h2.ok⟩, h2.uq h4, h2.ws, q2, h4, q3, q4⟩
end
end Px
/-! A17: heads of functions. -/
namespace Px
open PySem L2 Classical
def fW (i : Nat) : Str := (Str.ofString "f") ++ Str.ofString (toString (i : Int))
theorem fW_inj : ∀ i < 4, ∀ j < 4, fW i = fW j → i = j := by decide +kernel
theorem fW_len : ∀ i < 4, (Str.ofString "f").length + (Str.ofString (toString ((i : Nat) : Int))).length ≤ 16777216 := by decide +kernel
theorem fW_kW : ∀ i < 4, ∀ j < 13, ¬ kW j = fW i := by decide +kernel
/-- a head's datum -/
def hdT (f : Fun) : D := .tup [.str f.w, .tup (f.ps.map prD), .str f.fam, f.ix.d, .int f.at']
structure HeadOk (f : Fun) : Prop where
  ok : FunOk f
  pos : 0 < f.ps.length
  at' : f.at' < f.ps.length
structure HsOk (hs : List Fun) : Prop where
  ok : ∀ f ∈ hs, HeadOk f
  ws : hs.map (·.w) = (List.range hs.length).map fW
  le : hs.length ≤ 3
abbrev na : Tm := .nm "a"
abbrev nb : Tm := .nm "b"
abbrev tsa : Tm := .ap "s" [.nm "a"]
theorem tsa_W : tsa.W okI := .ap okI_s fun t h => by simp only [List.mem_singleton] at h; subst h; exact .nm _
theorem head_mk {f : Fun} (h0 : 0 < f.ps.length) (h1 : f.ps.length ≤ 3) (h2 : ∀ p ∈ f.ps, p.2 = na ∨ p.2 = nb ∨ p.2 = tsa) (h3 : f.ix = na ∨ f.ix = nb ∨ f.ix = tsa ∨ f.ix = tz) (h4 : ∀ x, f.ix.Has x → ∃ t ∈ f.ps.map (·.2), t.Has x) (h5 : f.at' < f.ps.length) : HeadOk f := by
  refine ⟨⟨⟨h1, fun p hp => ?_⟩, ?_, ?_, fun x hx => ?_⟩, h0, h5⟩
  · rcases h2 p hp with e | e | e <;> rw [e]
    · exact ⟨.nm _, by simp [Tm.dep, Tm.deps], by simp [Tm.sz, Tm.szs]⟩
    · exact ⟨.nm _, by simp [Tm.dep, Tm.deps], by simp [Tm.sz, Tm.szs]⟩
    · exact ⟨tsa_W, by simp [Tm.dep, Tm.deps], by simp [Tm.sz, Tm.szs]⟩
  · rcases h3 with e | e | e | e <;> rw [e]
    · exact .nm _
    · exact .nm _
    · exact tsa_W
    · exact tz_W
  · rcases h3 with e | e | e | e <;> rw [e] <;> simp [Tm.dep, Tm.deps]
  · obtain ⟨t, ht, k⟩ := h4 x hx
    obtain ⟨p, hp, rfl⟩ := List.mem_map.mp ht
    exact ⟨p, hp, k⟩
section
variable {tbl : Str → Option DefM}
def consF (T : Tab) (fam : Str) : List Con := T.cs.filter fun c => decide (c.fam = fam)
theorem cons_ok (C : TblC tbl) {n : Nat} (hn : 1 ≤ n) {T : Tab} (hT : T.Ok) (fam : Str) (st : Sto) : runF tbl n "_law_constructors" [T.d, .str fam] st = some (.lst ((consF T fam).map Con.d), st) := by
  obtain ⟨n, rfl⟩ : ∃ k, n = k + 1 := ⟨n - 1, by omega⟩
  have l100 := hT.1
  refine WCall_val (WCall_run C.cons rfl ?_)
  simp only [m__law_constructors]
  simp! []
  refine WL_comp _ _ _ _ _ _ _ _ ?_
  simp! [Tab.d]
  refine ⟨by simp [sizeLine]; omega, ?_⟩
  simp! []
  refine LTurns_filter (p := fun c : Con => decide (c.fam = fam)) (g := Con.d) _ (fun k hk K kk => ?_) ?_
  · unfold LTurn
    simp! [Con.d]
    refine WIf_dec (fun h => ?_) fun h => ?_
    · simp! []
      rw [decide_eq_true h, if_pos rfl] at kk
      exact kk
    · simp! []
      rw [decide_eq_false h, if_neg nofun] at kk
      exact kk
  simp! [consF]
theorem heads_end {c : CallF} (C : TblC tbl) {n : Nat} (hn : 1 ≤ n) (T : Tab) (Q : Fl → ES → Prop) (hs : List Fun) (st : Sto) (x4 x5 x6 x7 : Sl) (ps : List (Str × Tm)) (fam : Str) (ix : Tm) (ho : OkS st) (hH : HsOk hs) (hl : hs.length < 3)
    (h0 : 0 < ps.length) (h1 : ps.length ≤ 3) (h2 : ∀ p ∈ ps, p.2 = na ∨ p.2 = nb ∨ p.2 = tsa) (h3 : ix = na ∨ ix = nb ∨ ix = tsa ∨ ix = tz) (h4 : ∀ x, ix.Has x → ∃ t ∈ ps.map (·.2), t.Has x)
    (q : ∀ hs' st' x4 x5 x6 x7 x8 x9 x10, OkS st' → HsOk hs' → hs'.length = hs.length + 1 → Q .nx ⟨[.val (.hdl 1), .val T.d, .own (.lst (hs'.map hdT)), .val (.int (0 + (hs.length : Int))), x4, x5, x6, x7, x8, x9, x10], st'⟩) :
    WS (runF tbl n) (.app 2 (.tup (.cons (.bin .add (.str "f") (.toStr (.var 3))) (.cons (.var 8) (.cons (.var 9) (.cons (.var 10) (.cons (.call "_law_draw" (.cons (.var 0) (.cons (.len (.s 8)) .nil))) .nil))))))) ⟨[.val (.hdl 1), .val T.d, .own (.lst (hs.map hdT)), .val (.int (0 + (hs.length : Int))), x4, x5, x6, x7, .val (.tup (ps.map prD)), .val (.str fam), .val ix.d], st⟩ Q := by
  have e0 : (0 : Int) + (hs.length : Int) = (hs.length : Int) := by omega
  rw [e0] at q ⊢
  have s1 := small_log hs.length (by omega)
  have s2 := fW_len hs.length (by omega)
  simp! [if_pos s1]
  rw [if_pos (by unfold sizeLine; omega)]
  simp! [List.length_map]
  refine WCall_mono _ (draw_ok C (by omega) ps.length (by omega) (by omega) ho) fun d st1 hd => ?_
  obtain ⟨hs1, v, rfl, hv1, hv2⟩ := hd
  have ev : v = ((v.toNat : Nat) : Int) := by omega
  simp! [List.length_map]
  refine ⟨by unfold sizeLine; omega, ?_⟩
  have e : hs.map hdT ++ [D.tup [D.str (Str.ofString "f" ++ Str.ofString (toString ((hs.length : Nat) : Int))), D.tup (ps.map prD), D.str fam, ix.d, D.int v]] = (hs ++ [(⟨fW hs.length, ps, fam, ix, v.toNat, []⟩ : Fun)]).map hdT := by
    rw [ev]
    simp only [List.map_append, List.map_cons, List.map_nil, Int.toNat_natCast]; rfl
  rw [e]
  refine q _ st1 _ _ _ _ _ _ _ hs1 ⟨fun f hf => ?_, ?_, by simp; omega⟩ (by simp)
  · rcases List.mem_append.mp hf with hf | hf
    · exact hH.ok f hf
    · simp only [List.mem_singleton] at hf
      subst hf
      exact head_mk h0 h1 h2 h3 h4 (by show v.toNat < ps.length; omega)
  · simp only [List.map_append, hH.ws, List.map_cons, List.map_nil, List.length_append, List.length_cons, List.length_nil, Nat.zero_add, List.range_succ]
theorem heads_loop {n : Nat} (C : TblC tbl) (hn : 2 ≤ n) (T : Tab) (hf : 0 < T.fams.length) (hf4 : T.fams.length ≤ 4) (Q : Fl → ES → Prop) : ∀ (m : Nat) (hs : List Fun) (st : Sto) (x3 x4 x5 x6 x7 x8 x9 x10 : Sl), OkS st → HsOk hs → hs.length + m ≤ 3 →
    (∀ hs' st' x3 x4 x5 x6 x7 x8 x9 x10, OkS st' → HsOk hs' → hs'.length = hs.length + m → Q .nx ⟨[.val (.hdl 1), .val T.d, .own (.lst (hs'.map hdT)), x3, x4, x5, x6, x7, x8, x9, x10], st'⟩) →
    FTurns (runF tbl n) (.v 3) l__law_heads_1 ((List.range' hs.length m).map fun i : Nat => D.int (0 + i)) ⟨[.val (.hdl 1), .val T.d, .own (.lst (hs.map hdT)), x3, x4, x5, x6, x7, x8, x9, x10], st⟩ Q
  | 0, hs, st, x3, x4, x5, x6, x7, x8, x9, x10, ho, hH, hl, q => q hs st x3 x4 x5 x6 x7 x8 x9 x10 ho hH rfl
  | m + 1, hs, st, x3, x4, x5, x6, x7, x8, x9, x10, ho, hH, hl, q => by
    rw [List.range'_succ]
    simp only [List.map_cons, FTurns]
    have hfp : 0 < (T.fams.map D.str).length := by simpa using hf
    have hfp2 : (T.fams.map D.str).length < 1073741824 := by simp; omega
    simp! [l__law_heads_1, Tab.d]
    refine WCall_mono _ (pick_ok C (by omega) _ (T.fams.map D.str) (.inr rfl) hfp hfp2 ho) fun d st1 hd => ?_
    obtain ⟨hs1, hd⟩ := hd
    obtain ⟨one, _, rfl⟩ := str_mem hd
    simp! [Tab.d]
    refine WCall_mono _ (pick_ok C (by omega) _ (T.fams.map D.str) (.inr rfl) hfp hfp2 hs1) fun d st2 hd => ?_
    obtain ⟨hs2, hd⟩ := hd
    obtain ⟨other, _, rfl⟩ := str_mem hd
    simp! [Tab.d]
    refine WCall_mono _ (pick_ok C (by omega) _ (T.fams.map D.str) (.inr rfl) hfp hfp2 hs2) fun d st3 hd => ?_
    obtain ⟨hs3, hd⟩ := hd
    obtain ⟨made, _, rfl⟩ := str_mem hd
    simp! []
    refine WCall_mono _ (draw_ok C (by omega) 7 (by decide) (by decide) hs3) fun d st4 hd => ?_
    obtain ⟨hs4, kind, rfl, hk1, hk2⟩ := hd
    have fin : ∀ (ps : List (Str × Tm)) (fam : Str) (ix : Tm) (st : Sto), OkS st → 0 < ps.length → ps.length ≤ 3 → (∀ p ∈ ps, p.2 = na ∨ p.2 = nb ∨ p.2 = tsa) → (ix = na ∨ ix = nb ∨ ix = tsa ∨ ix = tz) → (∀ x, ix.Has x → ∃ t ∈ ps.map (·.2), t.Has x) →
        WS (runF tbl n) (.app 2 (.tup (.cons (.bin .add (.str "f") (.toStr (.var 3))) (.cons (.var 8) (.cons (.var 9) (.cons (.var 10) (.cons (.call "_law_draw" (.cons (.var 0) (.cons (.len (.s 8)) .nil))) .nil))))))) ⟨[.val (.hdl 1), .val T.d, .own (.lst (hs.map hdT)), .val (.int (0 + (hs.length : Int))), .val (.str made), .val (.int kind), .val (.str one), .val (.str other), .val (.tup (ps.map prD)), .val (.str fam), .val ix.d], st⟩ (seqQ (runF tbl n) .nil (forQ (fun S => FTurns (runF tbl n) (.v 3) l__law_heads_1 ((List.range' (hs.length + 1) m).map fun i : Nat => D.int (0 + i)) S Q) Q)) :=
      fun ps fam ix st ho' a0 a1 a2 a3 a4 => heads_end (c := runF tbl n) C (by omega) T _ hs st _ _ _ _ ps fam ix ho' hH (by omega) a0 a1 a2 a3 a4 fun hs' st' x4 x5 x6 x7 x8 x9 x10 b1 b2 b3 => by
        simp! []
        rw [← b3]
        exact heads_loop C hn T hf hf4 Q m hs' st' _ _ _ _ _ _ _ _ b1 b2 (by omega) fun hs2 st2 x3 x4 x5 x6 x7 x8 x9 x10 c1 c2 c3 => q hs2 st2 x3 x4 x5 x6 x7 x8 x9 x10 c1 c2 (by omega)
    simp! [Tab.d] at fin
    simp! [Tab.d]
    refine WIf_dec (fun h => ?_) fun h => ?_
    · simp! [Tab.d]
      have := fin [(one, na)] one na st4 hs4 (by simp) (by simp) (by simp) (by simp) (by simp [has_nm])
      simp! [prD] at this
      exact this
    simp! [Tab.d]
    refine WIf_dec (fun h => ?_) fun h => ?_
    · simp! [Tab.d]
      have := fin [(one, na), (other, na)] one na st4 hs4 (by simp) (by simp) (by simp) (by simp) (by simp [has_nm])
      simp! [prD] at this
      exact this
    simp! [Tab.d]
    refine WIf_dec (fun h => ?_) fun h => ?_
    · simp! [Tab.d]
      have := fin [(one, na), (other, nb)] other nb st4 hs4 (by simp) (by simp) (by simp) (by simp) (by simp [has_nm])
      simp! [prD] at this
      exact this
    simp! [Tab.d]
    refine WIf_dec (fun h => ?_) fun h => ?_
    · simp! [Tab.d]
      have := fin [(one, tsa)] made na st4 hs4 (by simp) (by simp) (by simp) (by simp) (by simp [has_nm, has_ap])
      simp! [prD] at this
      exact this
    simp! [Tab.d]
    refine WIf_dec (fun h => ?_) fun h => ?_
    · simp! [Tab.d]
      refine WCall_mono _ (draw_ok C (by omega) 2 (by decide) (by decide) hs4) fun d st5 hd => ?_
      obtain ⟨hs5, v, rfl, hv1, hv2⟩ := hd
      have e1 : ∃ ix : Tm, atI [D.tup [D.str (Str.ofString "s"), D.str (Str.ofString "a")], D.str (Str.ofString "a")] v = some ix.d ∧ (ix = na ∨ ix = tsa) := by
        rw [atI_int _ _ hv1]
        rcases (show v.toNat = 0 ∨ v.toNat = 1 by omega) with e | e <;> rw [e]
        · exact ⟨tsa, by simp [Tm.d_ap, Tm.d_nm], .inr rfl⟩
        · exact ⟨na, by simp [Tm.d_ap, Tm.d_nm], .inl rfl⟩
      obtain ⟨ix, e1, e2⟩ := e1
      simp! [e1]
      have := fin [(one, na), (other, tsa)] made ix st5 hs5 (by simp) (by simp) (by simp) (by rcases e2 with rfl | rfl <;> simp) (by rcases e2 with rfl | rfl <;> simp [has_nm, has_ap])
      simp! [prD] at this
      exact this
    simp! [Tab.d]
    refine WIf_dec (fun h => ?_) fun h => ?_
    · simp! [Tab.d]
      have := fin [(one, na), (other, nb), (one, nb)] one na st4 hs4 (by simp) (by simp) (by simp) (by simp) (by simp [has_nm])
      simp! [prD] at this
      exact this
    simp! [Tab.d]
    refine WCall_mono _ (draw_ok C (by omega) 3 (by decide) (by decide) hs4) fun d st5 hd => ?_
    obtain ⟨hs5, v, rfl, hv1, hv2⟩ := hd
    have e1 : ∃ ix : Tm, atI [D.str (Str.ofString "a"), D.tup [D.str (Str.ofString "s"), D.str (Str.ofString "a")], D.tup [D.str (Str.ofString "z")]] v = some ix.d ∧ (ix = na ∨ ix = tsa ∨ ix = tz) := by
      rw [atI_int _ _ hv1]
      rcases (show v.toNat = 0 ∨ v.toNat = 1 ∨ v.toNat = 2 by omega) with e | e | e <;> rw [e]
      · exact ⟨na, by simp [Tm.d_ap, Tm.d_nm], .inl rfl⟩
      · exact ⟨tsa, by simp [Tm.d_ap, Tm.d_nm], .inr (.inl rfl)⟩
      · exact ⟨tz, by simp [Tm.d_ap, Tm.d_nm], .inr (.inr rfl)⟩
    obtain ⟨ix, e1, e2⟩ := e1
    simp! [e1]
    have := fin [(one, na)] made ix st5 hs5 (by simp) (by simp) (by simp) (by rcases e2 with rfl | rfl | rfl <;> simp) (by rcases e2 with rfl | rfl | rfl <;> simp [has_nm, has_ap])
    simp! [prD] at this
    exact this
theorem heads_ok {n : Nat} (C : TblC tbl) (hn : 3 ≤ n) {T : Tab} (hf : 0 < T.fams.length) (hf4 : T.fams.length ≤ 4) {st : Sto} (ho : OkS st) : WCall (runF tbl n) "_law_heads" [.hdl 1, T.d] st fun d st' => OkS st' ∧ ∃ hs : List Fun, d = .lst (hs.map hdT) ∧ HsOk hs ∧ 0 < hs.length := by
  obtain ⟨n, rfl⟩ : ∃ k, n = k + 1 := ⟨n - 1, by omega⟩
  refine WCall_run C.heads rfl ?_
  simp only [m__law_heads]
  simp! []
  refine WS_for _ _ _ _ _ _ ?_
  simp! []
  refine WCall_mono _ (draw_ok C (by omega) 3 (by decide) (by decide) ho) fun d st1 hd => ?_
  obtain ⟨hs1, v, rfl, hv1, hv2⟩ := hd
  simp! []
  rw [if_pos (by omega)]
  simp! [rngD_eq, List.range_eq_range']
  have e : (1 + v).toNat = 1 + v.toNat := by omega
  rw [e]
  have := heads_loop C (n := n) (by omega) T hf hf4
  refine this _ (1 + v.toNat) [] st1 _ _ _ _ _ _ _ _ hs1 ⟨fun _ h => (nomatch h), rfl, by simp⟩ (by simp; omega) fun hs' st' x3 x4 x5 x6 x7 x8 x9 x10 h1 h2 h3 => ?_
  simp! []
  exact ⟨h1, hs', rfl, h2, by simp at h3; omega⟩
end
end Px
/-! A18: patterns. -/
namespace Px
open PySem L2 Classical
/-- rows of patterns -/
structure PatG (T : Tab) (m : Nat) (ps : List Tm) : Prop where
  len : ps.length = m
  w : ∀ p ∈ ps, p.W T.okC ∧ p.dep ≤ 2 ∧ p.sz ≤ 100
def rowD (ps : List Tm) : D := .tup (ps.map Tm.d)
def nmK (p : String) (i : Nat) : Tm := .nm (Str.ofString p ++ Str.ofString (toString (0 + (i : Int))))
theorem nmK_len : ∀ p ∈ ["x", "y", "u", "w"], ∀ i < 13, (Str.ofString p).length + (Str.ofString (toString (0 + ((i : Nat) : Int)))).length ≤ 16777216 := by decide +kernel
theorem nmK9_len : ∀ i < 13, (Str.ofString "x").length + (Str.ofString (toString (9 * (0 + ((i : Nat) : Int))))).length ≤ 16777216 := by decide +kernel
theorem small_log0 : ∀ i < 13, (0 + ((i : Nat) : Int)).natAbs.log2 < 1920 := by decide +kernel
theorem small_log9 : ∀ i < 13, (9 * (0 + ((i : Nat) : Int))).natAbs.log2 < 1920 := by decide +kernel
/-- a constructor over names -/
def conN (p : String) (c : Con) : Tm := .ap c.w ((List.range c.ps.length).map (nmK p))
theorem nms_W {ok : Str → Nat → Prop} (p : String) (m : Nat) : ∀ t ∈ (List.range m).map (nmK p), t.W ok ∧ t.dep ≤ 0 ∧ t.sz ≤ 1 := fun t ht => by
  obtain ⟨i, _, rfl⟩ := List.mem_map.mp ht
  exact ⟨.nm _, by simp [nmK, Tm.dep], by simp [nmK, Tm.sz]⟩
theorem sz_ap {w : Str} {ts : List Tm} {k : Nat} (h : ∀ t ∈ ts, t.sz ≤ k) : (Tm.ap w ts).sz ≤ ts.length * k + 1 := by
  have := szs_le h
  simp only [Tm.sz]; omega
theorem conN_ok {T : Tab} (hT : T.Ok) (hU : T.Uq) (p : String) {c : Con} (hc : c ∈ T.cs) : (conN p c).W T.okC ∧ (conN p c).dep ≤ 1 ∧ (conN p c).sz ≤ 4 := by
  have l3 := (hT.2 c hc).len
  refine ⟨.ap ⟨c, T.find_uq hU hc rfl, by simp⟩ fun t ht => (nms_W p _ t ht).1, Tm.dep_ap.mpr fun t ht => (nms_W (ok := T.okC) p _ t ht).2.1, ?_⟩
  have := sz_ap (w := c.w) (k := 1) fun t ht => (nms_W (ok := T.okC) p c.ps.length t ht).2.2
  simp only [List.length_map, List.length_range] at this
  show (Tm.ap c.w ((List.range c.ps.length).map (nmK p))).sz ≤ 4
  omega
theorem con_mem {T : Tab} {fam : Str} {d : D} (h : d ∈ (consF T fam).map Con.d) : ∃ c ∈ T.cs, d = c.d := by
  obtain ⟨c, hc, rfl⟩ := List.mem_map.mp h
  exact ⟨c, (List.mem_filter.mp hc).1, rfl⟩
theorem consF_len {T : Tab} (fam : Str) : (consF T fam).length ≤ T.cs.length := List.length_filter_le _ _
section
variable {tbl : Str → Option DefM}
theorem deeper_ok {n : Nat} (C : TblC tbl) (hn : 3 ≤ n) {T : Tab} (hT : T.Ok) (hU : T.Uq) {c : Con} (hc : c ∈ T.cs) {st : Sto} (ho : OkS st) : WCall (runF tbl n) "_law_deeper" [.hdl 1, T.d, c.d, (conN "x" c).d] st fun d st' => OkS st' ∧ ∃ t : Tm, d = t.d ∧ t.W T.okC ∧ t.dep ≤ 2 ∧ t.sz ≤ 100 := by
  obtain ⟨n, rfl⟩ : ∃ k, n = k + 1 := ⟨n - 1, by omega⟩
  refine WCall_run C.deeper rfl ?_
  simp only [m__law_deeper]
  have hcn := conN_ok hT hU "x" hc
  have l100 := hT.1
  have l3 := (hT.2 c hc).len
  have fst : ∀ st', OkS st' → (OkS st' ∧ ∃ t : Tm, (conN "x" c).d = t.d ∧ t.W T.okC ∧ t.dep ≤ 2 ∧ t.sz ≤ 100) := fun st' h => ⟨h, _, rfl, hcn.1, by omega, by omega⟩
  simp! []
  refine WCall_mono _ (draw_ok C (by omega) 4 (by decide) (by decide) ho) fun d st1 hd => ?_
  obtain ⟨hs1, v, rfl, hv1, hv2⟩ := hd
  simp! [Con.d, List.length_map]
  refine WIf_dec (fun h => ?_) fun h => ?_
  · simp! []
    exact fst st1 hs1
  have hv : v.toNat < c.ps.length := by omega
  simp! [atI_int _ _ hv1, List.getElem?_map, List.getElem?_eq_getElem hv, Option.map_some, prD]
  refine WCall_of _ (cons_ok C (by omega) hT _ st1) ?_
  simp! [List.length_map]
  refine WIf_dec (fun h => ?_) fun h => ?_
  · simp! []
    exact fst st1 hs1
  simp! []
  have hcl := consF_len (T := T) c.ps[v.toNat].1
  refine WCall_mono _ (pick_ok C (by omega) _ _ (.inl rfl) (by rw [List.length_map]; omega) (by rw [List.length_map]; omega) hs1) fun d st2 hd => ?_
  obtain ⟨hs2, hd2⟩ := hd
  obtain ⟨c2, hc2, rfl⟩ := con_mem hd2
  have l32 := (hT.2 c2 hc2).len
  simp! [Con.d]
  refine WL_comp _ _ _ _ _ _ _ _ ?_
  simp! [Con.d, List.length_map]
  rw [if_pos (rng_bound (by unfold sizeLine; omega))]
  simp! [rngD_eq, Int.toNat_natCast]
  refine ⟨by simp [sizeLine]; omega, ?_⟩
  simp! []
  refine LTurns_map (g := fun i : Nat => (nmK "u" i).d) _ (fun i hi K k => ?_) ?_
  · have hi := List.mem_range.mp hi
    unfold LTurn
    simp! [if_pos (small_log0 i (by omega)), if_pos (show (Str.ofString "u").length + (Str.ofString (toString (0 + ((i : Nat) : Int)))).length ≤ sizeLine from nmK_len "u" (by simp) i (by omega))]
    exact k
  simp! [List.length_map, List.length_range]
  rw [if_pos (by unfold sizeLine; omega)]
  have e1 : (1 : Int) + v = ((1 + v.toNat : Nat) : Int) := by omega
  have e2 : (2 : Int) + v = ((2 + v.toNat : Nat) : Int) := by omega
  have ex : (conN "x" c).d = .tup (.str c.w :: ((List.range c.ps.length).map (nmK "x")).map Tm.d) := by simp only [conN, Tm.d_ap]
  simp! [e1, ex, cutD_take, List.length_take, List.length_cons, List.length_map, List.length_range]
  rw [if_pos (by unfold sizeLine; omega)]
  simp! [e2, ex, cutD_drop, List.length_drop, List.length_append, List.length_take, List.length_cons, List.length_map, List.length_range]
  rw [if_pos (by simp [sizeLine]; omega)]
  simp! []
  refine ⟨hs2, .ap c.w (((List.range c.ps.length).map (nmK "x")).take v.toNat ++ [conN "u" c2] ++ ((List.range c.ps.length).map (nmK "x")).drop (v.toNat + 1)), ?_, ?_, ?_, ?_⟩
  · have e3 : 1 + v.toNat = v.toNat + 1 := by omega
    have e4 : 2 + v.toNat = (v.toNat + 1) + 1 := by omega
    rw [Tm.d_ap, e3, e4, List.take_succ_cons, List.drop_succ_cons]
    simp [conN, Tm.d_ap, List.map_take, List.map_drop]
  all_goals
    have hmem : ∀ t ∈ (((List.range c.ps.length).map (nmK "x")).take v.toNat ++ [conN "u" c2] ++ ((List.range c.ps.length).map (nmK "x")).drop (v.toNat + 1)), t.W T.okC ∧ t.dep ≤ 1 ∧ t.sz ≤ 4 := fun t ht => by
      rcases List.mem_append.mp ht with ht | ht
      · rcases List.mem_append.mp ht with ht | ht
        · have q := nms_W (ok := T.okC) "x" _ t (List.mem_of_mem_take ht)
          exact ⟨q.1, by omega, by omega⟩
        · simp only [List.mem_singleton] at ht
          subst ht
          exact conN_ok hT hU "u" hc2
      · have q := nms_W (ok := T.okC) "x" _ t (List.mem_of_mem_drop ht)
        exact ⟨q.1, by omega, by omega⟩
    have hlen : (((List.range c.ps.length).map (nmK "x")).take v.toNat ++ [conN "u" c2] ++ ((List.range c.ps.length).map (nmK "x")).drop (v.toNat + 1)).length = c.ps.length := by
      simp; omega
  · exact .ap ⟨c, T.find_uq hU hc rfl, hlen.symm⟩ fun t ht => (hmem t ht).1
  · exact Tm.dep_ap.mpr fun t ht => (hmem t ht).2.1
  · have := sz_ap (w := c.w) fun t ht => (hmem t ht).2.2
    rw [hlen] at this
    omega
end
end Px
/-! A19: rows of patterns. -/
namespace Px
open PySem L2 Classical
def wrest (m : Nat) : List Tm := if m = 3 then [Tm.nm "w"] else []
theorem mul_w (m : Nat) (h1 : 0 < m) (h3 : m ≤ 3) : bop .mul (.tup [.str "w"]) (.int (if ((m : Int) - 2) > 0 then (m : Int) - 2 else 0)) = some (.tup ((wrest m).map Tm.d)) := by
  rcases (show m = 1 ∨ m = 2 ∨ m = 3 by omega) with rfl | rfl | rfl
  · simp [bop, wrest]
  · simp [bop, wrest]
  · simp [bop, wrest, Tm.d]
theorem wrest_ok {T : Tab} (m : Nat) : ∀ t ∈ wrest m, t.W T.okC ∧ t.dep ≤ 2 ∧ t.sz ≤ 100 := fun t ht => by
  unfold wrest at ht
  split at ht
  · simp only [List.mem_singleton] at ht; subst ht; exact ⟨.nm _, by simp [Tm.dep], by simp [Tm.sz]⟩
  · cases ht
theorem pat_mk {T : Tab} {m : Nat} (h1 : 0 < m) (h3 : m ≤ 3) {a b : Tm} (ha : a.W T.okC ∧ a.dep ≤ 2 ∧ a.sz ≤ 100) (hb : b.W T.okC ∧ b.dep ≤ 2 ∧ b.sz ≤ 100) : PatG T m ([a, b].take m ++ wrest m) := by
  refine ⟨?_, fun p hp => ?_⟩
  · rcases (show m = 1 ∨ m = 2 ∨ m = 3 by omega) with rfl | rfl | rfl <;> simp [wrest]
  · rcases List.mem_append.mp hp with hp | hp
    · have := List.mem_of_mem_take hp
      simp only [List.mem_cons, List.not_mem_nil, or_false] at this
      rcases this with rfl | rfl
      · exact ha
      · exact hb
    · exact wrest_ok m p hp
theorem ny_ok {T : Tab} (x : Str) : (Tm.nm x).W T.okC ∧ (Tm.nm x).dep ≤ 2 ∧ (Tm.nm x).sz ≤ 100 := ⟨.nm _, by simp [Tm.dep], by simp [Tm.sz]⟩
structure RowsG (T : Tab) (m : Nat) (rows : List (List Tm)) : Prop where
  ok : ∀ r ∈ rows, PatG T m r
theorem RowsG.add {T : Tab} {m : Nat} {rows : List (List Tm)} (h : RowsG T m rows) {r : List Tm} (hr : PatG T m r) : RowsG T m (rows ++ [r]) := ⟨fun x hx => by
  rcases List.mem_append.mp hx with hx | hx
  · exact h.ok x hx
  · simp only [List.mem_singleton] at hx; subst hx; exact hr⟩
section
variable {tbl : Str → Option DefM}
/-- the state of the pattern maker -/
abbrev pS (T : Tab) (f : Fun) (rows : List (List Tm)) (x5 x6 x7 x8 x9 x10 : Sl) (st : Sto) : ES := ⟨[.val (.hdl 1), .val T.d, .val (hdT f), .own (.lst (rows.map rowD)), .val (.tup ((wrest f.ps.length).map Tm.d)), x5, x6, x7, x8, x9, x10], st⟩
theorem pat_in {c : CallF} {T : Tab} (hT : T.Ok) (hU : T.Uq) {f : Fun} (hf : HeadOk f) (h2 : 2 ≤ f.ps.length) (a : Tm) (ha : a.W T.okC ∧ a.dep ≤ 2 ∧ a.sz ≤ 100) (st : Sto) (Q : Fl → ES → Prop) (x5 x6 x8 x10 : Sl) : ∀ (l : List Con) (rows : List (List Tm)) (x9 : Sl), (∀ k ∈ l, k ∈ T.cs) → RowsG T f.ps.length rows → rows.length + l.length ≤ 1000 →
    (∀ rows' x9, RowsG T f.ps.length rows' → rows'.length = rows.length + l.length → Q .nx (pS T f rows' x5 x6 (.val a.d) x8 x9 .no st)) →
    FTurns c (.v 9) l__law_patterns_1 (l.map Con.d) (pS T f rows x5 x6 (.val a.d) x8 x9 .no st) Q
  | [], rows, x9, _, hr, _, q => q rows x9 hr rfl
  | k :: l, rows, x9, hl, hr, hb, q => by
    simp only [List.map_cons, FTurns, pS]
    simp only [List.length_cons] at hb
    have hk := hl k List.mem_cons_self
    have l3 := (hT.2 k hk).len
    simp! [l__law_patterns_1, Con.d]
    refine WL_comp _ _ _ _ _ _ _ _ ?_
    simp! [Con.d, List.length_map]
    rw [if_pos (rng_bound (by unfold sizeLine; omega))]
    simp! [rngD_eq, Int.toNat_natCast]
    refine ⟨by simp [sizeLine]; omega, ?_⟩
    simp! []
    refine LTurns_map (g := fun i : Nat => (nmK "y" i).d) _ (fun i hi K k => ?_) ?_
    · have hi := List.mem_range.mp hi
      unfold LTurn
      simp! [if_pos (small_log0 i (by omega)), if_pos (show (Str.ofString "y").length + (Str.ofString (toString (0 + ((i : Nat) : Int)))).length ≤ sizeLine from nmK_len "y" (by simp) i (by omega))]
      exact k
    simp! [List.length_map, List.length_range]
    rw [if_pos (by unfold sizeLine; omega)]
    simp! [List.length_map]
    have lw : (wrest f.ps.length).length ≤ 1 := by unfold wrest; split <;> simp
    rw [if_pos (by unfold sizeLine; omega)]
    simp! [List.length_map]
    refine ⟨by unfold sizeLine; omega, ?_⟩
    simp! []
    have fl3 := hf.ok.ps.len
    have hp : PatG T f.ps.length ([a, conN "y" k].take f.ps.length ++ wrest f.ps.length) := by
      have q := conN_ok hT hU "y" hk
      exact pat_mk hf.pos fl3 ha ⟨q.1, by omega, by omega⟩
    have e : rows.map rowD ++ [D.tup (a.d :: D.tup (D.str k.w :: (List.range k.ps.length).map fun i => (nmK "y" i).d) :: (wrest f.ps.length).map Tm.d)] = (rows ++ [[a, conN "y" k].take f.ps.length ++ wrest f.ps.length]).map rowD := by
      have et : [a, conN "y" k].take f.ps.length = [a, conN "y" k] := List.take_of_length_le (by simpa using h2)
      rw [et]
      simp [rowD, conN, Tm.d_ap]
    rw [e]
    exact pat_in hT hU hf h2 a ha st Q x5 x6 x8 x10 l _ _ (fun k h => hl k (List.mem_cons_of_mem _ h)) (hr.add hp) (by simp; omega) fun rows' x9 h1 h2 => q rows' x9 h1 (by simp at h2 ⊢; omega)
theorem neq_pos {b : Bool} {X Y : Prop} (h : b = true ∨ b = false) (x : X) (y : Y) : WIf b X Y := ⟨fun _ => x, fun _ => y⟩
theorem pat_out {n : Nat} (C : TblC tbl) (hn : 4 ≤ n) {T : Tab} (hT : T.Ok) (hU : T.Uq) (hT12 : T.cs.length ≤ 12) {f : Fun} (hf : HeadOk f) (Q : Fl → ES → Prop) : ∀ (l : List Con) (rows : List (List Tm)) (st : Sto) (x5 x6 x7 x8 x9 : Sl), OkS st → (∀ k ∈ l, k ∈ T.cs) → RowsG T f.ps.length rows → rows.length + 14 * l.length ≤ 500 →
    (∀ rows' st' x5 x6 x7 x8 x9, OkS st' → RowsG T f.ps.length rows' → rows'.length ≤ 500 → Q .nx (pS T f rows' x5 x6 x7 x8 x9 .no st')) →
    FTurns (runF tbl n) (.v 5) l__law_patterns_2 (l.map Con.d) (pS T f rows x5 x6 x7 x8 x9 .no st) Q
  | [], rows, st, x5, x6, x7, x8, x9, ho, _, hr, hb, q => q rows st x5 x6 x7 x8 x9 ho hr (by simp at hb; omega)
  | k :: l, rows, st, x5, x6, x7, x8, x9, ho, hl, hr, hb, q => by
    simp only [List.map_cons, FTurns, pS]
    simp only [List.length_cons] at hb
    have hk := hl k List.mem_cons_self
    have l3 := (hT.2 k hk).len
    have fl3 := hf.ok.ps.len
    have fpos := hf.pos
    have lw : (wrest f.ps.length).length ≤ 1 := by unfold wrest; split <;> simp
    have hcx := conN_ok hT hU "x" hk
    have hcx' : (conN "x" k).W T.okC ∧ (conN "x" k).dep ≤ 2 ∧ (conN "x" k).sz ≤ 100 := ⟨hcx.1, by omega, by omega⟩
    -- what follows the first if
    have tail : ∀ (rows' : List (List Tm)) (st' : Sto) (x8 : Sl), OkS st' → RowsG T f.ps.length rows' → rows'.length ≤ rows.length + 1 →
        WS (runF tbl n) (.ifS (.cmp .Eq (.e (.len (.e (.idx (.s 2) (.int 1))))) (.e (.int 1)))
          (.cons (.app 3 (.tup (.cons (.var 7) .nil))) .nil)
          (.cons (.ifS (.cmp .Eq (.e (.call "_law_draw" (.cons (.var 0) (.cons (.int 2) .nil)))) (.e (.int 0)))
          (.cons (.app 3 (.bin .add (.tup (.cons (.var 7) (.cons (.str "y") .nil))) (.var 4))) .nil)
          (.cons (.forS (.v 9) (.p (.e (.call "_law_constructors" (.cons (.var 1) (.cons (.idx (.e (.idx (.e (.idx (.s 2) (.int 1))) (.int 1))) (.int 0)) .nil))))) l__law_patterns_1) .nil)) .nil))
          (pS T f rows' (.val k.d) x6 (.val (conN "x" k).d) x8 x9 .no st') (seqQ (runF tbl n) .nil (forQ (fun S => FTurns (runF tbl n) (.v 5) l__law_patterns_2 (l.map Con.d) S Q) Q)) := by
      intro rows' st' x8 ho' hr' hb'
      simp only [pS]
      simp! [hdT, List.length_map]
      refine WIf_dec (fun h1 => ?_) fun h1 => ?_
      · have hm : f.ps.length = 1 := by omega
        simp! [List.length_map]
        refine ⟨by unfold sizeLine; omega, ?_⟩
        simp! []
        have e : rows'.map rowD ++ [D.tup [(conN "x" k).d]] = (rows' ++ [[conN "x" k, Tm.nm "y"].take f.ps.length ++ wrest f.ps.length]).map rowD := by
          rw [hm]; simp [rowD, wrest]
        rw [e]
        exact pat_out C hn hT hU hT12 hf Q l _ st' _ _ _ _ _ ho' (fun k h => hl k (List.mem_cons_of_mem _ h)) (hr'.add (pat_mk hf.pos fl3 hcx' (ny_ok _))) (by simp; omega) q
      · have hm2 : 2 ≤ f.ps.length := by omega
        simp! []
        refine WCall_mono _ (draw_ok C (by omega) 2 (by decide) (by decide) ho') fun d st1 hd => ?_
        obtain ⟨hs1, v, rfl, hv1, hv2⟩ := hd
        simp! []
        refine WIf_dec (fun h2 => ?_) fun h2 => ?_
        · simp! [List.length_map]
          rw [if_pos (by unfold sizeLine; omega)]
          simp! [List.length_map]
          refine ⟨by unfold sizeLine; omega, ?_⟩
          simp! []
          have e : rows'.map rowD ++ [D.tup ((conN "x" k).d :: D.str (Str.ofString "y") :: (wrest f.ps.length).map Tm.d)] = (rows' ++ [[conN "x" k, Tm.nm "y"].take f.ps.length ++ wrest f.ps.length]).map rowD := by
            have et : [conN "x" k, Tm.nm "y"].take f.ps.length = [conN "x" k, Tm.nm "y"] := List.take_of_length_le (by simpa using hm2)
            rw [et]; simp [rowD, Tm.d_nm]
          rw [e]
          exact pat_out C hn hT hU hT12 hf Q l _ st1 _ _ _ _ _ hs1 (fun k h => hl k (List.mem_cons_of_mem _ h)) (hr'.add (pat_mk hf.pos fl3 hcx' (ny_ok _))) (by simp; omega) q
        · simp! []
          refine WS_for _ _ _ _ _ _ ?_
          have hi1 : 1 < f.ps.length := by omega
          simp! [hdT, atI_nat f.ps 1, show atI (f.ps.map prD) 1 = some (prD f.ps[1]) from by rw [show (1 : Int) = ((1 : Nat) : Int) from rfl, atI_nat, List.getElem?_map, List.getElem?_eq_getElem hi1]; rfl, prD]
          refine WCall_of _ (cons_ok C (by omega) hT _ st1) ?_
          simp! []
          have hcl := consF_len (T := T) f.ps[1].1
          have := pat_in (c := runF tbl n) hT hU hf hm2 (conN "x" k) hcx' st1 (seqQ (runF tbl n) .nil (seqQ (runF tbl n) .nil (seqQ (runF tbl n) .nil (forQ (fun S => FTurns (runF tbl n) (.v 5) l__law_patterns_2 (l.map Con.d) S Q) Q)))) (.val k.d) x6 x8 .no (consF T f.ps[1].1) rows' x9 (fun k h => (List.mem_filter.mp h).1) hr' (by omega) fun rows2 x9 g1 g2 => by
            simp! []
            exact pat_out C hn hT hU hT12 hf Q l _ st1 _ _ _ _ _ hs1 (fun k h => hl k (List.mem_cons_of_mem _ h)) g1 (by omega) q
          exact this
    simp! [l__law_patterns_2, Con.d]
    refine WL_comp _ _ _ _ _ _ _ _ ?_
    simp! [Con.d, List.length_map]
    rw [if_pos (rng_bound (by unfold sizeLine; omega))]
    simp! [rngD_eq, Int.toNat_natCast]
    refine ⟨by simp [sizeLine]; omega, ?_⟩
    simp! []
    refine LTurns_map (g := fun i : Nat => (nmK "x" i).d) _ (fun i hi K k => ?_) ?_
    · have hi := List.mem_range.mp hi
      unfold LTurn
      simp! [if_pos (small_log0 i (by omega)), if_pos (show (Str.ofString "x").length + (Str.ofString (toString (0 + ((i : Nat) : Int)))).length ≤ sizeLine from nmK_len "x" (by simp) i (by omega))]
      exact k
    simp! [List.length_map, List.length_range]
    rw [if_pos (by unfold sizeLine; omega)]
    have ex : D.tup (D.str k.w :: (List.range k.ps.length).map fun i => (nmK "x" i).d) = (conN "x" k).d := by simp [conN, Tm.d_ap]
    simp! []
    rw [ex]
    refine WCall_mono _ (draw_ok C (by omega) 3 (by decide) (by decide) ho) fun d st1 hd => ?_
    obtain ⟨hs1, v, rfl, hv1, hv2⟩ := hd
    simp! []
    have t2 := tail rows st1 x8 hs1 hr (by omega)
    refine WIf_dec (fun h => ?_) fun h => ?_
    rotate_left
    · simp! [pS] at t2
      simp! []
      exact t2
    simp! []
    have hdp := deeper_ok C (n := n) (by omega) hT hU hk hs1
    refine WCall_mono _ hdp fun d st2 hd => ?_
    obtain ⟨hs2, t, rfl, ht⟩ := hd
    simp! [eqD_tm (t := t) (u := conN "x" k) (.inl (by omega))]
    refine WIf_dec (fun h2 => ?_) fun h2 => ?_
    · simp! []
      have := tail rows st2 (.val t.d) hs2 hr (by omega)
      simp! [pS] at this
      exact this
    · have et : D.tup (([t.d, D.str (Str.ofString "y")].take f.ps.length) ++ (wrest f.ps.length).map Tm.d) = rowD ([t, Tm.nm "y"].take f.ps.length ++ wrest f.ps.length) := by
        simp [rowD, List.map_take, Tm.d_nm]
      have ltk : ([t.d, D.str (Str.ofString "y")].take f.ps.length).length ≤ 2 := by rw [List.length_take]; simp; omega
      simp! [hdT, cutD_take, List.length_map]
      rw [if_pos (by unfold sizeLine; omega)]
      simp! [List.length_map]
      refine ⟨by unfold sizeLine; omega, ?_⟩
      simp! []
      rw [et]
      have e : rows.map rowD ++ [rowD ([t, Tm.nm "y"].take f.ps.length ++ wrest f.ps.length)] = (rows ++ [[t, Tm.nm "y"].take f.ps.length ++ wrest f.ps.length]).map rowD := by simp
      rw [e]
      have := tail (rows ++ [[t, Tm.nm "y"].take f.ps.length ++ wrest f.ps.length]) st2 (.val t.d) hs2 (hr.add (pat_mk hf.pos fl3 ht (ny_ok _))) (by simp)
      simp! [pS] at this
      exact this
end
end Px
/-! A20: rows of patterns, the end; names of patterns. -/
namespace Px
open PySem L2 Classical
theorem eraseIdx_map' {α β : Type} (f : α → β) : ∀ (l : List α) (i : Nat), (l.map f).eraseIdx i = (l.eraseIdx i).map f
  | [], _ => rfl
  | _ :: _, 0 => rfl
  | a :: l, i + 1 => by simp only [List.map_cons, List.eraseIdx_cons_succ, eraseIdx_map' f l i]
theorem cutD_10 (l : List D) : cutD l none (some 10) = l.take 10 := cutD_take l 10
def nm9 (i : Nat) : Tm := .nm (Str.ofString "x" ++ Str.ofString (toString (9 * (0 + (i : Int)))))
section
variable {tbl : Str → Option DefM}
theorem pats_ok {n : Nat} (C : TblC tbl) (hn : 5 ≤ n) {T : Tab} (hT : T.Ok) (hU : T.Uq) (hT12 : T.cs.length ≤ 12) {f : Fun} (hf : HeadOk f) {st : Sto} (ho : OkS st) : WCall (runF tbl n) "_law_patterns" [.hdl 1, T.d, hdT f] st fun d st' => OkS st' ∧ ∃ rows : List (List Tm), d = .lst (rows.map rowD) ∧ RowsG T f.ps.length rows ∧ rows.length ≤ 10 := by
  obtain ⟨n, rfl⟩ : ∃ k, n = k + 1 := ⟨n - 1, by omega⟩
  refine WCall_run C.pats rfl ?_
  simp only [m__law_patterns]
  have fl3 := hf.ok.ps.len
  have fpos := hf.pos
  simp! [hdT, List.length_map, mul_w f.ps.length fpos fl3]
  refine WS_for _ _ _ _ _ _ ?_
  have e0 : atI (f.ps.map prD) 0 = some (prD f.ps[0]) := by
    rw [show (0 : Int) = ((0 : Nat) : Int) from rfl, atI_nat, List.getElem?_map, List.getElem?_eq_getElem fpos]; rfl
  simp! [hdT, e0, prD]
  refine WCall_of _ (cons_ok C (by omega) hT _ st) ?_
  simp! []
  have hcl := consF_len (T := T) f.ps[0].1
  have hout := pat_out C (n := n) (by omega) hT hU hT12 hf
  simp! [pS, hdT] at hout
  have hro : RowsG T f.ps.length [] := ⟨fun _ h => (nomatch h)⟩
  refine hout _ (consF T f.ps[0].1) [] st _ _ _ _ _ ho (fun k h => (List.mem_filter.mp h).1) hro (by simp only [List.length_nil]; omega) fun rows st1 x5 x6 x7 x8 x9 ho1 hr1 hb1 => ?_
  simp! []
  refine WCall_mono _ (draw_ok C (by omega) 5 (by decide) (by decide) ho1) fun d st2 hd => ?_
  obtain ⟨ho2, turn, rfl, ht1, ht2⟩ := hd
  -- the return
  have fin : ∀ (rows : List (List Tm)) (st : Sto) (x6 : Sl), OkS st → RowsG T f.ps.length rows → WS (runF tbl n) (.ret (.ofL (.sl (.s 3) .no (.e (.int 10))))) (pS T f rows x5 x6 x7 x8 x9 .no st) (seqQ (runF tbl n) .nil (endQ fun d st' => OkS st' ∧ ∃ rows : List (List Tm), d = .lst (rows.map rowD) ∧ RowsG T f.ps.length rows ∧ rows.length ≤ 10)) := by
    intro rows st x6 ho hr
    simp! [pS, cutD_10]
    refine ⟨ho, rows.take 10, by rw [List.map_take], ⟨fun r hr2 => hr.ok r (List.mem_of_mem_take hr2)⟩, by rw [List.length_take]; omega⟩
  have t3 : ∀ (rows : List (List Tm)) (st : Sto), OkS st → RowsG T f.ps.length rows → rows.length ≤ 600 → WS (runF tbl n) (.ifS (.orT (.cmp .Lt (.s 6) (.e (.int 3))) (.oneT (.cmp .Eq (.e (.len (.s 3))) (.e (.int 0)))))
      (.cons (.app 3 (.tupOf (.l (.comp (.bin .add (.str "x") (.toStr (.bin .mul (.int 9) (.var 10)))) (.v 10) (.rng1 (.len (.e (.idx (.s 2) (.int 1))))) .no [("k", 10)])))) .nil) .nil)
      (pS T f rows x5 (.val (.int turn)) x7 x8 x9 .no st) (seqQ (runF tbl n) (.cons (.ret (.ofL (.sl (.s 3) .no (.e (.int 10))))) .nil) (endQ fun d st' => OkS st' ∧ ∃ rows : List (List Tm), d = .lst (rows.map rowD) ∧ RowsG T f.ps.length rows ∧ rows.length ≤ 10)) := by
    intro rows st ho hr hb
    have f1 := fin rows st (.val (.int turn)) ho hr
    have f2 : WB (runF tbl n) (.cons (.app 3 (.tupOf (.l (.comp (.bin .add (.str "x") (.toStr (.bin .mul (.int 9) (.var 10)))) (.v 10) (.rng1 (.len (.e (.idx (.s 2) (.int 1))))) .no [("k", 10)])))) .nil) (pS T f rows x5 (.val (.int turn)) x7 x8 x9 .no st) (seqQ (runF tbl n) (.cons (.ret (.ofL (.sl (.s 3) .no (.e (.int 10))))) .nil) (endQ fun d st' => OkS st' ∧ ∃ rows : List (List Tm), d = .lst (rows.map rowD) ∧ RowsG T f.ps.length rows ∧ rows.length ≤ 10)) := by
      simp! [pS]
      refine WL_comp _ _ _ _ _ _ _ _ ?_
      simp! [hdT, List.length_map]
      rw [if_pos (rng_bound (by unfold sizeLine; omega))]
      simp! [rngD_eq, Int.toNat_natCast]
      refine ⟨by simp [sizeLine]; omega, ?_⟩
      simp! []
      refine LTurns_map (g := fun i : Nat => (nm9 i).d) _ (fun i hi K k => ?_) ?_
      · have hi := List.mem_range.mp hi
        unfold LTurn
        have em : bop .mul (.int 9) (.int (0 + (i : Int))) = some (.int (9 * (0 + (i : Int)))) := by
          simp only [bop]; rw [if_pos (.inl (by decide))]
        simp! [em, if_pos (small_log9 i (by omega)), if_pos (show (Str.ofString "x").length + (Str.ofString (toString (9 * (0 + ((i : Nat) : Int))))).length ≤ sizeLine from nmK9_len i (by omega))]
        exact k
      simp! [List.length_map]
      refine ⟨by unfold sizeLine; omega, ?_⟩
      simp! []
      have e : rows.map rowD ++ [D.tup ((List.range f.ps.length).map fun i => (nm9 i).d)] = (rows ++ [(List.range f.ps.length).map nm9]).map rowD := by simp [rowD]
      have hp : PatG T f.ps.length ((List.range f.ps.length).map nm9) := ⟨by simp, fun p hp => by
        obtain ⟨i, _, rfl⟩ := List.mem_map.mp hp
        exact ny_ok _⟩
      have := fin (rows ++ [(List.range f.ps.length).map nm9]) st (.val (.int turn)) ho (hr.add hp)
      simp! [pS] at this
      rw [e]
      exact this
    simp! [pS] at f1 f2 ⊢
    refine WIf_mk (fun h => ?_) fun h => ?_
    · simp! []
      exact f2
    · simp! [List.length_map]
      refine WIf_mk (fun h => ?_) fun h => ?_
      · simp! []
        exact f2
      · simp! []
        exact f1
  have t2 : ∀ (rows : List (List Tm)) (st : Sto), OkS st → RowsG T f.ps.length rows → rows.length ≤ 550 → WS (runF tbl n) (.ifS (.andT (.cmp .Eq (.s 6) (.e (.int 1))) (.oneT (.cmp .Gt (.e (.len (.s 3))) (.e (.int 0)))))
      (.cons (.asgL 3 (.cat (.l (.disp (.cons (.call "_law_pick" (.cons (.var 0) (.cons (.var 3) .nil))) .nil))) (.s 3))) .nil) .nil)
      (pS T f rows x5 (.val (.int turn)) x7 x8 x9 .no st) (seqQ (runF tbl n) (.cons (.ifS (.orT (.cmp .Lt (.s 6) (.e (.int 3))) (.oneT (.cmp .Eq (.e (.len (.s 3))) (.e (.int 0)))))
      (.cons (.app 3 (.tupOf (.l (.comp (.bin .add (.str "x") (.toStr (.bin .mul (.int 9) (.var 10)))) (.v 10) (.rng1 (.len (.e (.idx (.s 2) (.int 1))))) .no [("k", 10)])))) .nil) .nil) (.cons (.ret (.ofL (.sl (.s 3) .no (.e (.int 10))))) .nil)) (endQ fun d st' => OkS st' ∧ ∃ rows : List (List Tm), d = .lst (rows.map rowD) ∧ RowsG T f.ps.length rows ∧ rows.length ≤ 10)) := by
    intro rows st ho hr hb
    have f1 := t3 rows st ho hr (by omega)
    simp! [pS] at f1 ⊢
    refine WIf_mk (fun h => ?_) fun h => ?_
    · simp! [List.length_map]
      refine WIf_dec (fun h => ?_) fun h => ?_
      · simp! []
        refine WCall_mono _ (pick_ok C (by omega) _ (rows.map rowD) (.inl rfl) (by rw [List.length_map]; omega) (by rw [List.length_map]; omega) ho) fun d st3 hd => ?_
        obtain ⟨ho3, hd⟩ := hd
        obtain ⟨r, hr2, rfl⟩ := List.mem_map.mp hd
        simp! [List.length_map]
        rw [if_pos (by unfold sizeLine; omega)]
        simp! []
        have := t3 (r :: rows) st3 ho3 ⟨fun x hx => by
          rcases List.mem_cons.mp hx with rfl | hx
          · exact hr.ok _ hr2
          · exact hr.ok x hx⟩ (by simp; omega)
        simp! [pS] at this
        exact this
      · simp! []
        exact f1
    · simp! []
      exact f1
  have f1 := t2 rows st2 ho2 hr1 (by omega)
  simp! [pS, hdT] at f1
  simp! []
  refine WIf_mk (fun h => ?_) fun h => ?_
  · simp! [List.length_map]
    refine WIf_dec (fun h => ?_) fun h => ?_
    · simp! [List.length_map]
      refine WCall_mono _ (draw_ok C (by omega) rows.length (by omega) (by omega) ho2) fun d st3 hd => ?_
      obtain ⟨ho3, v, rfl, hv1, hv2⟩ := hd
      have hv : v.toNat < rows.length := by omega
      simp! [WPopAt]
      refine ⟨by omega, ?_⟩
      rw [eraseIdx_map']
      simp! [List.getElem?_map, List.getElem?_eq_getElem hv, Option.map_some]
      simp! []
      have hle := List.length_eraseIdx_le rows v.toNat
      have := t2 (rows.eraseIdx v.toNat) st3 ho3 ⟨fun x hx => hr1.ok x (List.mem_of_mem_eraseIdx hx)⟩ (by omega)
      simp! [pS, hdT] at this
      exact this
    · simp! []
      exact f1
  · simp! []
    exact f1
end
end Px
/-! A21: names of patterns. -/
namespace Px
open PySem L2 Classical
def ssD (p : Str × Str) : D := .tup [.str p.1, .str p.2]
theorem elT_range {ts : List Tm} {k : Nat} (h : k < ts.length) : atI (ts.map Tm.d) (0 + (k : Int)) = some ts[k].d := by
  rw [atI_int_map h]; simp [elT, h]
theorem elT_cons {ts : List Tm} {a : D} {k : Nat} (h : k < ts.length) : atI (a :: ts.map Tm.d) (1 + (0 + (k : Int))) = some ts[k].d := by
  have : (1 + (0 + (k : Int))) = 1 + (k : Int) := by omega
  rw [this, atI_int_cons h]; simp [elT, h]
theorem prD_range {ps : List (Str × Tm)} {k : Nat} (h : k < ps.length) : atI (ps.map prD) (0 + (k : Int)) = some (prD ps[k]) := by
  rw [Int.zero_add, atI_nat, List.getElem?_map, List.getElem?_eq_getElem h]; rfl
section
variable {tbl : Str → Option DefM}
theorem na_loop {c : CallF} (T : Tab) (w : Str) (ts : List Tm) (k0 : Con) (hl : k0.ps.length = ts.length) (s2 s6 : Sl) (st : Sto) (Q : Fl → ES → Prop)
    (hc : ∀ t ∈ ts, ∀ fam : Str, ∃ l : List (Str × Str), c "_law_names_at" [T.d, t.d, .str fam] st = some (.lst (l.map ssD), st) ∧ (∀ q ∈ l, t.Has q.1) ∧ l.length ≤ t.sz) (hsz : Tm.szs ts ≤ 1000) : ∀ (m k : Nat) (acc : List (Str × Str)) (x5 : Sl), k + m = ts.length → (∀ q ∈ acc, ∃ t ∈ ts, t.Has q.1) → acc.length + Tm.szs (ts.drop k) ≤ Tm.szs ts →
    (∀ (acc' : List (Str × Str)) (x5 : Sl), (∀ q ∈ acc', ∃ t ∈ ts, t.Has q.1) → acc'.length ≤ Tm.szs ts → Q .nx ⟨[.val T.d, .val (Tm.ap w ts).d, s2, .val k0.d, .own (.lst (acc'.map ssD)), x5, s6], st⟩) →
    FTurns c (.v 5) l__law_names_at_1 ((List.range' k m).map fun i : Nat => D.int (0 + i)) ⟨[.val T.d, .val (Tm.ap w ts).d, s2, .val k0.d, .own (.lst (acc.map ssD)), x5, s6], st⟩ Q
  | 0, k, acc, x5, hk, ha, hb, q => q acc x5 ha (by omega)
  | m + 1, k, acc, x5, hk, ha, hb, q => by
    have hi : k < ts.length := by omega
    have hi2 : k < k0.ps.length := by omega
    have e0 : ts.drop k = ts[k] :: ts.drop (k + 1) := List.drop_eq_getElem_cons hi
    rw [e0] at hb
    simp only [Tm.szs] at hb
    rw [List.range'_succ]
    simp only [List.map_cons, FTurns]
    simp! [l__law_names_at_1, Con.d, elT_cons hi, prD_range hi2, prD]
    obtain ⟨l, hl1, hl2, hl3⟩ := hc ts[k] (List.getElem_mem hi) k0.ps[k].1
    refine WCall_of _ hl1 ?_
    simp! [List.length_map]
    rw [if_pos (by unfold sizeLine; omega)]
    simp! []
    rw [← List.map_append]
    have := na_loop (c := c) T w ts k0 hl s2 s6 st Q hc hsz m (k + 1) (acc ++ l)
    simp! [Con.d] at this
    simp! [Con.d] at q
    exact this _ (by omega) (fun q hq => by
      rcases List.mem_append.mp hq with hq | hq
      · exact ha q hq
      · exact ⟨_, List.getElem_mem hi, hl2 q hq⟩) (by simp; omega) q
theorem namesAt_ok {n : Nat} (C : TblC tbl) {T : Tab} (hT : T.Ok) (hU : T.Uq) (st : Sto) : ∀ (t : Tm) (n : Nat) (fam : Str), t.dep + 1 ≤ n → t.W T.okC → t.sz ≤ 1000 → ∃ l : List (Str × Str), runF tbl n "_law_names_at" [T.d, t.d, .str fam] st = some (.lst (l.map ssD), st) ∧ (∀ q ∈ l, t.Has q.1) ∧ l.length ≤ t.sz := by
  intro t
  induction t using Tm.ind with
  | nm x =>
    intro n fam hn hw hs
    obtain ⟨n, rfl⟩ : ∃ k, n = k + 1 := ⟨n - 1, by omega⟩
    refine ⟨[(x, fam)], WCall_val (WCall_run C.namesAt rfl ?_), fun q hq => ?_, by simp [Tm.sz]⟩
    · simp only [m__law_names_at]
      simp! [ssD]
    · simp only [List.mem_singleton] at hq
      subst hq
      exact .nm
  | ap w ts ih =>
    intro n fam hn hw hs
    obtain ⟨n, rfl⟩ : ∃ k, n = k + 1 := ⟨n - 1, by omega⟩
    obtain ⟨⟨k0, hk0, hl⟩, hws⟩ := W_sub hw
    have l100 := hT.1
    have l3 := (hT.2 k0 (Tab.find_mem hk0).1).len
    have main : WCall (runF tbl (n + 1)) "_law_names_at" [T.d, (Tm.ap w ts).d, .str fam] st fun d st' => st' = st ∧ ∃ l : List (Str × Str), d = .lst (l.map ssD) ∧ (∀ q ∈ l, (Tm.ap w ts).Has q.1) ∧ l.length ≤ (Tm.ap w ts).sz := by
      refine WCall_run C.namesAt rfl ?_
      simp only [m__law_names_at]
      simp! []
      refine WL_comp _ _ _ _ _ _ _ _ ?_
      simp! [Tab.d]
      refine ⟨by simp [sizeLine]; omega, LTurns_filter (p := fun c : Con => decide (c.w = w)) (g := Con.d) _ (fun k hk K kk => ?_) ?_⟩
      · unfold LTurn
        simp! [Con.d]
        refine WIf_dec (fun h => ?_) fun h => ?_
        · simp! []
          rw [decide_eq_true h, if_pos rfl] at kk
          exact kk
        · rw [decide_eq_false h, if_neg nofun] at kk
          exact kk
      obtain ⟨l, el⟩ := filter_first hk0
      rw [el]
      simp! [Con.d]
      refine WS_for _ _ _ _ _ _ ?_
      simp! [List.length_map]
      rw [if_pos (rng_bound (by unfold sizeLine; omega))]
      simp! [rngD_eq, Int.toNat_natCast, List.range_eq_range']
      simp only [Tm.sz] at hs ⊢
      have := na_loop (c := runF tbl n) T w ts k0 hl
      simp! [Tab.d, Con.d] at this
      refine this _ _ st _ (fun t ht fam => ?_) (by omega) k0.ps.length 0 [] _ (by omega) (fun q hq => nomatch hq) (by simp) fun acc' x5 h1 h2 => ?_
      · have := ih t ht n fam (by have := Tm.dep_mem (w := w) ht; omega) (hws t ht) (by
          have : t.sz ≤ Tm.szs ts := by
            clear this hws ih hw hs hn hl
            induction ts with
            | nil => cases ht
            | cons a as ih =>
              simp only [Tm.szs]
              rcases List.mem_cons.mp ht with rfl | ht
              · omega
              · have := ih ht; omega
          omega)
        simp! [Tab.d] at this
        exact this
      · simp! []
        refine ⟨acc', rfl, fun q hq => ?_, by omega⟩
        obtain ⟨t, ht, k⟩ := h1 q hq
        exact .ap ht k
    obtain ⟨⟨d, st'⟩, e, rfl, l, rfl, h1, h2⟩ := main
    exact ⟨l, e, h1, h2⟩
/-- the names of patterns -/
structure KnOk (ps : List Tm) (l : List (Str × Str)) : Prop where
  has : ∀ q ∈ l, ∃ p ∈ ps, p.Has q.1
  len : l.length ≤ 300
def knD (l b : List (Str × Str)) : D := .tup [.lst (l.map ssD), .lst (b.map ssD)]
def belD (o : Bool) (b : List (Str × Str)) : Sl := if o then .own (.lst (b.map ssD)) else .val (.lst (b.map ssD))
theorem isIn_tm (t : Tm) : ∃ b, isIn t.d "str" = some b := by
  cases t with
  | nm x => exact ⟨true, by rw [Tm.d_nm]; exact isIn_str x⟩
  | ap w ts => exact ⟨false, by rw [Tm.d_ap]; exact isIn_tup _⟩
theorem named_loop {n : Nat} (C : TblC tbl) (hn : 3 ≤ n) {T : Tab} (hT : T.Ok) (hU : T.Uq) {f : Fun} (hf : HeadOk f) (ps : List Tm) (hp : PatG T f.ps.length ps) (st : Sto) (Q : Fl → ES → Prop) : ∀ (m k : Nat) (l b : List (Str × Str)) (o : Bool) (x5 x6 : Sl), k + m = ps.length → KnOk ps l → KnOk ps b → l.length ≤ 100 * k →
    (∀ (l' b' : List (Str × Str)) (o' : Bool) (x5 x6 : Sl), KnOk ps l' → KnOk ps b' → Q .nx ⟨[.val T.d, .val (hdT f), .val (rowD ps), .own (.lst (l'.map ssD)), belD o' b', x5, x6], st⟩) →
    FTurns (runF tbl n) (.v 5) l__law_named_1 ((List.range' k m).map fun i : Nat => D.int (0 + i)) ⟨[.val T.d, .val (hdT f), .val (rowD ps), .own (.lst (l.map ssD)), belD o b, x5, x6], st⟩ Q
  | 0, k, l, b, o, x5, x6, hk, hl, hb, hlk, q => q l b o x5 x6 hl hb
  | m + 1, k, l, b, o, x5, x6, hk, hl, hb, hlk, q => by
    have fl3 := hf.ok.ps.len
    have hplen := hp.len
    have hi : k < ps.length := by omega
    have hi2 : k < f.ps.length := by omega
    rw [List.range'_succ]
    simp only [List.map_cons, FTurns]
    have hpk := hp.w ps[k] (List.getElem_mem hi)
    obtain ⟨r, h1, h2, h3⟩ := namesAt_ok (n := n) C hT hU st ps[k] n f.ps[k].1 (by omega) hpk.1 (by omega)
    simp! [l__law_named_1, hdT, rowD, elT_range hi, prD_range hi2, prD]
    refine WCall_of _ h1 ?_
    simp! [List.length_map]
    rw [if_pos (by unfold sizeLine; omega)]
    have hl' : KnOk ps (l ++ r) := ⟨fun q hq => by
      rcases List.mem_append.mp hq with hq | hq
      · exact hl.has q hq
      · exact ⟨_, List.getElem_mem hi, h2 q hq⟩, by simp; omega⟩
    have hr' : KnOk ps r := ⟨fun q hq => ⟨_, List.getElem_mem hi, h2 q hq⟩, by omega⟩
    have ih := fun (b : List (Str × Str)) (o : Bool) (hb : KnOk ps b) (x5 x6 : Sl) => named_loop C hn hT hU hf ps hp st Q m (k + 1) (l ++ r) b o x5 x6 (by omega) hl' hb (by simp; omega) q
    rw [List.map_append] at ih
    simp! [hdT, rowD] at ih
    obtain ⟨bt, hbt⟩ := isIn_tm ps[k]
    simp! []
    refine WIf_mk (fun h => ?_) fun h => ?_
    · simp! [elT_range hi, hbt]
      refine WIf_mk (fun h => ?_) fun h => ?_
      · simp! []
        exact ih b o hb _ _
      · simp! []
        exact ih r false hr' _ _
    · simp! []
      exact ih b o hb _ _
theorem named_ok {n : Nat} (C : TblC tbl) (hn : 4 ≤ n) {T : Tab} (hT : T.Ok) (hU : T.Uq) {f : Fun} (hf : HeadOk f) (ps : List Tm) (hp : PatG T f.ps.length ps) (st : Sto) : WCall (runF tbl n) "_law_named" [T.d, hdT f, rowD ps] st fun d st' => st' = st ∧ ∃ l b, d = knD l b ∧ KnOk ps l ∧ KnOk ps b := by
  obtain ⟨n, rfl⟩ : ∃ k, n = k + 1 := ⟨n - 1, by omega⟩
  have fl3 := hf.ok.ps.len
  have hplen := hp.len
  refine WCall_run C.named rfl ?_
  simp only [m__law_named]
  simp! [rowD]
  refine WS_for _ _ _ _ _ _ ?_
  simp! [List.length_map]
  rw [if_pos (rng_bound (by unfold sizeLine; omega))]
  simp! [rngD_eq, Int.toNat_natCast, List.range_eq_range']
  have := named_loop C (n := n) (by omega) hT hU hf ps hp st
  simp! [rowD] at this
  have k0 : KnOk ps [] := ⟨fun _ h => (nomatch h), by simp⟩
  refine this _ ps.length 0 [] [] true _ _ (by omega) k0 k0 (by simp) fun l' b' o' x5 x6 h1 h2 => ?_
  cases o' with
  | true =>
    simp! [belD]
    exact ⟨l', b', rfl, h1, h2⟩
  | false =>
    simp! [belD]
    exact ⟨l', b', rfl, h1, h2⟩
end
end Px
/-! A22: bodies: what is made, what is called. -/
namespace Px
open PySem L2 Classical
/-- a body -/
structure BodyG (T : Tab) (hs : List Fun) (ps : List Tm) (m : Nat) (t : Tm) : Prop where
  w : t.W (okB T hs)
  dep : t.dep ≤ m
  has : ∀ x, t.Has x → ∃ p ∈ ps, p.Has x
theorem BodyG.mono {T : Tab} {hs : List Fun} {ps : List Tm} {m k : Nat} {t : Tm} (h : BodyG T hs ps m t) (hk : m ≤ k) : BodyG T hs ps k t := ⟨h.w, by have := h.dep; omega, h.has⟩
def oD : Option Tm → D
  | some t => t.d
  | none => .non
theorem oD_nb (o : Option Tm) : (oD o).nb = true := by
  cases o with
  | none => simp [oD, D.nb]
  | some t => exact t.nb
theorem oD_non (o : Option Tm) : oD o = .non ↔ o = none := by
  cases o with
  | none => simp [oD]
  | some t => cases t <;> simp [oD, Tm.d]
theorem memD_oD (os : List (Option Tm)) : memD .non (os.map oD) = some (decide (none ∈ os)) := by
  rw [memD_nb (by simp [D.nb]) (D.nbs_all.mpr fun d h => by obtain ⟨v, _, rfl⟩ := List.mem_map.mp h; exact oD_nb _) (.inl (by simp [D.dep]))]
  have : (D.non ∈ os.map oD) ↔ none ∈ os := by
    constructor
    · intro h; obtain ⟨o, ho, e⟩ := List.mem_map.mp h; rw [oD_non] at e; subst e; exact ho
    · intro h; exact List.mem_map.mpr ⟨none, h, rfl⟩
  simp only [this]
theorem all_some : ∀ {os : List (Option Tm)}, none ∉ os → ∃ ts : List Tm, os = ts.map some
  | [], _ => ⟨[], rfl⟩
  | none :: os, h => absurd List.mem_cons_self h
  | some t :: os, h => by
    obtain ⟨ts, e⟩ := all_some (os := os) fun z => h (List.mem_cons_of_mem _ z)
    exact ⟨t :: ts, by rw [e]; rfl⟩
theorem oD_some (ts : List Tm) : (ts.map some).map oD = ts.map Tm.d := by rw [List.map_map]; rfl
theorem find_f {T : Tab} (hT12 : T.cs.length ≤ 12) (hW : T.cs.map (·.w) = (List.range T.cs.length).map kW) {i : Nat} (hi : i < 4) : T.find (fW i) = none := by
  unfold Tab.find
  rw [List.find?_eq_none]
  intro c hc
  have : c.w ∈ T.cs.map (·.w) := List.mem_map.mpr ⟨c, hc, rfl⟩
  rw [hW] at this
  obtain ⟨j, hj, e⟩ := List.mem_map.mp this
  have hj := List.mem_range.mp hj
  simp only [decide_eq_true_eq]
  rw [← e]
  exact fW_kW i hi j (by omega)
theorem ffind_at {hs : List Fun} (h : HsOk hs) {i : Nat} (hi : i < hs.length) : ffind hs (fW i) = some hs[i] := by
  have hw : hs[i].w = fW i := by
    have : (hs.map (·.w))[i]? = some (fW i) := by rw [h.ws, List.getElem?_map, List.getElem?_range hi]; rfl
    rw [List.getElem?_map, List.getElem?_eq_getElem hi] at this
    simpa using this
  unfold ffind
  rw [List.find?_eq_some_iff_getElem]
  refine ⟨by simp [hw], i, hi, rfl, fun j hj => ?_⟩
  have hjl : j < hs.length := by omega
  have hwj : hs[j].w = fW j := by
    have : (hs.map (·.w))[j]? = some (fW j) := by rw [h.ws, List.getElem?_map, List.getElem?_range hjl]; rfl
    rw [List.getElem?_map, List.getElem?_eq_getElem hjl] at this
    simpa using this
  have hle := h.le
  simp only [hwj, Bool.not_eq_true', decide_eq_false_iff_not]
  intro e
  have := fW_inj j (by omega) i (by omega) e
  omega
theorem okB_con {T : Tab} {hs : List Fun} (hU : T.Uq) {c : Con} (hc : c ∈ T.cs) : okB T hs c.w c.ps.length :=
  ⟨(c.ps.map (·.2), c.ix, Str.ofString "make"), by simp only [hdO, T.find_uq hU hc rfl], by simp⟩
theorem okB_fun {T : Tab} {hs : List Fun} (hT12 : T.cs.length ≤ 12) (hW : T.cs.map (·.w) = (List.range T.cs.length).map kW) (h : HsOk hs) {i : Nat} (hi : i < hs.length) : okB T hs hs[i].w hs[i].ps.length := by
  have hle := h.le
  have hw : hs[i].w = fW i := by
    have := ffind_mem (ffind_at h hi)
    exact this.2
  refine ⟨(hs[i].ps.map (·.2), hs[i].ix, "demand"), ?_, by simp⟩
  rw [hw]
  simp only [hdO, find_f hT12 hW (show i < 4 by omega), ffind_at h hi, Option.map_some]
theorem hs_w {hs : List Fun} (h : HsOk hs) {i : Nat} (hi : i < hs.length) : hs[i].w = fW i := (ffind_mem (ffind_at h hi)).2
theorem body_ap {T : Tab} {hs : List Fun} {ps : List Tm} {m : Nat} {w : Str} {ts : List Tm} (ho : okB T hs w ts.length) (ht : ∀ t ∈ ts, BodyG T hs ps m t) : BodyG T hs ps (m + 1) (.ap w ts) :=
  ⟨.ap ho fun t h => (ht t h).w, Tm.dep_ap.mpr fun t h => (ht t h).dep, fun x hx => by cases hx with | ap a b => exact (ht _ a).has x b⟩
theorem body_nm {T : Tab} {hs : List Fun} {ps : List Tm} {m : Nat} {l : List (Str × Str)} (h : KnOk ps l) {q : Str × Str} (hq : q ∈ l) : BodyG T hs ps m (.nm q.1) :=
  ⟨.nm _, by simp [Tm.dep], fun x hx => by cases hx; exact h.has q hq⟩
section
variable {tbl : Str → Option DefM}
/-- the body maker's promise -/
def BodyP (tbl : Str → Option DefM) (T : Tab) (hs : List Fun) (ps : List Tm) (kd : D) (l b : List (Str × Str)) (n m : Nat) : Prop := ∀ (fam : Str) (st : Sto), OkS st →
  WCall (runF tbl n) "_law_body" [.hdl 1, T.d, .lst (hs.map hdT), kd, knD l b, .str fam, .int (m : Int)] st fun d st' => OkS st' ∧ ∃ o : Option Tm, d = oD o ∧ ∀ t, o = some t → BodyG T hs ps (m + 1) t
theorem made_turns {n m : Nat} {T : Tab} {hs : List Fun} {ps : List Tm} {kd : D} {l b : List (Str × Str)} (hb : BodyP tbl T hs ps kd l b n m) (x5 x7 : Sl) (Q : List D → ES → Prop) : ∀ (qs : List (Str × Tm)) (st : Sto), OkS st →
    (∀ (os : List (Option Tm)) (st' : Sto), OkS st' → os.length = qs.length → (∀ t, some t ∈ os → BodyG T hs ps (m + 1) t) → Q (os.map oD) ⟨[.val (.hdl 1), .val T.d, .val (.lst (hs.map hdT)), .val kd, .val (knD l b), x5, .val (.int ((m + 1 : Nat) : Int)), x7, .no, .no], st'⟩) →
    LTurns (runF tbl n) (.call "_law_body" (.cons (.var 0) (.cons (.var 1) (.cons (.var 2) (.cons (.var 3) (.cons (.var 4) (.cons (.var 8) (.cons (.bin .sub (.var 6) (.int 1)) .nil)))))))) (.tup (.cons (.v 8) (.cons (.v 9) .nil))) .no [8, 9] (qs.map prD) ⟨[.val (.hdl 1), .val T.d, .val (.lst (hs.map hdT)), .val kd, .val (knD l b), x5, .val (.int ((m + 1 : Nat) : Int)), x7, .no, .no], st⟩ Q
  | [], st, ho, q => by
    have := q [] st ho rfl (fun _ h => nomatch h)
    exact this
  | p :: qs, st, ho, q => by
    simp only [List.map_cons, LTurns]
    unfold LTurn
    have e : ((m + 1 : Nat) : Int) - 1 = (m : Int) := by omega
    simp! [prD, e]
    refine WCall_mono _ (hb p.1 st ho) fun d st' hd => ?_
    obtain ⟨ho', o, rfl, hob⟩ := hd
    simp! []
    refine made_turns hb x5 x7 _ qs st' ho' fun os st2 h1 h2 h3 => ?_
    have := q (o :: os) st2 h1 (by simp [h2]) (fun t ht => by
      rcases List.mem_cons.mp ht with e | ht
      · exact hob t e.symm
      · exact h3 t ht)
    exact this
theorem made_ok' {n m : Nat} (C : TblC tbl) {T : Tab} (hU : T.Uq) (hT : T.Ok) {hs : List Fun} {ps : List Tm} {kd : D} {l b : List (Str × Str)} (hb : BodyP tbl T hs ps kd l b n m) {c : Con} (hc : c ∈ T.cs) {st : Sto} (ho : OkS st) :
    WCall (runF tbl (n + 1)) "_law_made" [.hdl 1, T.d, .lst (hs.map hdT), kd, knD l b, c.d, .int ((m + 1 : Nat) : Int)] st fun d st' => OkS st' ∧ ∃ o : Option Tm, d = oD o ∧ ∀ t, o = some t → BodyG T hs ps (m + 2) t := by
  have l3 := (hT.2 c hc).len
  refine WCall_run C.made rfl ?_
  simp only [m__law_made]
  simp! []
  refine WL_comp _ _ _ _ _ _ _ _ ?_
  simp! [Con.d]
  refine ⟨by simp [sizeLine]; omega, ?_⟩
  simp! []
  refine made_turns hb _ _ _ c.ps st ho fun os st' ho' h2 h3 => ?_
  simp! [memD_oD]
  refine WIf_dec (fun h => ?_) fun h => ?_
  · simp! []
    exact ⟨ho', none, rfl, fun _ h => nomatch h⟩
  · obtain ⟨ts, rfl⟩ := all_some h
    simp only [List.length_map] at h2
    simp! [oD_some, List.length_map]
    rw [if_pos (by unfold sizeLine; omega)]
    simp! []
    refine ⟨ho', some (.ap c.w ts), by rw [oD, Tm.d_ap], fun t e => ?_⟩
    cases e
    exact body_ap (by rw [h2]; exact okB_con hU hc) fun t ht => h3 t (List.mem_map.mpr ⟨t, ht, rfl⟩)
end
end Px
/-! A23: bodies: calls. -/
namespace Px
open PySem L2 Classical
theorem ixN_nat {n k : Nat} (h : k < n) : ixN n (k : Int) = some k := by
  unfold ixN
  rw [if_pos (by omega), if_pos (by omega)]
  simp
theorem hdT_range {hs : List Fun} {i : Nat} (h : i < hs.length) : atI (hs.map hdT) (i : Int) = some (hdT hs[i]) := by
  rw [atI_nat, List.getElem?_map, List.getElem?_eq_getElem h]; rfl
theorem fl_state (cells : List Int) (seed : Int) (fl : Bool) : (mkS cells seed fl)[1]? = some (Ob.lst [.hdl 0, .int seed, .bl fl]) := rfl
/-- the names of a family -/
def famN (l : List (Str × Str)) (fam : Str) : List (Str × Str) := l.filter fun q => decide (q.2 = fam)
theorem famN_mem {l : List (Str × Str)} {fam : Str} {q : Str × Str} (h : q ∈ famN l fam) : q ∈ l := (List.mem_filter.mp h).1
theorem famN_len {l : List (Str × Str)} {fam : Str} : (famN l fam).length ≤ l.length := List.length_filter_le _ _
def strN (l : List (Str × Str)) : List D := l.map fun q => D.str q.1
section
variable {tbl : Str → Option DefM}
theorem call_loop {n m : Nat} (C : TblC tbl) (hn : 2 ≤ n) {T : Tab} {hs : List Fun} (hH : HsOk hs) {ps : List Tm} {k : Int} {l b : List (Str × Str)} (hb : BodyP tbl T hs ps (.int k) l b n m) (hkb : KnOk ps b) {j : Nat} (hj : j < hs.length) (Q : Fl → ES → Prop) : ∀ (q i : Nat) (os : List (Option Tm)) (st : Sto) (x8 x9 x10 : Sl), i + q = hs[j].ps.length → os.length = i → OkS st → (∀ t, some t ∈ os → BodyG T hs ps (m + 1) t) →
    (∀ (os : List (Option Tm)) (st' : Sto) (x8 x9 x10 : Sl), OkS st' → os.length = hs[j].ps.length → (∀ t, some t ∈ os → BodyG T hs ps (m + 1) t) → Q .nx ⟨[.val (.hdl 1), .val T.d, .val (.lst (hs.map hdT)), .val (.int k), .val (.int (j : Int)), .val (knD l b), .val (.int ((m + 1 : Nat) : Int)), .own (.lst (os.map oD)), x8, x9, x10, .no, .no], st'⟩) →
    FTurns (runF tbl n) (.v 8) l__law_call_1 ((List.range' i q).map fun i : Nat => D.int (0 + i)) ⟨[.val (.hdl 1), .val T.d, .val (.lst (hs.map hdT)), .val (.int k), .val (.int (j : Int)), .val (knD l b), .val (.int ((m + 1 : Nat) : Int)), .own (.lst (os.map oD)), x8, x9, x10, .no, .no], st⟩ Q
  | 0, i, os, st, x8, x9, x10, hi, hl, ho, hos, q => q os st x8 x9 x10 ho (by omega) hos
  | p + 1, i, os, st, x8, x9, x10, hi, hl, ho, hos, q => by
    have hi2 : i < hs[j].ps.length := by omega
    have l3 := (hH.ok hs[j] (List.getElem_mem hj)).ok.ps.len
    obtain ⟨cells, seed, fl, rfl, hst⟩ := ho
    have ho : OkS (mkS cells seed fl) := ⟨cells, seed, fl, rfl, hst⟩
    rw [List.range'_succ]
    simp only [List.map_cons, FTurns]
    have e1 : ((m + 1 : Nat) : Int) - 1 = (m : Int) := by omega
    have e0 : (0 : Int) + (i : Int) = (i : Int) := by omega
    -- the next turn
    have next : ∀ (o : Option Tm) (st' : Sto) (x9 x10 : Sl), OkS st' → (∀ t, o = some t → BodyG T hs ps (m + 1) t) →
        FTurns (runF tbl n) (.v 8) l__law_call_1 ((List.range' (i + 1) p).map fun i : Nat => D.int (0 + i)) ⟨[.val (.hdl 1), .val T.d, .val (.lst (hs.map hdT)), .val (.int k), .val (.int (j : Int)), .val (knD l b), .val (.int ((m + 1 : Nat) : Int)), .own (.lst (os.map oD ++ [oD o])), .val (.int (0 + (i : Int))), x9, x10, .no, .no], st'⟩ Q := by
      intro o st' x9 x10 ho' hob
      have := call_loop C hn hH hb hkb hj Q p (i + 1) (os ++ [o]) st' (.val (.int (0 + (i : Int)))) x9 x10 (by omega) (by simp; omega) ho' (fun t ht => by
        rcases List.mem_append.mp ht with ht | ht
        · exact hos t ht
        · simp only [List.mem_singleton] at ht; exact hob t ht.symm) q
      rw [List.map_append] at this
      exact this
    -- a body as an argument
    have other : WB (runF tbl n) (.cons (.app 7 (.call "_law_body" (.cons (.var 0) (.cons (.var 1) (.cons (.var 2) (.cons (.var 3) (.cons (.var 5) (.cons (.var 9) (.cons (.bin .sub (.var 6) (.int 1)) .nil))))))))) .nil)
        ⟨[.val (.hdl 1), .val T.d, .val (.lst (hs.map hdT)), .val (.int k), .val (.int (j : Int)), .val (knD l b), .val (.int ((m + 1 : Nat) : Int)), .own (.lst (os.map oD)), .val (.int (0 + (i : Int))), .val (.str hs[j].ps[i].1), x10, .no, .no], mkS cells seed fl⟩ (seqQ (runF tbl n) .nil (forQ (fun S => FTurns (runF tbl n) (.v 8) l__law_call_1 ((List.range' (i + 1) p).map fun i : Nat => D.int (0 + i)) S Q) Q)) := by
      simp! [e1]
      refine WCall_mono _ (hb hs[j].ps[i].1 _ ho) fun d st' hd => ?_
      obtain ⟨ho', o, rfl, hob⟩ := hd
      simp! [List.length_map]
      refine ⟨by unfold sizeLine; omega, ?_⟩
      simp! []
      exact next o st' _ _ ho' hob
    -- a name as an argument
    have falls : WB (runF tbl n) (.cons (.asgL 10 (.comp (.var 11) (.tup (.cons (.v 11) (.cons (.v 12) .nil))) (.p (.e (.idx (.s 5) (.int 1)))) (.t (.cmp .Eq (.s 12) (.s 9))) [("name", 11), ("kind", 12)]))
        (.cons (.app 7 (.idx (.l (.disp (.cons .non (.cons (.var 10) .nil)))) (.toInt (.cmp .Gt (.e (.len (.s 10))) (.e (.int 0))))))
        (.cons (.ifS (.cmp .IsNot (.e (.idx (.s 7) (.var 8))) (.e .non))
        (.cons (.setL 7 (.var 8) (.call "_law_pick" (.cons (.var 0) (.cons (.var 10) .nil)))) .nil) .nil) .nil)))
        ⟨[.val (.hdl 1), .val T.d, .val (.lst (hs.map hdT)), .val (.int k), .val (.int (j : Int)), .val (knD l b), .val (.int ((m + 1 : Nat) : Int)), .own (.lst (os.map oD)), .val (.int (0 + (i : Int))), .val (.str hs[j].ps[i].1), x10, .no, .no], mkS cells seed fl⟩ (seqQ (runF tbl n) .nil (forQ (fun S => FTurns (runF tbl n) (.v 8) l__law_call_1 ((List.range' (i + 1) p).map fun i : Nat => D.int (0 + i)) S Q) Q)) := by
      have hbl := hkb.len
      simp! []
      refine WL_comp _ _ _ _ _ _ _ _ ?_
      simp! [knD]
      refine ⟨by simp [sizeLine]; omega, ?_⟩
      simp! []
      refine LTurns_filter (p := fun q : Str × Str => decide (q.2 = hs[j].ps[i].1)) (g := fun q => D.str q.1) _ (fun q hq K kk => ?_) ?_
      · unfold LTurn
        simp! [ssD]
        refine WIf_dec (fun h => ?_) fun h => ?_
        · simp! []
          rw [decide_eq_true h, if_pos rfl] at kk
          exact kk
        · simp! []
          rw [decide_eq_false h, if_neg nofun] at kk
          exact kk
      have ef : (b.filter fun q : Str × Str => decide (q.2 = hs[j].ps[i].1)) = famN b hs[j].ps[i].1 := rfl
      rw [ef]
      have hfl := famN_len (l := b) (fam := hs[j].ps[i].1)
      have hfm : ∀ q ∈ famN b hs[j].ps[i].1, q ∈ b := fun q h => famN_mem h
      generalize famN b hs[j].ps[i].1 = fn at hfl hfm
      cases fn with
      | nil =>
        simp! [show decide ((0 : Int) < ((0 : Nat) : Int)) = false from rfl, if_neg Bool.false_ne_true]
        refine ⟨by rw [List.length_map]; unfold sizeLine; omega, ?_⟩
        have ea : atI (os.map oD ++ [D.non]) (0 + (i : Int)) = some .non := by
          rw [e0, atI_nat, ← hl, List.getElem?_append_right (by simp)]; simp
        simp! [ea]
        exact next none _ _ _ ho (fun _ h => nomatch h)
      | cons q0 qs =>
        simp! [List.length_map]
        have ed2 : decide ((0 : Int) < (((qs.length + 1) : Nat) : Int)) = true := decide_eq_true (by omega)
        simp! [ed2, if_pos rfl, List.length_map]
        refine ⟨by unfold sizeLine; omega, ?_⟩
        have ea : ∀ x : D, atI (os.map oD ++ [x]) (0 + (i : Int)) = some x := fun x => by
          rw [e0, atI_nat, ← hl, List.getElem?_append_right (by simp)]; simp
        simp! [ea]
        refine WCall_mono _ (pick_ok C (by omega) _ (strN (q0 :: qs)) (.inl rfl) (by simp [strN]) (by have h5 := hfl; simp only [strN, List.length_map, List.length_cons] at h5 ⊢; omega) ho) fun d st' hd => ?_
        obtain ⟨ho', hd⟩ := hd
        obtain ⟨q1, hq1, rfl⟩ := List.mem_map.mp hd
        have ei : ∀ x : D, ixN (os.map oD ++ [x]).length (0 + (i : Int)) = some i := fun x => by
          rw [e0]; exact ixN_nat (by simp <;> omega)
        have es : ∀ x y : D, (os.map oD ++ [x]).set i y = os.map oD ++ [y] := fun x y => by
          rw [List.set_append_right _ _ (by simp <;> omega)]; simp [hl]
        simp! [ei, es]
        have := next (some (.nm q1.1)) st' (.val (.str hs[j].ps[i].1)) (.val (.lst (strN (q0 :: qs)))) ho' (fun t e => by cases e; exact body_nm hkb (hfm q1 hq1))
        simp! [oD] at this
        exact this
    simp! [l__law_call_1, hdT_range hj, hdT, prD_range hi2, prD]
    simp! [] at other falls
    refine WIf_mk (fun h => ?_) fun h => ?_
    · simp! [hdT_range hj, hdT]
      refine WIf_mk (fun h => ?_) fun h => ?_
      · simp! []
        exact falls
      · simp! []
        exact other
    · simp! [deref_hd, fl_state, hdlD_some, mkS]
      simp! [mkS] at other falls
      refine WIf_mk (fun h => ?_) fun h => ?_
      · simp! [hdT_range hj, hdT]
        refine WIf_mk (fun h => ?_) fun h => ?_
        · simp! []
          exact falls
        · simp! []
          exact other
      · simp! []
        exact other
end
end Px
/-! A24: bodies. -/
namespace Px
open PySem L2 Classical
/-- what the table's makers need -/
structure TabG (T : Tab) : Prop where
  ok : T.Ok
  uq : T.Uq
  ws : T.cs.map (·.w) = (List.range T.cs.length).map kW
  pos : 0 < T.cs.length
  le : T.cs.length ≤ 12
section
variable {tbl : Str → Option DefM}
theorem call_ok {n m : Nat} (C : TblC tbl) (hn : 2 ≤ n) {T : Tab} (G : TabG T) {hs : List Fun} (hH : HsOk hs) {ps : List Tm} {k : Int} {l b : List (Str × Str)} (hb : BodyP tbl T hs ps (.int k) l b n m) (hkb : KnOk ps b) {j : Nat} (hj : j < hs.length) {st : Sto} (ho : OkS st) :
    WCall (runF tbl (n + 1)) "_law_call" [.hdl 1, T.d, .lst (hs.map hdT), .int k, .int (j : Int), knD l b, .int ((m + 1 : Nat) : Int)] st fun d st' => OkS st' ∧ ∃ o : Option Tm, d = oD o ∧ ∀ t, o = some t → BodyG T hs ps (m + 2) t := by
  have l3 := (hH.ok hs[j] (List.getElem_mem hj)).ok.ps.len
  refine WCall_run C.call rfl ?_
  simp only [m__law_call]
  simp! []
  refine WS_for _ _ _ _ _ _ ?_
  simp! [hdT_range hj, hdT, List.length_map]
  rw [if_pos (rng_bound (by unfold sizeLine; omega))]
  simp! [rngD_eq, Int.toNat_natCast, List.range_eq_range']
  have hl := call_loop C (n := n) hn hH hb hkb hj
  refine hl _ hs[j].ps.length 0 [] st _ _ _ (by omega) rfl ho (fun _ h => nomatch h) fun os st' x8 x9 x10 ho' h2 h3 => ?_
  simp! [memD_oD]
  refine WIf_dec (fun h => ?_) fun h => ?_
  · simp! []
    exact ⟨ho', none, rfl, fun _ h => nomatch h⟩
  · obtain ⟨ts, rfl⟩ := all_some h
    simp only [List.length_map] at h2
    simp! [oD_some, List.length_map, hdT_range hj, hdT]
    rw [if_pos (by unfold sizeLine; omega)]
    simp! []
    refine ⟨ho', some (.ap hs[j].w ts), by rw [oD, Tm.d_ap], fun t e => ?_⟩
    cases e
    exact body_ap (by rw [h2]; exact okB_fun G.le G.ws hH hj) fun t ht => h3 t (List.mem_map.mpr ⟨t, ht, rfl⟩)
def flatC (cs : List Con) : List Con := cs.filter fun c => decide (c.ps.length = 0)
def callP (hs : List Fun) (fam : Str) (k : Int) (fl : Bool) (i : Nat) : Prop := ∃ f, hs[i]? = some f ∧ f.fam = fam ∧ (0 + (i : Int) ≤ k ∨ fl = true)
theorem strN_len (l : List (Str × Str)) : (strN l).length = l.length := by simp [strN]
theorem body_step (C : TblC tbl) {T : Tab} (G : TabG T) {hs : List Fun} (hH : HsOk hs) {ps : List Tm} {k : Int} {l b : List (Str × Str)} (hkl : KnOk ps l) (hkb : KnOk ps b) (m n : Nat) (hn : 2 * m + 4 ≤ n) (ih : 0 < m → BodyP tbl T hs ps (.int k) l b (n - 2) (m - 1)) : BodyP tbl T hs ps (.int k) l b n m := by
    intro fam st ho
    obtain ⟨n, rfl⟩ : ∃ k, n = k + 1 := ⟨n - 1, by omega⟩
    have hle := hH.le
    have hll := hkl.len
    have hT12 := G.le
    refine WCall_run C.body rfl ?_
    simp only [m__law_body]
    simp! []
    refine WL_comp _ _ _ _ _ _ _ _ ?_
    simp! [knD]
    refine ⟨by simp [sizeLine]; omega, ?_⟩
    simp! []
    refine LTurns_filter (p := fun q : Str × Str => decide (q.2 = fam)) (g := fun q => D.str q.1) _ (fun q hq K kk => ?_) ?_
    · unfold LTurn
      simp! [ssD]
      refine WIf_dec (fun h => ?_) fun h => ?_
      · simp! []
        rw [decide_eq_true h, if_pos rfl] at kk
        exact kk
      · simp! []
        rw [decide_eq_false h, if_neg nofun] at kk
        exact kk
    have ef : (l.filter fun q : Str × Str => decide (q.2 = fam)).map (fun q => D.str q.1) = strN (famN l fam) := rfl
    rw [ef]
    have hfl := famN_len (l := l) (fam := fam)
    have hfm : ∀ q ∈ famN l fam, q ∈ l := fun q h => famN_mem h
    generalize famN l fam = fn at hfl hfm
    simp! []
    refine WCall_of _ (cons_ok C (by omega) G.ok fam st) ?_
    obtain ⟨cells, seed, fl, rfl, hst⟩ := ho
    have ho : OkS (mkS cells seed fl) := ⟨cells, seed, fl, rfl, hst⟩
    simp! []
    refine WL_comp _ _ _ _ _ _ _ _ ?_
    simp! [strN_len, List.length_map]
    rw [if_pos (rng_bound (by unfold sizeLine; omega))]
    simp! [rngD_eq, Int.toNat_natCast]
    refine ⟨by simp [sizeLine]; omega, ?_⟩
    simp! []
    refine LTurns_filter (p := fun i : Nat => decide (callP hs fam k fl i)) (g := fun i : Nat => D.int (0 + i)) _ (fun i hi K kk => ?_) ?_
    · have hi := List.mem_range.mp hi
      have er : atI (hs.map hdT) (0 + (i : Int)) = some (hdT hs[i]) := by rw [Int.zero_add]; exact hdT_range hi
      unfold LTurn
      simp! [er, hdT]
      refine WIf_dec (fun h => ?_) fun h => ?_
      · simp! []
        refine WIf_dec (fun h2 => ?_) fun h2 => ?_
        · simp! []
          rw [decide_eq_true ⟨hs[i], List.getElem?_eq_getElem hi, h, .inl h2⟩, if_pos rfl] at kk
          exact kk
        · simp! [deref_hd, fl_state, hdlD_some, mkS]
          cases fl with
          | true =>
            rw [decide_eq_true ⟨hs[i], List.getElem?_eq_getElem hi, h, .inr rfl⟩, if_pos rfl] at kk
            simp! []
            exact kk
          | false =>
            rw [decide_eq_false (fun ⟨f, h3, h4, h5⟩ => h5.elim h2 nofun), if_neg nofun] at kk
            simp! []
            exact kk
      · simp! []
        rw [decide_eq_false (fun ⟨f, h3, h4, h5⟩ => h (by rw [List.getElem?_eq_getElem hi] at h3; cases h3; exact h4)), if_neg nofun] at kk
        exact kk
    have hcm : ∀ i ∈ (List.range hs.length).filter (fun i : Nat => decide (callP hs fam k fl i)), i < hs.length := fun i h => List.mem_range.mp (List.mem_filter.mp h).1
    have hcl : ((List.range hs.length).filter (fun i : Nat => decide (callP hs fam k fl i))).length ≤ hs.length := by
      have := List.length_filter_le (fun i : Nat => decide (callP hs fam k fl i)) (List.range hs.length)
      simpa using this
    generalize (List.range hs.length).filter (fun i : Nat => decide (callP hs fam k fl i)) = cl at hcm hcl
    simp! []
    refine WCall_mono _ (draw_ok C (by omega) 6 (by decide) (by decide) ho) fun d st1 hd => ?_
    obtain ⟨ho1, pick, rfl, hp1, hp2⟩ := hd
    have hrm : ∀ c ∈ consF T fam, c ∈ T.cs := fun c h => (List.mem_filter.mp h).1
    have hrl := consF_len (T := T) fam
    generalize consF T fam = rows at hrm hrl
    -- the end: names, flat ones, none
    have fin3 : ∀ (st : Sto) (x9 x11 x12 : Sl), OkS st → WS (runF tbl n) (.ifS (.cmp .Gt (.e (.len (.s 11))) (.e (.int 0)))
        (.cons (.ret (.tup (.cons (.idx (.e (.call "_law_pick" (.cons (.var 0) (.cons (.var 11) .nil)))) (.int 0)) .nil))) .nil) .nil)
        ⟨[.val (.hdl 1), .val T.d, .val (.lst (hs.map hdT)), .val (.int k), .val (knD l b), .val (.str fam), .val (.int (m : Int)), .own (.lst (strN fn)), .val (.lst (rows.map Con.d)), x9, .val (.int pick), .own (.lst ((flatC rows).map Con.d)), x12, .no, .no, .no, .no], st⟩
        (seqQ (runF tbl n) (.cons (.ret .non) .nil) (endQ fun d st' => OkS st' ∧ ∃ o : Option Tm, d = oD o ∧ ∀ t, o = some t → BodyG T hs ps (m + 1) t)) := by
      intro st x9 x11 x12 ho
      have hfl := List.length_filter_le (fun c : Con => decide (c.ps.length = 0)) rows
      simp! [strN_len, List.length_map]
      refine WIf_dec (fun h => ?_) fun h => ?_
      · simp! []
        refine WCall_mono _ (pick_ok C (by omega) _ ((flatC rows).map Con.d) (.inl rfl) (by rw [List.length_map]; omega) (by rw [List.length_map]; unfold flatC; omega) ho) fun d st' hd => ?_
        obtain ⟨ho', hd⟩ := hd
        obtain ⟨c, hc, rfl⟩ := List.mem_map.mp hd
        have hc2 := List.mem_filter.mp hc
        have hc0 : c.ps.length = 0 := of_decide_eq_true hc2.2
        simp! [Con.d]
        refine ⟨ho', some (.ap c.w []), by rw [oD, Tm.d_ap]; rfl, fun t e => ?_⟩
        cases e
        have := body_ap (T := T) (hs := hs) (ps := ps) (m := 0) (w := c.w) (ts := []) (by rw [List.length_nil, ← hc0]; exact okB_con G.uq (hrm c hc2.1)) (fun _ h => nomatch h)
        exact this.mono (by omega)
      · simp! []
        exact ⟨ho, none, rfl, fun _ h => nomatch h⟩
    have fin2 : ∀ (st : Sto) (x9 x12 : Sl), OkS st → WS (runF tbl n) (.ifS (.cmp .Gt (.e (.len (.s 7))) (.e (.int 0)))
        (.cons (.ret (.call "_law_pick" (.cons (.var 0) (.cons (.var 7) .nil)))) .nil) .nil)
        ⟨[.val (.hdl 1), .val T.d, .val (.lst (hs.map hdT)), .val (.int k), .val (knD l b), .val (.str fam), .val (.int (m : Int)), .own (.lst (strN fn)), .val (.lst (rows.map Con.d)), x9, .val (.int pick), .no, x12, .no, .no, .no, .no], st⟩
        (seqQ (runF tbl n) (.cons (.asgL 11 (.comp (.var 14) (.v 14) (.p (.e (.var 8))) (.t (.cmp .Eq (.e (.len (.e (.idx (.s 14) (.int 1))))) (.e (.int 0)))) [("row", 14)]))
        (.cons (.ifS (.cmp .Gt (.e (.len (.s 11))) (.e (.int 0)))
        (.cons (.ret (.tup (.cons (.idx (.e (.call "_law_pick" (.cons (.var 0) (.cons (.var 11) .nil)))) (.int 0)) .nil))) .nil) .nil) (.cons (.ret .non) .nil))) (endQ fun d st' => OkS st' ∧ ∃ o : Option Tm, d = oD o ∧ ∀ t, o = some t → BodyG T hs ps (m + 1) t)) := by
      intro st x9 x12 ho
      simp! [strN_len, List.length_map]
      refine WIf_dec (fun h => ?_) fun h => ?_
      · simp! []
        refine WCall_mono _ (pick_ok C (by omega) _ (strN fn) (.inl rfl) (by rw [strN, List.length_map]; omega) (by rw [strN, List.length_map]; omega) ho) fun d st' hd => ?_
        obtain ⟨ho', hd⟩ := hd
        obtain ⟨q1, hq1, rfl⟩ := List.mem_map.mp hd
        simp! []
        exact ⟨ho', some (.nm q1.1), by rw [oD, Tm.d_nm], fun t e => by cases e; exact body_nm hkl (hfm q1 hq1)⟩
      · simp! []
        refine WL_comp _ _ _ _ _ _ _ _ ?_
        simp! []
        refine ⟨by simp [sizeLine]; omega, ?_⟩
        simp! []
        refine LTurns_filter (p := fun c : Con => decide (c.ps.length = 0)) (g := Con.d) _ (fun c hq K kk => ?_) ?_
        · unfold LTurn
          simp! [Con.d, List.length_map]
          refine WIf_dec (fun h => ?_) fun h => ?_
          · simp! []
            rw [decide_eq_true (by omega), if_pos rfl] at kk
            exact kk
          · simp! []
            rw [decide_eq_false (by omega), if_neg nofun] at kk
            exact kk
        have f3 := fin3 st x9 .no x12 ho
        simp! [strN_len, flatC, List.length_map] at f3
        simp! [strN_len, List.length_map]
        exact f3
    have isn : ∀ o : Option Tm, isNon (oD o) = o.isNone := fun o => by cases o with
      | none => rfl
      | some t => exact isNon_tm t
    have dero : ∀ (st : Sto) (o : Option Tm), deref st (oD o) = oD o := fun st o => by cases o with
      | none => rfl
      | some t => exact deref_tm st t
    have s2 : ∀ (st : Sto) (x9 x12 : Sl), OkS st → WS (runF tbl n) (.ifS (.andT (.cmp .Lt (.s 10) (.e (.int 4))) (.andT (.cmp .Gt (.e (.len (.s 8))) (.e (.int 0))) (.oneT (.cmp .Gt (.s 6) (.e (.int 0))))))
        (.cons (.asg (.v 12) (.call "_law_made" (.cons (.var 0) (.cons (.var 1) (.cons (.var 2) (.cons (.var 3) (.cons (.var 4) (.cons (.call "_law_pick" (.cons (.var 0) (.cons (.var 8) .nil))) (.cons (.var 6) .nil)))))))))
        (.cons (.ifS (.cmp .IsNot (.s 12) (.e .non)) (.cons (.ret (.var 12)) .nil) .nil) .nil)) .nil)
        ⟨[.val (.hdl 1), .val T.d, .val (.lst (hs.map hdT)), .val (.int k), .val (knD l b), .val (.str fam), .val (.int (m : Int)), .own (.lst (strN fn)), .val (.lst (rows.map Con.d)), x9, .val (.int pick), .no, x12, .no, .no, .no, .no], st⟩
        (seqQ (runF tbl n) (.cons (.ifS (.cmp .Gt (.e (.len (.s 7))) (.e (.int 0)))
        (.cons (.ret (.call "_law_pick" (.cons (.var 0) (.cons (.var 7) .nil)))) .nil) .nil)
        (.cons (.asgL 11 (.comp (.var 14) (.v 14) (.p (.e (.var 8))) (.t (.cmp .Eq (.e (.len (.e (.idx (.s 14) (.int 1))))) (.e (.int 0)))) [("row", 14)]))
        (.cons (.ifS (.cmp .Gt (.e (.len (.s 11))) (.e (.int 0)))
        (.cons (.ret (.tup (.cons (.idx (.e (.call "_law_pick" (.cons (.var 0) (.cons (.var 11) .nil)))) (.int 0)) .nil))) .nil) .nil) (.cons (.ret .non) .nil)))) (endQ fun d st' => OkS st' ∧ ∃ o : Option Tm, d = oD o ∧ ∀ t, o = some t → BodyG T hs ps (m + 1) t)) := by
      intro st x9 x12 ho
      have f2 := fin2 st x9 x12 ho
      simp! [strN_len, List.length_map] at f2
      simp! [strN_len, List.length_map]
      refine WIf_mk (fun h => ?_) fun h => ?_
      rotate_left
      · simp! [strN_len, List.length_map]
        exact f2
      simp! [strN_len, List.length_map]
      refine WIf_dec (fun h => ?_) fun h => ?_
      rotate_left
      · simp! [strN_len, List.length_map]
        exact f2
      simp! []
      refine WIf_dec (fun hm => ?_) fun hm => ?_
      rotate_left
      · simp! [strN_len, List.length_map]
        exact f2
      obtain ⟨m, rfl⟩ : ∃ j, m = j + 1 := ⟨m - 1, by omega⟩
      simp! []
      refine WCall_mono _ (pick_ok C (by omega) _ (rows.map Con.d) (.inl rfl) (by rw [List.length_map]; omega) (by rw [List.length_map]; omega) ho) fun d st1 hd => ?_
      obtain ⟨ho1, hd⟩ := hd
      obtain ⟨c, hc, rfl⟩ := List.mem_map.mp hd
      obtain ⟨n, rfl⟩ : ∃ j, n = j + 1 := ⟨n - 1, by omega⟩
      have hb : BodyP tbl T hs ps (.int k) l b n m := ih (by omega)
      simp! []
      refine WCall_mono _ (made_ok' (n := n) C G.uq G.ok hb (hrm c hc) ho1) fun d st2 hd => ?_
      obtain ⟨ho2, o, rfl, hob⟩ := hd
      simp! [isn, dero]
      cases o with
      | some t =>
        simp! [Option.isNone_some]
        exact ⟨ho2, some t, rfl, hob⟩
      | none =>
        have f2 := fin2 st2 x9 (.val .non) ho2
        simp! [strN_len, List.length_map] at f2
        simp! [Option.isNone_none, oD, strN_len, List.length_map]
        exact f2
    have f2 := s2 st1 (.own (.lst (cl.map fun i : Nat => D.int (0 + (i : Int))))) .no ho1
    simp! [strN_len, List.length_map] at f2
    simp! [strN_len, List.length_map]
    refine WIf_mk (fun h => ?_) fun h => ?_
    rotate_left
    · simp! [strN_len, List.length_map]
      exact f2
    simp! [strN_len, List.length_map]
    refine WIf_dec (fun h => ?_) fun h => ?_
    rotate_left
    · simp! [strN_len, List.length_map]
      exact f2
    simp! []
    refine WIf_dec (fun hm => ?_) fun hm => ?_
    rotate_left
    · simp! [strN_len, List.length_map]
      exact f2
    obtain ⟨m, rfl⟩ : ∃ j, m = j + 1 := ⟨m - 1, by omega⟩
    simp! []
    refine WCall_mono _ (pick_ok C (by omega) _ (cl.map fun i : Nat => D.int (0 + (i : Int))) (.inl rfl) (by rw [List.length_map]; omega) (by rw [List.length_map]; omega) ho1) fun d st2 hd => ?_
    obtain ⟨ho2, hd⟩ := hd
    obtain ⟨j, hj, rfl⟩ := List.mem_map.mp hd
    have hjl := hcm j hj
    have ej : (0 : Int) + (j : Int) = (j : Int) := by omega
    obtain ⟨n, rfl⟩ : ∃ j, n = j + 1 := ⟨n - 1, by omega⟩
    have hb : BodyP tbl T hs ps (.int k) l b n m := ih (by omega)
    simp! []
    rw [ej]
    refine WCall_mono _ (call_ok (n := n) C (by omega) G hH hb hkb hjl ho2) fun d st3 hd => ?_
    obtain ⟨ho3, o, rfl, hob⟩ := hd
    simp! [isn, dero]
    cases o with
    | some t =>
      simp! [Option.isNone_some]
      exact ⟨ho3, some t, rfl, hob⟩
    | none =>
      have f2 := s2 st3 (.val (.lst (cl.map fun i : Nat => D.int (0 + (i : Int))))) (.val .non) ho3
      simp! [strN_len, List.length_map] at f2
      simp! [Option.isNone_none, oD, strN_len, List.length_map]
      exact f2
theorem body_ok (C : TblC tbl) {T : Tab} (G : TabG T) {hs : List Fun} (hH : HsOk hs) {ps : List Tm} {k : Int} {l b : List (Str × Str)} (hkl : KnOk ps l) (hkb : KnOk ps b) : ∀ (m n : Nat), 2 * m + 4 ≤ n → BodyP tbl T hs ps (.int k) l b n m := by
  intro m
  induction m with
  | zero => exact fun n hn => body_step C G hH hkl hkb 0 n hn (fun h => (Nat.lt_irrefl 0 h).elim)
  | succ m ih => exact fun n hn => body_step C G hH hkl hkb (m + 1) n hn fun _ => ih (n - 2) (by omega)
end
end Px
/-! A25: copies. -/
namespace Px
open PySem L2 Classical
theorem okC_okB {T : Tab} {hs : List Fun} {w : Str} {n : Nat} (h : T.okC w n) : okB T hs w n := by
  obtain ⟨c, hc, hl⟩ := h
  exact ⟨(c.ps.map (·.2), c.ix, Str.ofString "make"), by simp only [hdO, hc], by simp [hl]⟩
theorem W_mono {ok ok' : Str → Nat → Prop} (h : ∀ w n, ok w n → ok' w n) {t : Tm} (ht : t.W ok) : t.W ok' := by
  induction t using Tm.ind with
  | nm x => exact .nm x
  | ap w ts ih =>
    cases ht with
    | ap a b => exact .ap (h _ _ a) fun t ht => ih t ht (b t ht)
theorem ssD_nb (q : Str × Str) : (ssD q).nb = true := by simp [ssD, D.nb, D.nbs]
theorem ssD_dep (q : Str × Str) : (ssD q).dep ≤ 150 := by simp [ssD, D.dep, D.deps]
theorem eqD_pair (q : Str × Str) (t : Tm) (fam : Str) : eqD (ssD q) (.tup [t.d, .str fam]) = some (decide (ssD q = .tup [t.d, .str fam])) :=
  eqD_nb (ssD_nb q) (by simp [D.nb, D.nbs, Tm.nb]) (.inl (ssD_dep q))
section
variable {tbl : Str → Option DefM}
theorem copy_loop {n : Nat} (C : TblC tbl) (hn : 1 ≤ n) {T : Tab} (G : TabG T) {hs : List Fun} (hH : HsOk hs) (x1 x2 : Sl) {i : Nat} (hi : i < hs.length) (ps : List Tm) (hps : ps.length = hs[i].ps.length) (w : Str) (l b : List (Str × Str)) (hb : b.length ≤ 300) (Q : Fl → ES → Prop) : ∀ (ts : List Tm) (acc : List Tm) (st : Sto) (x7 x8 : Sl), OkS st → acc.length + ts.length ≤ 100 → (∀ t ∈ ts, BodyG T hs ps 2 t) → (∀ t ∈ acc, BodyG T hs ps 2 t) →
    (∀ (acc' : List Tm) (st' : Sto) (x7 x8 : Sl), OkS st' → acc'.length = acc.length + ts.length → (∀ t ∈ acc', BodyG T hs ps 2 t) → Q .nx ⟨[.val (.hdl 1), x1, x2, .val (rowD ps), .val (knD l b), .val (hdT hs[i]), .own (.lst (acc'.map Tm.d)), x7, x8, .no], st'⟩) →
    FTurns (runF tbl n) (.v 7) l__law_copy_1 (ts.map Tm.d) ⟨[.val (.hdl 1), x1, x2, .val (rowD ps), .val (knD l b), .val (hdT hs[i]), .own (.lst (acc.map Tm.d)), x7, x8, .no], st⟩ Q
  | [], acc, st, x7, x8, ho, _, _, ha, q => q acc st x7 x8 ho rfl ha
  | t :: ts, acc, st, x7, x8, ho, hlen, ht, ha, q => by
    simp only [List.map_cons, FTurns]
    simp only [List.length_cons] at hlen
    have hpos := (hH.ok hs[i] (List.getElem_mem hi)).pos
    have e0 : atI (hs[i].ps.map prD) 0 = some (prD hs[i].ps[0]) := by
      rw [show (0 : Int) = ((0 : Nat) : Int) from rfl, atI_nat, List.getElem?_map, List.getElem?_eq_getElem hpos]; rfl
    have next : ∀ (u : Tm) (st' : Sto) (x7 x8 : Sl), OkS st' → BodyG T hs ps 2 u → FTurns (runF tbl n) (.v 7) l__law_copy_1 (ts.map Tm.d) ⟨[.val (.hdl 1), x1, x2, .val (rowD ps), .val (knD l b), .val (hdT hs[i]), .own (.lst (acc.map Tm.d ++ [u.d])), x7, x8, .no], st'⟩ Q := by
      intro u st' x7 x8 ho' hu
      have := copy_loop C hn G hH x1 x2 hi ps hps w l b hb Q ts (acc ++ [u]) st' x7 x8 ho' (by simp; omega) (fun t h => ht t (List.mem_cons_of_mem _ h)) (fun v hv => by
        rcases List.mem_append.mp hv with hv | hv
        · exact ha v hv
        · simp only [List.mem_singleton] at hv; subst hv; exact hu) (fun acc' st' x7 x8 h1 h2 h3 => q acc' st' x7 x8 h1 (by simp at h2 ⊢; omega) h3)
      rw [List.map_append] at this
      exact this
    have keep : ∀ (st' : Sto) (x8 : Sl), OkS st' → WB (runF tbl n) (.cons (.app 6 (.var 7)) .nil) ⟨[.val (.hdl 1), x1, x2, .val (rowD ps), .val (knD l b), .val (hdT hs[i]), .own (.lst (acc.map Tm.d)), .val t.d, x8, .no], st'⟩ (seqQ (runF tbl n) .nil (forQ (fun S => FTurns (runF tbl n) (.v 7) l__law_copy_1 (ts.map Tm.d) S Q) Q)) := by
      intro st' x8 ho'
      simp! [List.length_map]
      refine ⟨by unfold sizeLine; omega, ?_⟩
      simp! []
      exact next t st' _ _ ho' (ht t List.mem_cons_self)
    simp! [l__law_copy_1]
    refine WL_comp _ _ _ _ _ _ _ _ ?_
    simp! [knD]
    refine ⟨by simp [sizeLine]; omega, ?_⟩
    simp! []
    refine LTurns_filter (p := fun q : Str × Str => decide (ssD q = .tup [t.d, .str hs[i].ps[0].1])) (g := ssD) _ (fun q hq K kk => ?_) ?_
    · unfold LTurn
      have dq : ∀ st, deref st (ssD q) = ssD q := fun st => rfl
      simp! [hdT, e0, prD, dq, eqD_pair]
      refine WIf_dec (fun h => ?_) fun h => ?_
      · simp! []
        rw [decide_eq_true h, if_pos rfl] at kk
        exact kk
      · simp! []
        rw [decide_eq_false h, if_neg nofun] at kk
        exact kk
    simp! [List.length_map]
    generalize decide (0 < (((b.filter fun q : Str × Str => decide (ssD q = .tup [t.d, .str hs[i].ps[0].1])).length : Nat) : Int)) = inner
    cases t with
    | ap v us =>
      have k1 := keep st (.val (.bl inner)) ho
      simp! [] at k1
      simp! []
      exact k1
    | nm x =>
      have k1 := fun st ho => keep st (.val (.bl inner)) ho
      simp! [] at k1
      simp! [rowD, List.length_map]
      refine WIf_mk (fun h1 => ?_) fun h1 => ?_
      rotate_left
      · simp! []
        exact k1 st ho
      simp! [rowD, List.length_map]
      refine WIf_dec (fun h2 => ?_) fun h2 => ?_
      rotate_left
      · simp! []
        exact k1 st ho
      simp! []
      refine WCall_mono _ (draw_ok C (by omega) 2 (by decide) (by decide) ho) fun d st' hd => ?_
      obtain ⟨ho', v, rfl, hv1, hv2⟩ := hd
      simp! []
      refine WIf_dec (fun h3 => ?_) fun h3 => ?_
      rotate_left
      · simp! []
        exact k1 st' ho'
      have hone : hs[i].ps.length = 1 := by omega
      simp! [hdT, List.length_map]
      refine ⟨by unfold sizeLine; omega, ?_⟩
      simp! []
      have hb2 : BodyG T hs ps 2 (.ap hs[i].w [.nm x]) := by
        have := body_ap (m := 1) (T := T) (hs := hs) (ps := ps) (w := hs[i].w) (ts := [.nm x]) (by rw [List.length_singleton, ← hone]; exact okB_fun G.le G.ws hH hi) (fun u hu => by
          simp only [List.mem_singleton] at hu
          subst hu
          exact ⟨.nm _, by simp [Tm.dep], (ht _ List.mem_cons_self).has⟩)
        exact this
      have := next (.ap hs[i].w [.nm x]) st' (.val (.str x)) (.val (.bl inner)) ho' hb2
      simp! [hdT] at this
      exact this
theorem copy_ok {n : Nat} (C : TblC tbl) (hn : 2 ≤ n) {T : Tab} (G : TabG T) {hs : List Fun} (hH : HsOk hs) {i : Nat} (hi : i < hs.length) (ps : List Tm) (hp : PatG T hs[i].ps.length ps) (l b : List (Str × Str)) (hb : KnOk ps b) {st : Sto} (ho : OkS st) :
    WCall (runF tbl n) "_law_copy" [.hdl 1, .lst (hs.map hdT), .int (0 + (i : Int)), rowD ps, knD l b] st fun d st' => OkS st' ∧ ∃ o : Option Tm, d = oD o ∧ ∀ t, o = some t → BodyG T hs ps 3 t := by
  obtain ⟨n, rfl⟩ : ∃ k, n = k + 1 := ⟨n - 1, by omega⟩
  refine WCall_run C.copy rfl ?_
  simp only [m__law_copy]
  have hpos := (hH.ok hs[i] (List.getElem_mem hi)).pos
  have hl := hp.len
  have e1 : atI (hs.map hdT) (0 + (i : Int)) = some (hdT hs[i]) := by rw [Int.zero_add]; exact hdT_range hi
  cases ps with
  | nil => simp only [List.length_nil] at hl; omega
  | cons p ps =>
    have hpw := hp.w p List.mem_cons_self
    simp! [e1, rowD]
    cases p with
    | nm x =>
      simp! []
      exact ⟨ho, some (.nm x), by rw [oD, Tm.d_nm], fun t e => by cases e; exact ⟨.nm _, by simp [Tm.dep], fun y hy => ⟨_, List.mem_cons_self, hy⟩⟩⟩
    | ap w ts =>
      obtain ⟨hw1, hws⟩ := W_sub hpw.1
      have hdep := Tm.dep_ap.mp (show (Tm.ap w ts).dep ≤ 1 + 1 from hpw.2.1)
      obtain ⟨c0, hc0, hcl⟩ := hw1
      have l3 := (G.ok.2 c0 (Tab.find_mem hc0).1).len
      simp! []
      refine WS_for _ _ _ _ _ _ ?_
      simp! []
      have hloop := copy_loop C (n := n) (by omega) G hH (.val (.lst (hs.map hdT))) (.val (.int (0 + (i : Int)))) hi (.ap w ts :: ps) hl w l b hb.len
      simp! [rowD] at hloop
      refine hloop _ ts [] st _ _ ho (by simp; omega) (fun t ht => ⟨W_mono (fun w n h => okC_okB h) (hws t ht), by have := hdep t ht; omega, fun x hx => ⟨_, List.mem_cons_self, .ap ht hx⟩⟩) (fun _ h => nomatch h) fun acc' st' x7 x8 h1 h2 h3 => ?_
      simp only [List.length_nil, Nat.zero_add] at h2
      simp! [List.length_map]
      rw [if_pos (by unfold sizeLine; omega)]
      simp! []
      refine ⟨h1, some (.ap w acc'), by rw [oD, Tm.d_ap], fun t e => ?_⟩
      cases e
      exact body_ap (okC_okB ⟨c0, hc0, by omega⟩) h3
end
end Px
/-! A26: the law's program. -/
namespace Px
open PySem L2 Classical
def keyF (f : Fun) : Str × List (Str × Tm) × Tm := (f.w, f.ps, f.ix)
theorem ffind_key {fs hs : List Fun} (h : fs.map keyF = hs.map keyF) (w : Str) : (ffind fs w).map keyF = (ffind hs w).map keyF := by
  unfold ffind
  induction fs generalizing hs with
  | nil => cases hs with
    | nil => rfl
    | cons a b => simp at h
  | cons f fs ih =>
    cases hs with
    | nil => simp at h
    | cons g hs =>
      simp only [List.map_cons, List.cons.injEq] at h
      have hw : f.w = g.w := congrArg (·.1) h.1
      rw [List.find?_cons, List.find?_cons, hw]
      by_cases e : g.w = w
      · simp [e, h.1]
      · rw [decide_eq_false e]; exact ih h.2
theorem hdO_key {T : Tab} {fs hs : List Fun} (h : fs.map keyF = hs.map keyF) (w : Str) : hdO T fs w = hdO T hs w := by
  unfold hdO
  cases T.find w with
  | some c => rfl
  | none =>
    have := ffind_key h w
    simp only
    cases h1 : ffind fs w <;> cases h2 : ffind hs w
    · rfl
    · rw [h1, h2] at this; simp at this
    · rw [h1, h2] at this; simp at this
    · rw [h1, h2] at this
      simp only [Option.map_some, keyF, Option.some.injEq, Prod.mk.injEq] at this
      simp only [Option.map_some, this.2.1, this.2.2]
theorem okB_key {T : Tab} {fs hs : List Fun} (h : fs.map keyF = hs.map keyF) {w : Str} {n : Nat} (hb : okB T hs w n) : okB T fs w n := by
  obtain ⟨x, hx, hl⟩ := hb
  exact ⟨x, (hdO_key h w).trans hx, hl⟩
/-- a clause that is made -/
def ClG (T : Tab) (hs : List Fun) (m : Nat) (c : List Tm × Tm) : Prop := PatG T m c.1 ∧ BodyG T hs c.1 4 c.2
structure PreFun (T : Tab) (hs : List Fun) (f : Fun) : Prop where
  ok : FunOk f
  pos : 0 < f.ps.length
  len : f.cls.length ≤ 10
  cls : ∀ c ∈ f.cls, ClG T hs f.ps.length c
theorem PatG.patOk {T : Tab} {m : Nat} (hm : m ≤ 3) {ps : List Tm} (h : PatG T m ps) : PatOk T m ps := by
  refine ⟨h.len, fun p hp => (h.w p hp).1, ?_⟩
  have := szs_le (ps := ps) (n := 100) fun p hp => (h.w p hp).2.2
  have hl := h.len
  unfold sizeLine
  have : ps.length * 100 ≤ 300 := by omega
  omega
theorem PreFun.full {T : Tab} {hs fs : List Fun} (hk : fs.map keyF = hs.map keyF) {f : Fun} (h : PreFun T hs f) : FullFun T fs f := by
  refine ⟨h.ok, by have := h.len; omega, fun c hc => (h.cls c hc).1.patOk h.ok.ps.len, fun c hc => ?_, fun c hc => (h.cls c hc).2.has⟩
  have := (h.cls c hc).2
  exact ⟨W_mono (fun w n q => okB_key hk q) this.w, by have := this.dep; omega⟩
section
variable {tbl : Str → Option DefM}
theorem prog_in {n : Nat} (C : TblC tbl) (hn : 12 ≤ n) {T : Tab} (G : TabG T) {hs : List Fun} (hH : HsOk hs) (x3 : Sl) {i : Nat} (hi : i < hs.length) (Q : Fl → ES → Prop) : ∀ (rows : List (List Tm)) (cls : List (List Tm × Tm)) (st : Sto) (x6 x7 x8 : Sl), OkS st → (∀ r ∈ rows, PatG T hs[i].ps.length r) → cls.length + rows.length ≤ 10 → (∀ c ∈ cls, ClG T hs hs[i].ps.length c) →
    (∀ (cls' : List (List Tm × Tm)) (st' : Sto) (x6 x7 x8 : Sl), OkS st' → cls'.length ≤ 10 → (∀ c ∈ cls', ClG T hs hs[i].ps.length c) → Q .nx ⟨[.val (.hdl 1), .val T.d, .val (.lst (hs.map hdT)), x3, .val (.int (0 + (i : Int))), .own (.lst (cls'.map clD)), x6, x7, x8], st'⟩) →
    FTurns (runF tbl n) (.v 6) l__law_program_1 (rows.map rowD) ⟨[.val (.hdl 1), .val T.d, .val (.lst (hs.map hdT)), x3, .val (.int (0 + (i : Int))), .own (.lst (cls.map clD)), x6, x7, x8], st⟩ Q
  | [], cls, st, x6, x7, x8, ho, _, hl, hc, q => q cls st x6 x7 x8 ho (by simpa using hl) hc
  | r :: rows, cls, st, x6, x7, x8, ho, hr, hl, hc, q => by
    simp only [List.map_cons, FTurns]
    simp only [List.length_cons] at hl
    have hr0 := hr r List.mem_cons_self
    have hHi := hH.ok hs[i] (List.getElem_mem hi)
    have hpos := hHi.pos
    have e1 : atI (hs.map hdT) (0 + (i : Int)) = some (hdT hs[i]) := by rw [Int.zero_add]; exact hdT_range hi
    have e0 : atI (hs[i].ps.map prD) 0 = some (prD hs[i].ps[0]) := by
      rw [show (0 : Int) = ((0 : Nat) : Int) from rfl, atI_nat, List.getElem?_map, List.getElem?_eq_getElem hpos]; rfl
    have isn : ∀ o : Option Tm, isNon (oD o) = o.isNone := fun o => by cases o with
      | none => rfl
      | some t => exact isNon_tm t
    have dero : ∀ (st : Sto) (o : Option Tm), deref st (oD o) = oD o := fun st o => by cases o with
      | none => rfl
      | some t => exact deref_tm st t
    -- the last if
    have fin : ∀ (o : Option Tm) (st' : Sto) (x7 : Sl), OkS st' → (∀ t, o = some t → BodyG T hs r 4 t) → WS (runF tbl n) (.ifS (.cmp .IsNot (.s 8) (.e .non)) (.cons (.app 5 (.tup (.cons (.var 6) (.cons (.var 8) .nil)))) .nil) .nil)
        ⟨[.val (.hdl 1), .val T.d, .val (.lst (hs.map hdT)), x3, .val (.int (0 + (i : Int))), .own (.lst (cls.map clD)), .val (rowD r), x7, .val (oD o)], st'⟩ (seqQ (runF tbl n) .nil (forQ (fun S => FTurns (runF tbl n) (.v 6) l__law_program_1 (rows.map rowD) S Q) Q)) := by
      intro o st' x7 ho' hob
      simp! [isn, dero]
      cases o with
      | none =>
        simp! [Option.isNone_none]
        exact prog_in C hn G hH x3 hi Q rows cls st' _ _ _ ho' (fun r h => hr r (List.mem_cons_of_mem _ h)) (by omega) hc q
      | some t =>
        simp! [Option.isNone_some, List.length_map]
        refine ⟨by unfold sizeLine; omega, ?_⟩
        simp! []
        have e : cls.map clD ++ [D.tup [rowD r, oD (some t)]] = (cls ++ [(r, t)]).map clD := by simp [clD, rowD, oD]
        rw [e]
        exact prog_in C hn G hH x3 hi Q rows (cls ++ [(r, t)]) st' _ _ _ ho' (fun r h => hr r (List.mem_cons_of_mem _ h)) (by simp; omega) (fun c h => by
          rcases List.mem_append.mp h with h | h
          · exact hc c h
          · simp only [List.mem_singleton] at h; subst h; exact ⟨hr0, hob t rfl⟩) q
    simp! [l__law_program_1, e1]
    refine WCall_mono _ (named_ok C (by omega) G.ok G.uq hHi r hr0 st) fun d st1 hd => ?_
    obtain ⟨rfl, l, b, rfl, hkl, hkb⟩ := hd
    have e00 : (0 + (i : Int)) = (0 + (i : Int)) := rfl
    -- the body, if there is none
    have bod : ∀ (o : Option Tm) (st' : Sto), OkS st' → (∀ t, o = some t → BodyG T hs r 4 t) → WS (runF tbl n) (.ifS (.cmp .Is (.s 8) (.e .non))
        (.cons (.asg (.v 8) (.call "_law_body" (.cons (.var 0) (.cons (.var 1) (.cons (.var 2) (.cons (.var 4) (.cons (.var 7) (.cons (.idx (.e (.idx (.s 2) (.var 4))) (.int 2)) (.cons (.int 2) .nil))))))))) .nil) .nil)
        ⟨[.val (.hdl 1), .val T.d, .val (.lst (hs.map hdT)), x3, .val (.int (0 + (i : Int))), .own (.lst (cls.map clD)), .val (rowD r), .val (knD l b), .val (oD o)], st'⟩ (seqQ (runF tbl n) (.cons (.ifS (.cmp .IsNot (.s 8) (.e .non)) (.cons (.app 5 (.tup (.cons (.var 6) (.cons (.var 8) .nil)))) .nil) .nil) .nil) (forQ (fun S => FTurns (runF tbl n) (.v 6) l__law_program_1 (rows.map rowD) S Q) Q)) := by
      intro o st' ho' hob
      simp! [isn, dero]
      cases o with
      | some t =>
        have f := fin (some t) st' (.val (knD l b)) ho' hob
        simp! [isn, dero, Option.isNone_some] at f
        simp! [Option.isNone_some, isn, dero]
        exact f
      | none =>
        simp! [Option.isNone_none, e1, hdT]
        have hB := body_ok C G hH (k := 0 + (i : Int)) hkl hkb 2 n (by omega)
        refine WCall_mono _ (hB hs[i].fam st' ho') fun d st2 hd => ?_
        obtain ⟨ho2, o, rfl, hob⟩ := hd
        have f := fin o st2 (.val (knD l b)) ho2 (fun t e => (hob t e).mono (by omega))
        simp! [isn, dero] at f
        simp! [isn, dero]
        exact f
    have b0 := fun st ho => bod none st ho (fun _ h => nomatch h)
    simp! [oD, Option.isNone_none] at b0
    simp! [e1, hdT, e0, prD]
    refine WIf_mk (fun h => ?_) fun h => ?_
    · simp! []
      refine WCall_mono _ (draw_ok C (by omega) 3 (by decide) (by decide) ho) fun d st2 hd => ?_
      obtain ⟨ho2, v, rfl, hv1, hv2⟩ := hd
      simp! []
      refine WIf_mk (fun h => ?_) fun h => ?_
      · simp! []
        refine WCall_mono _ (copy_ok C (by omega) G hH hi r hr0 l b hkb ho2) fun d st3 hd => ?_
        obtain ⟨ho3, o, rfl, hob⟩ := hd
        have f := bod o st3 ho3 (fun t e => (hob t e).mono (by omega))
        simp! [isn, dero] at f
        simp! [isn, dero]
        exact f
      · simp! []
        exact b0 st2 ho2
    · simp! []
      exact b0 st1 ho
theorem prog_out {n : Nat} (C : TblC tbl) (hn : 12 ≤ n) {T : Tab} (G : TabG T) {hs : List Fun} (hH : HsOk hs) (Q : Fl → ES → Prop) : ∀ (m i : Nat) (fs : List Fun) (st : Sto) (x4 x5 x6 x7 x8 : Sl), i + m = hs.length → OkS st → fs.map keyF = (hs.take i).map keyF → (∀ f ∈ fs, PreFun T hs f) →
    (∀ (fs' : List Fun) (st' : Sto) (x4 x5 x6 x7 x8 : Sl), OkS st' → fs'.map keyF = hs.map keyF → (∀ f ∈ fs', PreFun T hs f) → Q .nx ⟨[.val (.hdl 1), .val T.d, .val (.lst (hs.map hdT)), .own (.lst (fs'.map Fun.d)), x4, x5, x6, x7, x8], st'⟩) →
    FTurns (runF tbl n) (.v 4) l__law_program_2 ((List.range' i m).map fun i : Nat => D.int (0 + i)) ⟨[.val (.hdl 1), .val T.d, .val (.lst (hs.map hdT)), .own (.lst (fs.map Fun.d)), x4, x5, x6, x7, x8], st⟩ Q
  | 0, i, fs, st, x4, x5, x6, x7, x8, hi, ho, hk, hf, q => by
    have : hs.take i = hs := List.take_of_length_le (by omega)
    rw [this] at hk
    exact q fs st x4 x5 x6 x7 x8 ho hk hf
  | m + 1, i, fs, st, x4, x5, x6, x7, x8, hi, ho, hk, hf, q => by
    have hil : i < hs.length := by omega
    have hle := hH.le
    have hHi := hH.ok hs[i] (List.getElem_mem hil)
    have hfl : fs.length = i := by
      have := congrArg List.length hk
      simp at this; omega
    have e1 : atI (hs.map hdT) (0 + (i : Int)) = some (hdT hs[i]) := by rw [Int.zero_add]; exact hdT_range hil
    rw [List.range'_succ]
    simp only [List.map_cons, FTurns]
    simp! [l__law_program_2]
    refine WS_for _ _ _ _ _ _ ?_
    simp! [e1]
    refine WCall_mono _ (pats_ok C (by omega) G.ok G.uq G.le hHi ho) fun d st1 hd => ?_
    obtain ⟨ho1, rows, rfl, hr, hrl⟩ := hd
    simp! []
    refine prog_in C hn G hH _ hil _ rows [] st1 _ _ _ ho1 hr.ok (by simpa using hrl) (fun _ h => nomatch h) fun cls' st2 x6 x7 x8 ho2 h1 h2 => ?_
    have e2 : ∀ x : D, (hdT hs[i]) = .tup [.str hs[i].w, .tup (hs[i].ps.map prD), .str hs[i].fam, hs[i].ix.d, .int hs[i].at'] := fun _ => rfl
    simp! [e1, hdT]
    rw [if_pos (by unfold sizeLine; omega)]
    simp! [List.length_map]
    refine ⟨by unfold sizeLine; omega, ?_⟩
    simp! []
    have e : fs.map Fun.d ++ [D.tup [.str hs[i].w, .tup (hs[i].ps.map prD), .str hs[i].fam, hs[i].ix.d, .int hs[i].at', .tup (cls'.map clD)]] = (fs ++ [({ hs[i] with cls := cls' } : Fun)]).map Fun.d := by
      simp only [List.map_append, List.map_cons, List.map_nil]; rfl
    rw [e]
    refine prog_out C hn G hH Q m (i + 1) _ st2 _ _ _ _ _ (by omega) ho2 ?_ (fun f hf2 => ?_) q
    · rw [List.map_append, hk, List.take_succ, List.map_append, List.getElem?_eq_getElem hil]; rfl
    · rcases List.mem_append.mp hf2 with hf2 | hf2
      · exact hf f hf2
      · simp only [List.mem_singleton] at hf2
        subst hf2
        exact ⟨⟨hHi.ok.ps, hHi.ok.wix, hHi.ok.dix, hHi.ok.has⟩, hHi.pos, h1, h2⟩
theorem fW_h0 : ∀ i < 4, ¬ fW i = Str.ofString "h0" := by decide +kernel
structure ProgG (T : Tab) (fs : List Fun) : Prop where
  len : fs.length ≤ 3
  pos : 0 < fs.length
  full : ∀ f ∈ fs, FullFun T fs f
  np : ∀ f ∈ fs, 0 < f.ps.length
  nh : ∀ f ∈ fs, ¬ f.w = Str.ofString "h0"
theorem program_ok {n : Nat} (C : TblC tbl) (hn : 13 ≤ n) {T : Tab} (G : TabG T) (hf : 0 < T.fams.length) (hf4 : T.fams.length ≤ 4) {st : Sto} (ho : OkS st) : WCall (runF tbl n) "_law_program" [.hdl 1, T.d] st fun d st' => OkS st' ∧ ∃ fs : List Fun, d = progD fs ∧ ProgG T fs := by
  obtain ⟨n, rfl⟩ : ∃ k, n = k + 1 := ⟨n - 1, by omega⟩
  refine WCall_run C.prog rfl ?_
  simp only [m__law_program]
  simp! []
  refine WCall_mono _ (heads_ok C (by omega) hf hf4 ho) fun d st1 hd => ?_
  obtain ⟨ho1, hs, rfl, hH, hpos⟩ := hd
  have hle := hH.le
  simp! []
  refine WCall_mono _ (draw_ok C (by omega) 3 (by decide) (by decide) ho1) fun d st2 hd => ?_
  obtain ⟨⟨cells, seed, fl, rfl, hst⟩, v, rfl, hv1, hv2⟩ := hd
  simp! [hsetS, hnd, mkS, show ixN 3 2 = some 2 from rfl]
  have ho3 : OkS [.lst (cells.map D.int), .lst [.hdl 0, .int seed, .bl (decide (v = 0))]] := ⟨cells, seed, _, rfl, hst⟩
  refine WS_for _ _ _ _ _ _ ?_
  simp! [List.length_map]
  rw [if_pos (rng_bound (by unfold sizeLine; omega))]
  simp! [rngD_eq, Int.toNat_natCast, List.range_eq_range']
  refine prog_out C (by omega) G hH _ hs.length 0 [] _ _ _ _ _ _ (by omega) ho3 (by simp) (fun _ h => nomatch h) fun fs' st' x4 x5 x6 x7 x8 h1 h2 h3 => ?_
  simp! []
  have hfl : fs'.length = hs.length := by simpa using congrArg List.length h2
  refine ⟨h1, fs', rfl, by omega, by omega, fun f hf => (h3 f hf).full h2, fun f hf => (h3 f hf).pos, fun f hf e => ?_⟩
  have hw : fs'.map (·.w) = hs.map (·.w) := by
    have := congrArg (List.map (fun p : Str × List (Str × Tm) × Tm => p.1)) h2
    simpa [List.map_map, Function.comp_def, keyF] using this
  have hm : f.w ∈ fs'.map (·.w) := List.mem_map.mpr ⟨f, hf, rfl⟩
  rw [hw, hH.ws] at hm
  obtain ⟨i, hi, ei⟩ := List.mem_map.mp hm
  have hi := List.mem_range.mp hi
  exact fW_h0 i (by omega) (ei.trans e)
end
end Px
/-! A27: values that grow. -/
namespace Px
open PySem L2 Classical
def unhS (i : Nat) (S' : ES) : Option Sl → ES
  | some s => { S' with r := S'.r.set i s }
  | none => S'
theorem unhid_own (i : Nat) (S S' : ES) : unhid (.own i) S S' = unhS i S' S.r[i]? := by
  simp only [unhid]
  rcases S.r[i]? with _ | s <;> rfl
theorem unhS_some (i : Nat) (S' : ES) (s : Sl) : unhS i S' (some s) = { S' with r := S'.r.set i s } := rfl
theorem everyD_len (k : Nat) : ∀ (n : Nat) (l : List D), n ≤ k → (everyD k n l).length * (k + 1) + n ≤ l.length + k
  | n, [], h => by cases n <;> simp [everyD] <;> omega
  | 0, d :: ds, h => by
    have := everyD_len k k ds (Nat.le_refl _)
    simp only [everyD, List.length_cons, Nat.add_mul, Nat.one_mul]
    omega
  | n + 1, d :: ds, h => by
    have := everyD_len k n ds (by omega)
    simp only [everyD, List.length_cons]
    omega
theorem everyD_mem (k : Nat) : ∀ (n : Nat) (l : List D), ∀ d ∈ everyD k n l, d ∈ l
  | n, [], d, h => by cases n <;> simp [everyD] at h
  | 0, e :: ds, d, h => by
    simp only [everyD] at h
    rcases List.mem_cons.mp h with rfl | h
    · exact List.mem_cons_self
    · exact List.mem_cons_of_mem _ (everyD_mem k k ds d h)
  | n + 1, e :: ds, d, h => by
    simp only [everyD] at h
    exact List.mem_cons_of_mem _ (everyD_mem k n ds d h)
/-- longer[a::step] of a list that is not longer than it may be -/
theorem every_bound {L M : Nat} {l : List D} {a : Nat} (hl : l.length = L) (ha : a ≤ L / (M + 1)) : (everyD (L / (M + 1)) a l).length ≤ M + 1 := by
  have h := everyD_len (L / (M + 1)) a l ha
  rw [hl] at h
  apply Decidable.byContradiction
  intro hc
  have h2 : (M + 2) * (L / (M + 1) + 1) ≤ (everyD (L / (M + 1)) a l).length * (L / (M + 1) + 1) := Nat.mul_le_mul_right _ (by omega)
  have h3 : L < (M + 1) * (L / (M + 1)) + (M + 1) := by
    have := Nat.lt_mul_div_succ L (show 0 < M + 1 by omega)
    rw [Nat.mul_add, Nat.mul_one] at this
    exact this
  have h4 : (M + 2) * (L / (M + 1) + 1) = (M + 1) * (L / (M + 1)) + (M + 1) + (L / (M + 1) + 1) := by
    rw [show M + 2 = (M + 1) + 1 from rfl, Nat.add_mul, Nat.mul_add, Nat.mul_one, Nat.one_mul]
  omega
theorem slSD_nat {l : List D} {a k : Nat} (hk : 0 < k) (hk2 : k < 2 ^ 62) (ha : a < 2 ^ 62) : slSD (.int (a : Int)) (.int (k : Int)) (some (.lst l)) = some (everyD (k - 1) a l) := by
  simp only [slSD]
  rw [if_pos (by omega)]
  simp
structure K3 where
  v : Tm
  fam : Str
  ix : Tm
def k3D (q : K3) : D := .tup [q.v.d, .str q.fam, q.ix.d]
structure VG (T : Tab) (m : Nat) (v : Tm) : Prop where
  w : v.W T.okC
  tree : v.Tree
  dep : v.dep ≤ m
structure KvOk (T : Tab) (m : Nat) (q : K3) : Prop where
  vg : VG T m q.v
  ix : idx T q.v = some (q.fam, q.ix)
theorem VG.mono {T : Tab} {m k : Nat} {v : Tm} (h : VG T m v) (hk : m ≤ k) : VG T k v := ⟨h.w, h.tree, by have := h.dep; omega⟩
section
variable {tbl : Str → Option DefM}
theorem g2_ok {c : CallF} {T : Tab} (K : List K3) (hK : K.length ≤ 700) (x2 x3 x4 x5 x8 x10 x11 x12 : Sl) (fam : Str) (st : Sto) (Q : Fl → ES → Prop) (rows0 : List (List Tm)) (hr3 : ∀ r ∈ rows0, r.length ≤ 3) : ∀ (rows longer : List (List Tm)) (x6 : Sl), (∀ r ∈ rows, r ∈ rows0) → longer.length + rows.length * K.length ≤ 1000000 → (∀ r ∈ longer, ∃ p ∈ rows0, ∃ q ∈ K, r = p ++ [q.v]) →
    (∀ (longer' : List (List Tm)) (x6 : Sl), (∀ r ∈ longer', ∃ p ∈ rows0, ∃ q ∈ K, r = p ++ [q.v]) → longer'.length ≤ longer.length + rows.length * K.length → Q .nx ⟨[.val T.d, .val (.lst (K.map k3D)), x2, x3, x4, x5, x6, .val (.str fam), x8, .own (.lst (longer'.map rowD)), x10, x11, x12, .no], st⟩) →
    FTurns c (.v 6) l__law_grown_2 (rows.map rowD) ⟨[.val T.d, .val (.lst (K.map k3D)), x2, x3, x4, x5, x6, .val (.str fam), x8, .own (.lst (longer.map rowD)), x10, x11, x12, .no], st⟩ Q
  | [], longer, x6, _, _, hl, q => q longer x6 hl (by omega)
  | r :: rows, longer, x6, hr, hb, hl, q => by
    simp only [List.map_cons, FTurns]
    simp only [List.length_cons, Nat.add_mul, Nat.one_mul] at hb
    have hr0 := hr r List.mem_cons_self
    have h3 := hr3 r hr0
    simp! [l__law_grown_2]
    refine WL_comp _ _ _ _ _ _ _ _ ?_
    simp! []
    refine ⟨by rw [List.length_map]; unfold sizeLine; omega, ?_⟩
    simp! []
    refine LTurns_filter (p := fun q : K3 => decide (q.fam = fam)) (g := fun q : K3 => rowD (r ++ [q.v])) _ (fun q hq KK kk => ?_) ?_
    · unfold LTurn
      simp! [k3D]
      refine WIf_dec (fun h => ?_) fun h => ?_
      · rw [decide_eq_true h, if_pos rfl] at kk
        simp! [rowD, List.length_map]
        rw [if_pos (by unfold sizeLine; omega)]
        simp! []
        have e : D.tup (r.map Tm.d ++ [q.v.d]) = rowD (r ++ [q.v]) := by simp [rowD]
        rw [e]
        exact kk
      · simp! []
        rw [decide_eq_false h, if_neg nofun] at kk
        exact kk
    have hfl := List.length_filter_le (fun q : K3 => decide (q.fam = fam)) K
    have hfm : ∀ q ∈ K.filter (fun q : K3 => decide (q.fam = fam)), q ∈ K := fun q h => (List.mem_filter.mp h).1
    generalize K.filter (fun q : K3 => decide (q.fam = fam)) = F at hfl hfm
    simp! [List.length_map]
    rw [if_pos (by unfold sizeLine; omega)]
    simp! []
    have e : longer.map rowD ++ F.map (fun q : K3 => rowD (r ++ [q.v])) = (longer ++ F.map (fun q : K3 => r ++ [q.v])).map rowD := by simp [List.map_append, List.map_map, Function.comp_def]
    rw [e]
    refine g2_ok K hK x2 x3 x4 x5 x8 x10 x11 x12 fam st Q rows0 hr3 rows _ _ (fun r h => hr r (List.mem_cons_of_mem _ h)) (by simp; omega) (fun u hu => ?_) fun longer' x6 h1 h2 => q longer' x6 h1 ?_
    · rcases List.mem_append.mp hu with hu | hu
      · exact hl u hu
      · obtain ⟨q1, hq1, rfl⟩ := List.mem_map.mp hu
        exact ⟨r, hr0, q1, hfm q1 hq1, rfl⟩
    · simp only [List.length_append, List.length_map, List.length_cons, Nat.add_mul, Nat.one_mul] at h2 ⊢
      omega
theorem rows_of {ds : List D} {rows : List (List Tm)} (h : ∀ d ∈ ds, d ∈ rows.map rowD) : ∃ rs : List (List Tm), ds = rs.map rowD ∧ ∀ r ∈ rs, r ∈ rows := by
  induction ds with
  | nil => exact ⟨[], rfl, fun _ h => nomatch h⟩
  | cons d ds ih =>
    obtain ⟨rs, e, hrs⟩ := ih fun d hd => h d (List.mem_cons_of_mem _ hd)
    obtain ⟨r, hr, rfl⟩ := List.mem_map.mp (h d List.mem_cons_self)
    exact ⟨r :: rs, by rw [e]; rfl, fun x hx => by rcases List.mem_cons.mp hx with rfl | hx; exact hr; exact hrs x hx⟩
theorem g3_ok {c : CallF} {T : Tab} {m : Nat} (K : List K3) (hK : K.length ≤ 700) (hKv : ∀ q ∈ K, KvOk T m q) (more : List K3) (hm : more.length ≤ 2000) (x4 x11 x12 : Sl) (st : Sto) (Q : Fl → ES → Prop) : ∀ (ps : List (Str × Tm)) (rows : List (List Tm)) (j : Nat) (x6 x7 x8 x9 x10 : Sl) (rd : Bool), rows.length ≤ 13 → j + ps.length ≤ 3 → (∀ r ∈ rows, r.length = j ∧ ∀ v ∈ r, VG T m v) →
    (∀ (rows' : List (List Tm)) (x6 x7 x8 x9 x10 : Sl) (rd : Bool), rows'.length ≤ 13 → (∀ r ∈ rows', r.length = j + ps.length ∧ ∀ v ∈ r, VG T m v) → Q .nx ⟨[.val T.d, .val (.lst (K.map k3D)), .val (.int 12), .own (.lst (more.map k3D)), x4, if rd then .val (.lst (rows'.map rowD)) else .own (.lst (rows'.map rowD)), x6, x7, x8, x9, x10, x11, x12, .no], st⟩) →
    FTurns c (.tup (.cons (.v 7) (.cons (.v 8) .nil))) l__law_grown_3 (ps.map prD) ⟨[.val T.d, .val (.lst (K.map k3D)), .val (.int 12), .own (.lst (more.map k3D)), x4, if rd then .val (.lst (rows.map rowD)) else .own (.lst (rows.map rowD)), x6, x7, x8, x9, x10, x11, x12, .no], st⟩ Q
  | [], rows, j, x6, x7, x8, x9, x10, rd, hr, hj, hrv, q => q rows x6 x7 x8 x9 x10 rd hr (by simpa using hrv)
  | p :: ps, rows, j, x6, x7, x8, x9, x10, rd, hr, hj, hrv, q => by
    simp only [List.map_cons, FTurns]
    simp only [List.length_cons] at hj
    have hcont : WS c (.forS (.v 6) (.p (.e (.var 5))) l__law_grown_2) ⟨[.val T.d, .val (.lst (K.map k3D)), .val (.int 12), .own (.lst (more.map k3D)), x4, if rd then .val (.lst (rows.map rowD)) else .own (.lst (rows.map rowD)), x6, .val (.str p.1), .val p.2.d, .own (.lst []), x10, x11, x12, .no], st⟩ (seqQ c (.cons (.asg (.v 10) (.bin .add (.int 1) (.bin .fdiv (.len (.s 9)) (.bin .add (.var 2) (.int 1)))))
        (.cons (.asgL 5 (.slS (.s 9) (.bin .mod (.len (.s 3)) (.var 10)) (.var 10))) .nil)) (forQ (fun S => FTurns c (.tup (.cons (.v 7) (.cons (.v 8) .nil))) l__law_grown_3 (ps.map prD) S Q) Q)) := by
      refine WS_for _ _ _ _ _ _ ?_
      have main : FTurns c (.v 6) l__law_grown_2 (rows.map rowD) ⟨[.val T.d, .val (.lst (K.map k3D)), .val (.int 12), .own (.lst (more.map k3D)), x4, .val (.lst (rows.map rowD)), x6, .val (.str p.1), .val p.2.d, .own (.lst []), x10, x11, x12, .no], st⟩ (seqQ c (.cons (.asg (.v 10) (.bin .add (.int 1) (.bin .fdiv (.len (.s 9)) (.bin .add (.var 2) (.int 1)))))
        (.cons (.asgL 5 (.slS (.s 9) (.bin .mod (.len (.s 3)) (.var 10)) (.var 10))) .nil)) (forQ (fun S => FTurns c (.tup (.cons (.v 7) (.cons (.v 8) .nil))) l__law_grown_3 (ps.map prD) S Q) Q)) := by
        have hmul : rows.length * K.length ≤ 13 * 700 := Nat.mul_le_mul hr hK
        refine g2_ok (c := c) (T := T) K hK _ _ _ _ _ _ _ _ p.1 st _ rows (fun r h => by have := (hrv r h).1; omega) rows [] _ (fun r h => h) (by simp; omega) (fun _ h => nomatch h) fun longer x6 h1 h2 => ?_
        simp only [List.length_nil, Nat.zero_add] at h2
        have f1 : bop .fdiv (.int (longer.length : Int)) (.int (12 + 1)) = some (.int ((longer.length / 13 : Nat) : Int)) := by
          rw [bop_fdiv (by decide)]; rfl
        have e1 : (1 : Int) + ((longer.length / 13 : Nat) : Int) = ((longer.length / 13 + 1 : Nat) : Int) := by omega
        simp! [List.length_map, f1]
        rw [e1]
        simp! []
        refine WL_slS _ _ _ _ _ _ ?_
        have f2 : bop .mod (.int (more.length : Int)) (.int ((longer.length / 13 + 1 : Nat) : Int)) = some (.int ((more.length % (longer.length / 13 + 1) : Nat) : Int)) := by
          rw [bop_mod (by omega)]; rfl
        simp! [List.length_map, f2]
        have hlt := Nat.mod_lt more.length (show 0 < longer.length / 13 + 1 by omega)
        have hdv : longer.length / 13 ≤ longer.length := Nat.div_le_self _ _
        rw [slSD_nat (by omega) (by omega) (by omega)]
        simp! [Nat.add_sub_cancel]
        obtain ⟨rs, ers, hrs⟩ := rows_of (rows := longer) (fun d hd => everyD_mem _ _ _ d hd) (ds := everyD (longer.length / 13) (more.length % (longer.length / 13 + 1)) (longer.map rowD))
        have hb := every_bound (M := 12) (L := longer.length) (l := longer.map rowD) (a := more.length % (longer.length / 13 + 1)) (by simp) (by omega)
        rw [ers] at hb ⊢
        rw [List.length_map] at hb
        have := g3_ok (c := c) (T := T) K hK hKv more hm x4 x11 x12 st Q ps rs (j + 1) x6 (.val (.str p.1)) (.val p.2.d) (.own (.lst (longer.map rowD))) (.val (.int ((longer.length / 13 + 1 : Nat) : Int))) false hb (by omega) (fun r h => by
          obtain ⟨p1, hp1, q1, hq1, rfl⟩ := h1 r (hrs r h)
          obtain ⟨a1, a2⟩ := hrv p1 hp1
          refine ⟨by simp [a1], fun v hv => ?_⟩
          rcases List.mem_append.mp hv with hv | hv
          · exact a2 v hv
          · simp only [List.mem_singleton] at hv; subst hv; exact (hKv q1 hq1).vg) (fun rows' x6 x7 x8 x9 x10 rd a b => q rows' x6 x7 x8 x9 x10 rd a (fun r h => ⟨by have := (b r h).1; simp only [List.length_cons]; omega, (b r h).2⟩))
        exact this
      cases rd with
      | true =>
        simp! []
        exact main
      | false =>
        simp! [Bool.false_eq_true]
        exact main
    simp! [l__law_grown_3, prD]
    exact hcont
end
end Px
/-! A28: values that grow, the end. -/
namespace Px
open PySem L2 Classical
section
variable {tbl : Str → Option DefM}
theorem g1_ok {n m : Nat} (B : TblA tbl) {T : Tab} (G : TabG T) (hm5 : m ≤ 5) (hn : 10 ≤ n) {k : Con} (hk : k ∈ T.cs) (s1 s2 s5 s7 s8 s9 s10 : Sl) (st : Sto) (Q : Fl → ES → Prop) : ∀ (rows : List (List Tm)) (more : List K3) (x6 x11 x12 : Sl), (∀ r ∈ rows, r.length = k.ps.length ∧ ∀ v ∈ r, VG T m v) → more.length + rows.length ≤ 2000 → (∀ q ∈ more, KvOk T (m + 1) q) →
    (∀ (more' : List K3) (x6 x11 x12 : Sl), (∀ q ∈ more', KvOk T (m + 1) q) → more'.length ≤ more.length + rows.length → Q .nx ⟨[.val T.d, s1, s2, .own (.lst (more'.map k3D)), .val k.d, s5, x6, s7, s8, s9, s10, x11, x12, .no], st⟩) →
    FTurns (runF tbl n) (.v 6) l__law_grown_1 (rows.map rowD) ⟨[.val T.d, s1, s2, .own (.lst (more.map k3D)), .val k.d, s5, x6, s7, s8, s9, s10, x11, x12, .no], st⟩ Q
  | [], more, x6, x11, x12, _, _, hmv, q => q more x6 x11 x12 hmv (by omega)
  | r :: rows, more, x6, x11, x12, hr, hb, hmv, q => by
    simp only [List.map_cons, FTurns]
    simp only [List.length_cons] at hb
    obtain ⟨hrl, hrv⟩ := hr r List.mem_cons_self
    have l3 := (G.ok.2 k hk).len
    have next : ∀ (o : List K3) (x11 x12 : Sl), o.length ≤ 1 → (∀ q ∈ o, KvOk T (m + 1) q) → FTurns (runF tbl n) (.v 6) l__law_grown_1 (rows.map rowD) ⟨[.val T.d, s1, s2, .own (.lst (more.map k3D ++ o.map k3D)), .val k.d, s5, .val (rowD r), s7, s8, s9, s10, x11, x12, .no], st⟩ Q := by
      intro o x11 x12 ho hov
      rw [← List.map_append]
      exact g1_ok B G hm5 hn hk s1 s2 s5 s7 s8 s9 s10 st Q rows (more ++ o) _ _ _ (fun r h => hr r (List.mem_cons_of_mem _ h)) (by simp; omega) (fun q hq => by
        rcases List.mem_append.mp hq with hq | hq
        · exact hmv q hq
        · exact hov q hq) fun more' x6 x11 x12 a b => q more' x6 x11 x12 a (by simp at b ⊢; omega)
    have hval : VG T (m + 1) (.ap k.w r) := ⟨.ap ⟨k, T.find_uq G.uq hk rfl, by omega⟩ fun t h => (hrv t h).w, fun x hx => by cases hx with | ap a b => exact (hrv _ a).tree x b, Tm.dep_ap.mpr fun t h => (hrv t h).dep⟩
    have hvd := hval.dep
    simp! [l__law_grown_1, Con.d, rowD, List.length_map]
    rw [if_pos (by unfold sizeLine; omega)]
    simp! []
    have hix := lindex_ok B G.ok (.ap k.w r) n st (by omega) (by omega) hval.w hval.tree
    simp! [] at hix
    refine WCall_of _ hix ?_
    have no0 := next [] 
    simp only [List.map_nil, List.append_nil] at no0
    simp! [Con.d, rowD] at no0
    cases hi : idx T (.ap k.w r) with
    | none =>
      simp! [pO_none]
      exact no0 _ _ (by simp) (fun _ h => nomatch h)
    | some p =>
      simp! [pO_some]
      refine WL_comp _ _ _ _ _ _ _ _ ?_
      simp! []
      refine ⟨by rw [List.length_map]; unfold sizeLine; omega, ?_⟩
      simp! []
      refine LTurns_filter (p := fun q : K3 => decide (q.v = .ap k.w r)) (g := k3D) _ (fun q hq KK kk => ?_) ?_
      · unfold LTurn
        have e1 := eqD_tm (t := q.v) (u := .ap k.w r) (.inr (by omega))
        simp! [] at e1
        simp! [k3D, e1]
        refine WIf_dec (fun h => ?_) fun h => ?_
        · rw [decide_eq_true h, if_pos rfl] at kk
          simp! []
          exact kk
        · simp! []
          rw [decide_eq_false h, if_neg nofun] at kk
          exact kk
      simp! [unhid_own, unhS_some, List.length_map]
      refine WIf_mk (fun h => ?_) fun h => ?_
      · simp! [List.length_map, unhid_own, unhS_some]
        refine ⟨by unfold sizeLine; omega, ?_⟩
        simp! []
        have := next [⟨.ap k.w r, p.1, p.2⟩] (.val (Tm.ap k.w r).d) (.val (prD p)) (by simp) (fun q hq => by
          simp only [List.mem_singleton] at hq
          subst hq
          exact ⟨hval, hi⟩)
        simp! [k3D, prD, Con.d, rowD] at this
        exact this
      · simp! [unhid_own, unhS_some]
        exact no0 _ _ (by simp) (fun _ h => nomatch h)
theorem g4_ok {n m : Nat} (B : TblA tbl) {T : Tab} (G : TabG T) (hm5 : m ≤ 5) (hn : 10 ≤ n) (K : List K3) (hK : K.length ≤ 700) (hKv : ∀ q ∈ K, KvOk T m q) (st : Sto) (Q : Fl → ES → Prop) : ∀ (cs : List Con) (more : List K3) (x4 x5 x6 x7 x8 x9 x10 x11 x12 : Sl), (∀ k ∈ cs, k ∈ T.cs) → more.length + 13 * cs.length ≤ 1900 → (∀ q ∈ more, KvOk T (m + 1) q) →
    (∀ (more' : List K3) (x4 x5 x6 x7 x8 x9 x10 x11 x12 : Sl), (∀ q ∈ more', KvOk T (m + 1) q) → more'.length ≤ more.length + 13 * cs.length → Q .nx ⟨[.val T.d, .val (.lst (K.map k3D)), .val (.int 12), .own (.lst (more'.map k3D)), x4, x5, x6, x7, x8, x9, x10, x11, x12, .no], st⟩) →
    FTurns (runF tbl n) (.v 4) l__law_grown_4 (cs.map Con.d) ⟨[.val T.d, .val (.lst (K.map k3D)), .val (.int 12), .own (.lst (more.map k3D)), x4, x5, x6, x7, x8, x9, x10, x11, x12, .no], st⟩ Q
  | [], more, x4, x5, x6, x7, x8, x9, x10, x11, x12, _, _, hmv, q => q more x4 x5 x6 x7 x8 x9 x10 x11 x12 hmv (by simp)
  | k :: cs, more, x4, x5, x6, x7, x8, x9, x10, x11, x12, hc, hb, hmv, q => by
    simp only [List.map_cons, FTurns]
    simp only [List.length_cons] at hb
    have hk := hc k List.mem_cons_self
    have l3 := (G.ok.2 k hk).len
    simp! [l__law_grown_4]
    refine WS_for _ _ _ _ _ _ ?_
    simp! [Con.d]
    have h3 := g3_ok (c := runF tbl n) (T := T) (m := m) K hK hKv more (by omega) (.val k.d) x11 x12 st
    simp! [Con.d] at h3
    refine h3 _ k.ps [[]] 0 x6 x7 x8 x9 x10 false (by simp) (by omega) (fun r h => by simp only [List.mem_singleton] at h; subst h; exact ⟨rfl, fun _ h => nomatch h⟩) fun rows' x6 x7 x8 x9 x10 rd a1 a2 => ?_
    rw [Nat.zero_add] at a2
    have main := g1_ok (n := n) (m := m) B G hm5 hn hk (.val (.lst (K.map k3D))) (.val (.int 12)) (.val (.lst (rows'.map rowD))) x7 x8 x9 x10 st (seqQ (runF tbl n) .nil (forQ (fun S => FTurns (runF tbl n) (.v 4) l__law_grown_4 (cs.map Con.d) S Q) Q)) rows' more x6 x11 x12 a2 (by omega) hmv fun more' x6 x11 x12 b1 b2 => by
      simp! []
      exact g4_ok B G hm5 hn K hK hKv st Q cs more' _ _ _ _ _ _ _ _ _ (fun k h => hc k (List.mem_cons_of_mem _ h)) (by omega) b1 fun more2 x4 x5 x6 x7 x8 x9 x10 x11 x12 d1 d2 => q more2 x4 x5 x6 x7 x8 x9 x10 x11 x12 d1 (by simp only [List.length_cons]; omega)
    simp! [Con.d] at main
    cases rd with
    | true =>
      simp! []
      refine WS_for _ _ _ _ _ _ ?_
      simp! []
      exact main
    | false =>
      simp! [Bool.false_eq_true]
      refine WS_for _ _ _ _ _ _ ?_
      simp! []
      exact main
theorem grown_ok {n m : Nat} (B : TblA tbl) (C : TblC tbl) {T : Tab} (G : TabG T) (hm5 : m ≤ 5) (hn : 11 ≤ n) (K : List K3) (hK : K.length ≤ 700) (hKv : ∀ q ∈ K, KvOk T m q) (st : Sto) :
    WCall (runF tbl n) "_law_grown" [T.d, .lst (K.map k3D), .int 12] st fun d st' => st' = st ∧ ∃ K' : List K3, d = .lst (K'.map k3D) ∧ (∀ q ∈ K', KvOk T (m + 1) q) ∧ K'.length ≤ K.length + 160 := by
  obtain ⟨n, rfl⟩ : ∃ k, n = k + 1 := ⟨n - 1, by omega⟩
  have hle := G.le
  refine WCall_run C.grown rfl ?_
  simp only [m__law_grown]
  simp! []
  refine WS_for _ _ _ _ _ _ ?_
  simp! [Tab.d]
  have := g4_ok (n := n) B G hm5 (by omega) K hK hKv st
  simp! [Tab.d] at this
  refine this _ T.cs K _ _ _ _ _ _ _ _ _ (fun k h => h) (by omega) (fun q hq => ⟨(hKv q hq).vg.mono (by omega), (hKv q hq).ix⟩) fun more' x4 x5 x6 x7 x8 x9 x10 x11 x12 a b => ?_
  simp! []
  exact ⟨more', rfl, a, by omega⟩
theorem values_loop {n : Nat} (B : TblA tbl) (C : TblC tbl) {T : Tab} (G : TabG T) (hn : 11 ≤ n) (st : Sto) (Q : Fl → ES → Prop) : ∀ (m i : Nat) (K : List K3) (x4 : Sl) (rd : Bool), i + m = 4 → K.length ≤ 160 * i → (∀ q ∈ K, KvOk T i q) →
    (∀ (K' : List K3) (x4 : Sl), K'.length ≤ 640 → (∀ q ∈ K', KvOk T 4 q) → Q .nx ⟨[.val T.d, .val (.int 4), .val (.int 12), .val (.lst (K'.map k3D)), x4], st⟩) → (rd = false → 0 < m) →
    FTurns (runF tbl n) (.v 4) l__law_values_1 ((List.range' i m).map fun i : Nat => D.int (0 + i)) ⟨[.val T.d, .val (.int 4), .val (.int 12), if rd then .val (.lst (K.map k3D)) else .own (.lst (K.map k3D)), x4], st⟩ Q
  | 0, i, K, x4, rd, hi, hl, hK, q, hrd => by
    cases rd with
    | true => exact q K x4 (by omega) (by have : i = 4 := by omega
                                          subst this; exact hK)
    | false => exact absurd (hrd rfl) (Nat.lt_irrefl 0)
  | m + 1, i, K, x4, rd, hi, hl, hK, q, hrd => by
    rw [List.range'_succ]
    simp only [List.map_cons, FTurns]
    have main : ∀ S3 : Sl, WCall (runF tbl n) "_law_grown" [T.d, .lst (K.map k3D), .int 12] st fun d st' => FTurns (runF tbl n) (.v 4) l__law_values_1 ((List.range' (i + 1) m).map fun i : Nat => D.int (0 + i)) ⟨[.val T.d, .val (.int 4), .val (.int 12), .val d, .val (.int (0 + (i : Int)))], st'⟩ Q := by
      intro S3
      refine WCall_mono _ (grown_ok (m := i) B C G (by omega) hn K (by omega) hK st) fun d st' hd => ?_
      obtain ⟨rfl, K', rfl, h1, h2⟩ := hd
      have := values_loop B C G hn st' Q m (i + 1) K' (.val (.int (0 + (i : Int)))) true (by omega) (by omega) h1 q nofun
      exact this
    cases rd with
    | true =>
      simp! [l__law_values_1]
      refine WCall_mono _ (main .no) fun d st' hd => ?_
      simp! []
      exact hd
    | false =>
      simp! [l__law_values_1, Bool.false_eq_true]
      refine WCall_mono _ (main .no) fun d st' hd => ?_
      simp! []
      exact hd
theorem values_ok {n : Nat} (B : TblA tbl) (C : TblC tbl) {T : Tab} (G : TabG T) (hn : 12 ≤ n) (st : Sto) : WCall (runF tbl n) "_law_values" [T.d, .int 4, .int 12] st fun d st' => st' = st ∧ ∃ K : List K3, d = .lst (K.map k3D) ∧ K.length ≤ 640 ∧ ∀ q ∈ K, KvOk T 4 q := by
  obtain ⟨n, rfl⟩ : ∃ k, n = k + 1 := ⟨n - 1, by omega⟩
  refine WCall_run C.values rfl ?_
  simp only [m__law_values]
  simp! []
  refine WS_for _ _ _ _ _ _ ?_
  simp! []
  rw [if_pos (by decide)]
  simp! [rngD_eq, List.range_eq_range', show Int.toNat 4 = 4 from rfl]
  have := values_loop (n := n) B C G (by omega) st
  refine this _ 4 0 [] .no false (by omega) (by simp) (fun _ h => nomatch h) (fun K' x4 h1 h2 => ?_) (fun _ => by omega)
  simp! []
  exact ⟨K', rfl, h1, h2⟩
end
end Px
/-! A29: values that are asked for; the wrong and the right ones. -/
namespace Px
open PySem L2 Classical
def rowK (qs : List K3) : D := .tup (qs.map k3D)
section
variable {tbl : Str → Option DefM}
theorem a2_ok {c : CallF} (K : List K3) (hK : K.length ≤ 700) (x0 x2 x3 x4 x5 x7 x10 x11 x12 : Sl) (fam : Str) (st : Sto) (Q : Fl → ES → Prop) (rows0 : List (List K3)) (hr3 : ∀ r ∈ rows0, r.length ≤ 3) : ∀ (rows longer : List (List K3)) (x9 : Sl), (∀ r ∈ rows, r ∈ rows0) → longer.length + rows.length * K.length ≤ 1000000 → (∀ r ∈ longer, ∃ p ∈ rows0, ∃ q ∈ K, q.fam = fam ∧ r = p ++ [q]) →
    (∀ (longer' : List (List K3)) (x9 : Sl), (∀ r ∈ longer', ∃ p ∈ rows0, ∃ q ∈ K, q.fam = fam ∧ r = p ++ [q]) → longer'.length ≤ longer.length + rows.length * K.length → Q .nx ⟨[x0, .val (.lst (K.map k3D)), x2, x3, x4, x5, .val (.str fam), x7, .own (.lst (longer'.map rowK)), x9, x10, x11, x12, .no], st⟩) →
    FTurns c (.v 9) l__law_asked_2 (rows.map rowK) ⟨[x0, .val (.lst (K.map k3D)), x2, x3, x4, x5, .val (.str fam), x7, .own (.lst (longer.map rowK)), x9, x10, x11, x12, .no], st⟩ Q
  | [], longer, x9, _, _, hl, q => q longer x9 hl (by omega)
  | r :: rows, longer, x9, hr, hb, hl, q => by
    simp only [List.map_cons, FTurns]
    simp only [List.length_cons, Nat.add_mul, Nat.one_mul] at hb
    have hr0 := hr r List.mem_cons_self
    have h3 := hr3 r hr0
    simp! [l__law_asked_2]
    refine WL_comp _ _ _ _ _ _ _ _ ?_
    simp! []
    refine ⟨by rw [List.length_map]; unfold sizeLine; omega, ?_⟩
    simp! []
    refine LTurns_filter (p := fun q : K3 => decide (q.fam = fam)) (g := fun q : K3 => rowK (r ++ [q])) _ (fun q hq KK kk => ?_) ?_
    · unfold LTurn
      simp! [k3D]
      refine WIf_dec (fun h => ?_) fun h => ?_
      · rw [decide_eq_true h, if_pos rfl] at kk
        simp! [rowK, List.length_map]
        rw [if_pos (by unfold sizeLine; omega)]
        simp! []
        have e : D.tup (r.map k3D ++ [D.tup [q.v.d, .str q.fam, q.ix.d]]) = rowK (r ++ [q]) := by simp [rowK, k3D]
        rw [e]
        exact kk
      · simp! []
        rw [decide_eq_false h, if_neg nofun] at kk
        exact kk
    have hfl := List.length_filter_le (fun q : K3 => decide (q.fam = fam)) K
    have hfm : ∀ q ∈ K.filter (fun q : K3 => decide (q.fam = fam)), q ∈ K ∧ q.fam = fam := fun q h => ⟨(List.mem_filter.mp h).1, of_decide_eq_true (List.mem_filter.mp h).2⟩
    generalize K.filter (fun q : K3 => decide (q.fam = fam)) = F at hfl hfm
    simp! [List.length_map]
    rw [if_pos (by unfold sizeLine; omega)]
    simp! []
    have e : longer.map rowK ++ F.map (fun q : K3 => rowK (r ++ [q])) = (longer ++ F.map (fun q : K3 => r ++ [q])).map rowK := by simp [List.map_append, List.map_map, Function.comp_def]
    rw [e]
    refine a2_ok K hK x0 x2 x3 x4 x5 x7 x10 x11 x12 fam st Q rows0 hr3 rows _ _ (fun r h => hr r (List.mem_cons_of_mem _ h)) (by simp; omega) (fun u hu => ?_) fun longer' x9 h1 h2 => q longer' x9 h1 ?_
    · rcases List.mem_append.mp hu with hu | hu
      · exact hl u hu
      · obtain ⟨q1, hq1, rfl⟩ := List.mem_map.mp hu
        exact ⟨r, hr0, q1, (hfm q1 hq1).1, (hfm q1 hq1).2, rfl⟩
    · simp only [List.length_append, List.length_map, List.length_cons, Nat.add_mul, Nat.one_mul] at h2 ⊢
      omega
theorem rowsK_of {ds : List D} {rows : List (List K3)} (h : ∀ d ∈ ds, d ∈ rows.map rowK) : ∃ rs : List (List K3), ds = rs.map rowK ∧ ∀ r ∈ rs, r ∈ rows := by
  induction ds with
  | nil => exact ⟨[], rfl, fun _ h => nomatch h⟩
  | cons d ds ih =>
    obtain ⟨rs, e, hrs⟩ := ih fun d hd => h d (List.mem_cons_of_mem _ hd)
    obtain ⟨r, hr, rfl⟩ := List.mem_map.mp (h d List.mem_cons_self)
    exact ⟨r :: rs, by rw [e]; rfl, fun x hx => by rcases List.mem_cons.mp hx with rfl | hx; exact hr; exact hrs x hx⟩
theorem a3_ok {c : CallF} {T : Tab} {m : Nat} (K : List K3) (hK : K.length ≤ 700) (hKv : ∀ q ∈ K, KvOk T m q) (x0 x4 x5 x11 x12 : Sl) (st : Sto) (Q : Fl → ES → Prop) (all : List (Str × Tm)) (h3 : all.length ≤ 3) : ∀ (ps : List (Str × Tm)) (rows : List (List K3)) (done : List (Str × Tm)) (x6 x7 x8 x9 x10 : Sl) (rd : Bool), rows.length ≤ 801 → all = done ++ ps → (∀ r ∈ rows, r.map (·.fam) = done.map (·.1) ∧ ∀ q ∈ r, KvOk T m q) →
    (∀ (rows' : List (List K3)) (x6 x7 x8 x9 x10 : Sl) (rd : Bool), rows'.length ≤ 801 → (∀ r ∈ rows', r.map (·.fam) = all.map (·.1) ∧ ∀ q ∈ r, KvOk T m q) → Q .nx ⟨[x0, .val (.lst (K.map k3D)), .val (.int 20), if rd then .val (.lst (rows'.map rowK)) else .own (.lst (rows'.map rowK)), x4, x5, x6, x7, x8, x9, x10, x11, x12, .no], st⟩) →
    FTurns c (.tup (.cons (.v 6) (.cons (.v 7) .nil))) l__law_asked_3 (ps.map prD) ⟨[x0, .val (.lst (K.map k3D)), .val (.int 20), if rd then .val (.lst (rows.map rowK)) else .own (.lst (rows.map rowK)), x4, x5, x6, x7, x8, x9, x10, x11, x12, .no], st⟩ Q
  | [], rows, done, x6, x7, x8, x9, x10, rd, hr, hd, hrv, q => q rows x6 x7 x8 x9 x10 rd hr (by rw [hd, List.append_nil]; exact hrv)
  | p :: ps, rows, done, x6, x7, x8, x9, x10, rd, hr, hd, hrv, q => by
    simp only [List.map_cons, FTurns]
    have hdl : done.length ≤ 3 := by rw [hd] at h3; simp at h3; omega
    have hcont : WS c (.forS (.v 9) (.p (.e (.var 3))) l__law_asked_2) ⟨[x0, .val (.lst (K.map k3D)), .val (.int 20), if rd then .val (.lst (rows.map rowK)) else .own (.lst (rows.map rowK)), x4, x5, .val (.str p.1), .val p.2.d, .own (.lst []), x9, x10, x11, x12, .no], st⟩ (seqQ c (.cons (.asg (.v 10) (.bin .add (.int 1) (.bin .fdiv (.len (.s 8)) (.bin .add (.bin .mul (.int 40) (.var 2)) (.int 1)))))
        (.cons (.asgL 3 (.slS (.s 8) (.bin .fdiv (.var 10) (.int 2)) (.var 10))) .nil)) (forQ (fun S => FTurns c (.tup (.cons (.v 6) (.cons (.v 7) .nil))) l__law_asked_3 (ps.map prD) S Q) Q)) := by
      refine WS_for _ _ _ _ _ _ ?_
      have main : FTurns c (.v 9) l__law_asked_2 (rows.map rowK) ⟨[x0, .val (.lst (K.map k3D)), .val (.int 20), .val (.lst (rows.map rowK)), x4, x5, .val (.str p.1), .val p.2.d, .own (.lst []), x9, x10, x11, x12, .no], st⟩ (seqQ c (.cons (.asg (.v 10) (.bin .add (.int 1) (.bin .fdiv (.len (.s 8)) (.bin .add (.bin .mul (.int 40) (.var 2)) (.int 1)))))
        (.cons (.asgL 3 (.slS (.s 8) (.bin .fdiv (.var 10) (.int 2)) (.var 10))) .nil)) (forQ (fun S => FTurns c (.tup (.cons (.v 6) (.cons (.v 7) .nil))) l__law_asked_3 (ps.map prD) S Q) Q)) := by
        have hmul : rows.length * K.length ≤ 801 * 700 := Nat.mul_le_mul hr hK
        refine a2_ok (c := c) K hK _ _ _ _ _ _ _ _ _ p.1 st _ rows (fun r h => by have := congrArg List.length (hrv r h).1; simp at this; omega) rows [] _ (fun r h => h) (by simp; omega) (fun _ h => nomatch h) fun longer x9 h1 h2 => ?_
        simp only [List.length_nil, Nat.zero_add] at h2
        have f0 : bop .mul (.int 40) (.int 20) = some (.int (40 * 20)) := bop_mul (by decide)
        have f1 : bop .fdiv (.int (longer.length : Int)) (.int (40 * 20 + 1)) = some (.int ((longer.length / 801 : Nat) : Int)) := by
          rw [bop_fdiv (by decide)]; rfl
        have e1 : (1 : Int) + ((longer.length / 801 : Nat) : Int) = ((longer.length / 801 + 1 : Nat) : Int) := by omega
        simp! [List.length_map, f0, f1]
        rw [e1]
        simp! []
        refine WL_slS _ _ _ _ _ _ ?_
        have f2 : bop .fdiv (.int ((longer.length / 801 + 1 : Nat) : Int)) (.int 2) = some (.int (((longer.length / 801 + 1) / 2 : Nat) : Int)) := by
          rw [bop_fdiv (by decide)]; rfl
        simp! [List.length_map, f2]
        have hdv : longer.length / 801 ≤ longer.length := Nat.div_le_self _ _
        rw [slSD_nat (by omega) (by omega) (by omega)]
        simp! [Nat.add_sub_cancel]
        obtain ⟨rs, ers, hrs⟩ := rowsK_of (rows := longer) (fun d hd => everyD_mem _ _ _ d hd) (ds := everyD (longer.length / 801) ((longer.length / 801 + 1) / 2) (longer.map rowK))
        have hb := every_bound (M := 800) (L := longer.length) (l := longer.map rowK) (a := (longer.length / 801 + 1) / 2) (by simp) (by
          by_cases hz : longer.length / 801 = 0
          · rw [hz]; omega
          · omega)
        rw [ers] at hb ⊢
        rw [List.length_map] at hb
        have := a3_ok (c := c) (T := T) K hK hKv x0 x4 x5 x11 x12 st Q all h3 ps rs (done ++ [p]) (.val (.str p.1)) (.val p.2.d) (.own (.lst (longer.map rowK))) x9 (.val (.int ((longer.length / 801 + 1 : Nat) : Int))) false hb (by rw [hd]; simp) (fun r h => by
          obtain ⟨p1, hp1, q1, hq1, hqf, rfl⟩ := h1 r (hrs r h)
          obtain ⟨a1, a2⟩ := hrv p1 hp1
          refine ⟨by simp [a1, hqf], fun v hv => ?_⟩
          rcases List.mem_append.mp hv with hv | hv
          · exact a2 v hv
          · simp only [List.mem_singleton] at hv; subst hv; exact hKv _ hq1) q
        exact this
      cases rd with
      | true =>
        simp! []
        exact main
      | false =>
        simp! [Bool.false_eq_true]
        exact main
    simp! [l__law_asked_3, prD]
    exact hcont
/-- values with the assignment of the names -/
def askD (p : List Tm × Asg) : D := .tup [.tup (p.1.map Tm.d), p.2.d]
structure AskG (T : Tab) (f : Fun) (p : List Tm × Asg) : Prop where
  dem : dem T f.ps p.1 = some p.2
  len : p.1.length = f.ps.length
  vg : ∀ v ∈ p.1, VG T 4 v
theorem idxs_row {T : Tab} {m : Nat} : ∀ {qs : List K3}, (∀ q ∈ qs, KvOk T m q) → idxs T (qs.map (·.v)) = some (qs.map fun q => (q.fam, q.ix))
  | [], _ => rfl
  | q :: qs, h => by
    simp only [List.map_cons, idxs, (h q List.mem_cons_self).ix, idxs_row fun q hq => h q (List.mem_cons_of_mem _ hq)]
theorem a1_ok {n : Nat} (B : TblA tbl) (hn : 2 ≤ n) {T : Tab} (G : TabG T) (f : Fun) (hF : FunOk f) (x1 x3 x6 x7 x8 x9 x10 : Sl) (st : Sto) (Q : Fl → ES → Prop) : ∀ (rows : List (List K3)) (found : List (List Tm × Asg)) (x5 x11 : Sl), (∀ r ∈ rows, r.map (·.fam) = f.ps.map (·.1) ∧ ∀ q ∈ r, KvOk T 4 q) → found.length ≤ 20 → (∀ p ∈ found, AskG T f p) →
    (∀ (found' : List (List Tm × Asg)) (x5 x11 : Sl), found'.length ≤ 20 → (∀ p ∈ found', AskG T f p) → Q .nx ⟨[.val f.d, x1, .val (.int 20), x3, .own (.lst (found'.map askD)), x5, x6, x7, x8, x9, x10, x11, .no, .no], st⟩) →
    FTurns (runF tbl n) (.v 5) l__law_asked_1 (rows.map rowK) ⟨[.val f.d, x1, .val (.int 20), x3, .own (.lst (found.map askD)), x5, x6, x7, x8, x9, x10, x11, .no, .no], st⟩ Q
  | [], found, x5, x11, _, hl, hf, q => q found x5 x11 hl hf
  | r :: rows, found, x5, x11, hr, hl, hf, q => by
    simp only [List.map_cons, FTurns]
    obtain ⟨hrf, hrv⟩ := hr r List.mem_cons_self
    have l3 := hF.ps.len
    have hrl : r.length = f.ps.length := by simpa using congrArg List.length hrf
    simp! [l__law_asked_1, Fun.d]
    refine WL_comp _ _ _ _ _ _ _ _ ?_
    simp! []
    refine ⟨by rw [List.length_map]; unfold sizeLine; omega, ?_⟩
    simp! []
    refine LTurns_map (g := fun p : Str × Tm => p.2.d) _ (fun v hv K k => ?_) ?_
    · unfold LTurn
      simp! [prD]
      exact k
    simp! [rowK]
    refine WL_comp _ _ _ _ _ _ _ _ ?_
    simp! []
    refine ⟨by rw [List.length_map]; unfold sizeLine; omega, ?_⟩
    simp! []
    refine LTurns_map (g := fun q : K3 => q.ix.d) _ (fun v hv K k => ?_) ?_
    · unfold LTurn
      simp! [k3D]
      exact k
    have em : r.map (fun q : K3 => q.ix.d) = (r.map (·.ix)).map Tm.d := by simp
    simp! [tms_map, em]
    refine WCall_of _ (lfit_ok B.lfit okI_fn (by omega) _ _ st (by simp; omega) hF.ps.szs (fun p hp => ?_) fun t ht => ?_) ?_
    · obtain ⟨q, hq, rfl⟩ := List.mem_map.mp hp
      exact (hF.ps.wps q hq).1
    · obtain ⟨q, hq, rfl⟩ := List.mem_map.mp ht
      have a1 := hrv q hq
      have a2 := idx_ok G.ok a1.ix
      have a3 := a2.dep
      have a4 := a1.vg.dep
      exact ⟨by simp only at a3; omega, a2.w, a2.tree⟩
    have next := fun x11 => a1_ok B hn G f hF x1 x3 x6 x7 x8 x9 x10 st Q rows found (.val (rowK r)) x11 (fun r h => hr r (List.mem_cons_of_mem _ h)) hl hf q
    simp! [Fun.d, rowK] at next
    cases ef : fitL (f.ps.map (·.2)) (r.map (·.ix)) [] with
    | none =>
      simp! [asgO]
      exact next _
    | some a =>
      simp! [asgO, List.length_map]
      refine WIf_dec (fun h => ?_) fun h => ?_
      rotate_left
      · simp! []
        exact next _
      simp! []
      refine WL_comp _ _ _ _ _ _ _ _ ?_
      simp! []
      refine ⟨by rw [List.length_map]; unfold sizeLine; omega, ?_⟩
      simp! []
      refine LTurns_map (g := fun q : K3 => q.v.d) _ (fun v hv K k => ?_) ?_
      · unfold LTurn
        simp! [k3D]
        exact k
      simp! [List.length_map]
      refine ⟨by unfold sizeLine; omega, ?_⟩
      simp! []
      have hg : AskG T f (r.map (·.v), a) := by
        refine ⟨?_, by simp; omega, fun v hv => ?_⟩
        · simp only [dem, idxs_row hrv]
          have e1 : (r.map fun q : K3 => (q.fam, q.ix)).map (·.1) = f.ps.map (·.1) := by rw [← hrf]; simp
          have e2 : (r.map fun q : K3 => (q.fam, q.ix)).map (·.2) = r.map (·.ix) := by simp
          rw [if_pos e1, e2, ef]
        · obtain ⟨q, hq, rfl⟩ := List.mem_map.mp hv
          exact (hrv q hq).vg
      have := a1_ok B hn G f hF x1 x3 x6 x7 x8 x9 x10 st Q rows (found ++ [(r.map (·.v), a)]) (.val (rowK r)) (.val a.d) (fun r h => hr r (List.mem_cons_of_mem _ h)) (by simp; omega) (fun p hp => by
        rcases List.mem_append.mp hp with hp | hp
        · exact hf p hp
        · simp only [List.mem_singleton] at hp; subst hp; exact hg) q
      have e : (found ++ [(r.map (·.v), a)]).map askD = found.map askD ++ [D.tup [D.tup (r.map fun q : K3 => q.v.d), a.d]] := by simp [askD]
      rw [e] at this
      simp! [Fun.d, rowK] at this
      exact this
theorem asked_ok {n : Nat} (B : TblA tbl) (C : TblC tbl) (hn : 3 ≤ n) {T : Tab} (G : TabG T) (f : Fun) (hF : FunOk f) (K : List K3) (hK : K.length ≤ 640) (hKv : ∀ q ∈ K, KvOk T 4 q) (st : Sto) : WCall (runF tbl n) "_law_asked" [f.d, .lst (K.map k3D), .int 20] st fun d st' => st' = st ∧ ∃ l : List (List Tm × Asg), d = .lst (l.map askD) ∧ l.length ≤ 20 ∧ ∀ p ∈ l, AskG T f p := by
  obtain ⟨n, rfl⟩ : ∃ k, n = k + 1 := ⟨n - 1, by omega⟩
  refine WCall_run C.asked rfl ?_
  simp only [m__law_asked]
  simp! []
  refine WS_for _ _ _ _ _ _ ?_
  simp! [Fun.d]
  have h3 := a3_ok (c := runF tbl n) (T := T) (m := 4) K (by omega) hKv (.val f.d)
  simp! [Fun.d] at h3
  refine h3 _ _ _ _ st _ f.ps hF.ps.len f.ps [[]] [] _ _ _ _ _ false (by simp) rfl (fun r h => by simp only [List.mem_singleton] at h; subst h; exact ⟨rfl, fun _ h => nomatch h⟩) fun rows' x6 x7 x8 x9 x10 rd a1 a2 => ?_
  have main := a1_ok (n := n) B (by omega) G f hF (.val (.lst (K.map k3D))) (.val (.lst (rows'.map rowK))) x6 x7 x8 x9 x10 st (seqQ (runF tbl n) (.cons (.ret (.var 4)) .nil) (endQ fun d st' => st' = st ∧ ∃ l : List (List Tm × Asg), d = .lst (l.map askD) ∧ l.length ≤ 20 ∧ ∀ p ∈ l, AskG T f p)) rows' [] .no .no a2 (by simp) (fun _ h => nomatch h) fun found' x5 x11 b1 b2 => by
    simp! []
    exact ⟨found', rfl, b1, b2⟩
  simp! [Fun.d] at main
  cases rd with
  | true =>
    simp! []
    refine WS_for _ _ _ _ _ _ ?_
    simp! []
    exact main
  | false =>
    simp! [Bool.false_eq_true]
    refine WS_for _ _ _ _ _ _ ?_
    simp! []
    exact main
end
end Px
/-! A30: the wrong and the right ones; raw values. -/
namespace Px
open PySem L2 Classical
def wD (p : Str × List Tm) : D := .tup [.str p.1, .tup (p.2.map Tm.d)]
structure WG (T : Tab) (p : Str × List Tm) : Prop where
  len : p.2.length ≤ 3
  vg : ∀ v ∈ p.2, VG T 4 v
section
variable {tbl : Str → Option DefM}
theorem wr1_ok {n : Nat} (B : TblA tbl) (hn : 60 ≤ n) {T : Tab} (G : TabG T) {fs : List Fun} (hP : ProgG T fs) {f : Fun} (hf : f ∈ fs) (x2 : Sl) (st : Sto) (Q : Fl → ES → Prop) : ∀ (l : List (List Tm × Asg)) (wr rt : List (Str × List Tm)) (x6 x7 : Sl), (∀ p ∈ l, AskG T f p) → wr.length + rt.length + l.length ≤ 1000 → (∀ p ∈ wr, WG T p) → (∀ p ∈ rt, WG T p) →
    (∀ (wr' rt' : List (Str × List Tm)) (x6 x7 : Sl), wr'.length + rt'.length = wr.length + rt.length + l.length → (∀ p ∈ wr', WG T p) → (∀ p ∈ rt', WG T p) → Q .nx ⟨[.val T.d, .val (progD fs), x2, .own (.lst (wr'.map wD)), .own (.lst (rt'.map wD)), .val f.d, x6, x7], st⟩) →
    FTurns (runF tbl n) (.tup (.cons (.v 6) (.cons (.v 7) .nil))) l__law_wrong_ones_1 (l.map askD) ⟨[.val T.d, .val (progD fs), x2, .own (.lst (wr.map wD)), .own (.lst (rt.map wD)), .val f.d, x6, x7], st⟩ Q
  | [], wr, rt, x6, x7, _, _, hw, hr, q => q wr rt x6 x7 rfl hw hr
  | p :: l, wr, rt, x6, x7, hl, hb, hw, hr, q => by
    simp only [List.map_cons, FTurns]
    simp only [List.length_cons] at hb
    have hp := hl p List.mem_cons_self
    have hF := hP.full f hf
    have l3 := hF.ok.ps.len
    have hfl := hP.len
    obtain ⟨hvi, hai, gs, hgs, hgf, ef⟩ := dem_vi G.ok hF.ok.ps hp.dem (fun v h => ⟨⟨(hp.vg v h).w, (hp.vg v h).tree, by have := (hp.vg v h).dep; omega⟩, by have := (hp.vg v h).dep; omega⟩)
    have hcov : Cov f.ix p.2 := fun x hx => by
      obtain ⟨q, hq, k⟩ := hF.ok.has x hx
      refine (fitL_cov okI_fn _ _ _ _ ef ?_ (fun r hr => by obtain ⟨s, hs, rfl⟩ := List.mem_map.mp hr; exact (hF.ok.ps.wps s hs).1) (fun t h => ?_)).2 q.2 (List.mem_map.mpr ⟨q, hq, rfl⟩) x k
      · have := congrArg List.length hgf; simp at this ⊢; omega
      · obtain ⟨s, hs, rfl⟩ := List.mem_map.mp h
        obtain ⟨u, hu, e⟩ := idxs_mem hgs s hs
        exact (idx_ok G.ok e).w
    simp! [l__law_wrong_ones_1, askD]
    have hwg : WG T (f.w, p.1) := ⟨by have := hp.len; simp only; omega, hp.vg⟩
    have hlt := ltold_ok B G.ok (fun f h => (hP.full f h).ok) (by omega) f hF p.1 hp.len hvi p.2 n hn st (fun x u h => (hai x u h).dep) hcov
    simp! [] at hlt
    refine WCall_of _ hlt ?_
    simp! [deref_told, toldM_isNon]
    refine WIf_mk (fun h => ?_) fun h => ?_
    · simp! [Fun.d, List.length_map]
      refine ⟨by unfold sizeLine; omega, ?_⟩
      simp! []
      have := wr1_ok B hn G hP hf x2 st Q l wr (rt ++ [(f.w, p.1)]) (.val (.tup (p.1.map Tm.d))) (.val p.2.d) (fun p h => hl p (List.mem_cons_of_mem _ h)) (by simp; omega) hw (fun r h => by
        rcases List.mem_append.mp h with h | h
        · exact hr r h
        · simp only [List.mem_singleton] at h; subst h; exact hwg) (fun wr' rt' x6 x7 a b c => q wr' rt' x6 x7 (by simp at a ⊢; omega) b c)
      rw [List.map_append] at this
      simp! [wD, Fun.d] at this
      simp! [wD] at this
      exact this
    · simp! [Fun.d, List.length_map]
      refine ⟨by unfold sizeLine; omega, ?_⟩
      simp! []
      have := wr1_ok B hn G hP hf x2 st Q l (wr ++ [(f.w, p.1)]) rt (.val (.tup (p.1.map Tm.d))) (.val p.2.d) (fun p h => hl p (List.mem_cons_of_mem _ h)) (by simp; omega) (fun r h => by
        rcases List.mem_append.mp h with h | h
        · exact hw r h
        · simp only [List.mem_singleton] at h; subst h; exact hwg) hr (fun wr' rt' x6 x7 a b c => q wr' rt' x6 x7 (by simp at a ⊢; omega) b c)
      rw [List.map_append] at this
      simp! [wD, Fun.d] at this
      simp! [wD] at this
      exact this
theorem wr2_ok {n : Nat} (B : TblA tbl) (C : TblC tbl) (hn : 60 ≤ n) {T : Tab} (G : TabG T) {fs : List Fun} (hP : ProgG T fs) (K : List K3) (hK : K.length ≤ 640) (hKv : ∀ q ∈ K, KvOk T 4 q) (st : Sto) (Q : Fl → ES → Prop) : ∀ (l : List Fun) (wr rt : List (Str × List Tm)) (x5 x6 x7 : Sl), (∀ f ∈ l, f ∈ fs) → wr.length + rt.length + 20 * l.length ≤ 500 → (∀ p ∈ wr, WG T p) → (∀ p ∈ rt, WG T p) →
    (∀ (wr' rt' : List (Str × List Tm)) (x5 x6 x7 : Sl), wr'.length + rt'.length ≤ 500 → (∀ p ∈ wr', WG T p) → (∀ p ∈ rt', WG T p) → Q .nx ⟨[.val T.d, .val (progD fs), .val (.lst (K.map k3D)), .own (.lst (wr'.map wD)), .own (.lst (rt'.map wD)), x5, x6, x7], st⟩) →
    FTurns (runF tbl n) (.v 5) l__law_wrong_ones_2 (l.map Fun.d) ⟨[.val T.d, .val (progD fs), .val (.lst (K.map k3D)), .own (.lst (wr.map wD)), .own (.lst (rt.map wD)), x5, x6, x7], st⟩ Q
  | [], wr, rt, x5, x6, x7, _, hb, hw, hr, q => q wr rt x5 x6 x7 (by simpa using hb) hw hr
  | f :: l, wr, rt, x5, x6, x7, hl, hb, hw, hr, q => by
    simp only [List.map_cons, FTurns]
    simp only [List.length_cons] at hb
    have hf := hl f List.mem_cons_self
    simp! [l__law_wrong_ones_2]
    refine WS_for _ _ _ _ _ _ ?_
    simp! []
    refine WCall_mono _ (asked_ok B C (by omega) G f (hP.full f hf).ok K hK hKv st) fun d st' hd => ?_
    obtain ⟨rfl, al, rfl, h1, h2⟩ := hd
    simp! []
    refine wr1_ok B hn G hP hf _ st' _ al wr rt _ _ h2 (by omega) hw hr fun wr' rt' x6 x7 a b c => ?_
    simp! []
    exact wr2_ok B C hn G hP K hK hKv st' Q l wr' rt' _ _ _ (fun f h => hl f (List.mem_cons_of_mem _ h)) (by omega) b c q
theorem wrong_ok {n : Nat} (B : TblA tbl) (C : TblC tbl) (hn : 61 ≤ n) {T : Tab} (G : TabG T) {fs : List Fun} (hP : ProgG T fs) (K : List K3) (hK : K.length ≤ 640) (hKv : ∀ q ∈ K, KvOk T 4 q) (st : Sto) :
    WCall (runF tbl n) "_law_wrong_ones" [T.d, progD fs, .lst (K.map k3D)] st fun d st' => st' = st ∧ ∃ wr rt : List (Str × List Tm), d = .tup [.lst (wr.map wD), .lst (rt.map wD)] ∧ wr.length + rt.length ≤ 500 ∧ (∀ p ∈ wr, WG T p) ∧ ∀ p ∈ rt, WG T p := by
  obtain ⟨n, rfl⟩ : ∃ k, n = k + 1 := ⟨n - 1, by omega⟩
  have hfl := hP.len
  refine WCall_run C.wrong rfl ?_
  simp only [m__law_wrong_ones]
  simp! []
  refine WS_for _ _ _ _ _ _ ?_
  simp! [progD]
  have := wr2_ok (n := n) B C (by omega) G hP K hK hKv st
  simp! [progD] at this
  refine this _ fs [] [] _ _ _ (fun f h => h) (by simp; omega) (fun _ h => nomatch h) (fun _ h => nomatch h) fun wr' rt' x5 x6 x7 a b c => ?_
  simp! []
  exact ⟨wr', rt', rfl, a, b, c⟩
/-! ### raw values -/
def RawP (tbl : Str → Option DefM) (T : Tab) (n k : Nat) : Prop := ∀ (fam : Str) (st : Sto), OkS st → WCall (runF tbl n) "_law_raw" [.hdl 1, T.d, .str fam, .int ((k : Int) - 1)] st fun d st' => OkS st' ∧ ∃ o : Option Tm, d = oD o ∧ ∀ t, o = some t → VG T (k + 1) t
theorem raw_turns {n k : Nat} {T : Tab} (hR : RawP tbl T n k) (x2 x4 x5 x6 x7 : Sl) (Q : List D → ES → Prop) : ∀ (qs : List (Str × Tm)) (st : Sto), OkS st →
    (∀ (os : List (Option Tm)) (st' : Sto), OkS st' → os.length = qs.length → (∀ t, some t ∈ os → VG T (k + 1) t) → Q (os.map oD) ⟨[.val (.hdl 1), .val T.d, x2, .val (.int (k : Int)), x4, x5, x6, x7, .no], st'⟩) →
    LTurns (runF tbl n) (.call "_law_raw" (.cons (.var 0) (.cons (.var 1) (.cons (.idx (.s 8) (.int 0)) (.cons (.bin .sub (.var 3) (.int 1)) .nil))))) (.v 8) .no [8] (qs.map prD) ⟨[.val (.hdl 1), .val T.d, x2, .val (.int (k : Int)), x4, x5, x6, x7, .no], st⟩ Q
  | [], st, ho, q => by
    have := q [] st ho rfl (fun _ h => nomatch h)
    exact this
  | p :: qs, st, ho, q => by
    simp only [List.map_cons, LTurns]
    unfold LTurn
    simp! [prD]
    refine WCall_mono _ (hR p.1 st ho) fun d st' hd => ?_
    obtain ⟨ho', o, rfl, hob⟩ := hd
    simp! []
    refine raw_turns hR x2 x4 x5 x6 x7 _ qs st' ho' fun os st2 h1 h2 h3 => ?_
    have := q (o :: os) st2 h1 (by simp [h2]) (fun t ht => by
      rcases List.mem_cons.mp ht with e | ht
      · exact hob t e.symm
      · exact h3 t ht)
    exact this
end
end Px
/-! A31: raw values, things, the values of a function. -/
namespace Px
open PySem L2 Classical
structure ArgB (k : Nat) (d : D) : Prop where
  nb : d.nb = true
  dep : d.dep ≤ k
  sml : D.sml d
theorem ArgB.mono {k m : Nat} {d : D} (h : ArgB k d) (hk : k ≤ m) : ArgB m d := ⟨h.nb, by have := h.dep; omega, h.sml⟩
theorem tm_sml {ok : Str → Nat → Prop} (hok : ∀ w n, ok w n → n ≤ 900) {t : Tm} (h : t.W ok) : D.sml t.d := by
  induction t using Tm.ind with
  | nm x => rw [Tm.d_nm]; exact .str x
  | ap w ts ih =>
    cases h with
    | ap a b =>
      rw [Tm.d_ap]
      have := hok _ _ a
      refine .tup (by simp; omega) fun d hd => ?_
      rcases List.mem_cons.mp hd with rfl | hd
      · exact .str w
      · obtain ⟨t, ht, rfl⟩ := List.mem_map.mp hd
        exact ih t ht (b t ht)
theorem VG.arg {T : Tab} (G : TabG T) {m : Nat} {v : Tm} (h : VG T m v) : ArgB m v.d := ⟨v.nb, by rw [v.d_dep]; exact h.dep, tm_sml (fun w n ⟨c, hc, hl⟩ => by
  have := (G.ok.2 c (Tab.find_mem hc).1).len; omega) h.w⟩
section
variable {tbl : Str → Option DefM}
theorem LTurns_of_nil {c : CallF} {x : E} {tg : Tg} {c1 : C1} {own : List Nat} {l : List D} {S : ES} {Q : List D → ES → Prop} (h : l = []) (q : Q [] S) : LTurns c x tg c1 own l S Q := by subst h; exact q
theorem raw_step (C : TblC tbl) {T : Tab} (G : TabG T) (k n : Nat) (hn : k + 4 ≤ n) (ih : 0 < k → RawP tbl T (n - 1) (k - 1)) : RawP tbl T n k := by
  intro fam st ho
  obtain ⟨n, rfl⟩ : ∃ k, n = k + 1 := ⟨n - 1, by omega⟩
  have hpos := G.pos
  have hle := G.le
  refine WCall_run C.raw rfl ?_
  simp only [m__law_raw]
  -- one row is taken, its parts are made
  have fin : ∀ (cs : List Con) (st : Sto) (x5 : Sl) (rd : Bool), OkS st → 0 < cs.length → cs.length ≤ 100 → (∀ c ∈ cs, c ∈ T.cs) → (k = 0 → ∀ c ∈ cs, c.ps.length = 0) → WS (runF tbl n) (.asg (.v 6) (.call "_law_pick" (.cons (.var 0) (.cons (.var 4) .nil))))
      ⟨[.val (.hdl 1), .val T.d, .val (.str fam), .val (.int ((k : Int) - 1)), if rd then .val (.lst (cs.map Con.d)) else .own (.lst (cs.map Con.d)), x5, .no, .no, .no], st⟩
      (seqQ (runF tbl n) (.cons (.asgL 7 (.comp (.call "_law_raw" (.cons (.var 0) (.cons (.var 1) (.cons (.idx (.s 8) (.int 0)) (.cons (.bin .sub (.var 3) (.int 1)) .nil))))) (.v 8) (.p (.e (.idx (.s 6) (.int 1)))) .no [("part", 8)]))
        (.cons (.ifS (.cmp .In (.e .non) (.s 7)) (.cons (.ret .non) .nil) .nil)
        (.cons (.ret (.bin .add (.tup (.cons (.idx (.s 6) (.int 0)) .nil)) (.tupOf (.s 7)))) .nil))) (endQ fun d st' => OkS st' ∧ ∃ o : Option Tm, d = oD o ∧ ∀ t, o = some t → VG T (k + 1) t)) := by
    intro cs st x5 rd ho hc0 hcl hcm hk0
    have main : WCall (runF tbl n) "_law_pick" [.hdl 1, .lst (cs.map Con.d)] st fun d st1 => WS (runF tbl n) (.asgL 7 (.comp (.call "_law_raw" (.cons (.var 0) (.cons (.var 1) (.cons (.idx (.s 8) (.int 0)) (.cons (.bin .sub (.var 3) (.int 1)) .nil))))) (.v 8) (.p (.e (.idx (.s 6) (.int 1)))) .no [("part", 8)])) ⟨[.val (.hdl 1), .val T.d, .val (.str fam), .val (.int ((k : Int) - 1)), .val (.lst (cs.map Con.d)), x5, .val d, .no, .no], st1⟩ (seqQ (runF tbl n) (.cons (.ifS (.cmp .In (.e .non) (.s 7)) (.cons (.ret .non) .nil) .nil)
        (.cons (.ret (.bin .add (.tup (.cons (.idx (.s 6) (.int 0)) .nil)) (.tupOf (.s 7)))) .nil)) (endQ fun d st' => OkS st' ∧ ∃ o : Option Tm, d = oD o ∧ ∀ t, o = some t → VG T (k + 1) t)) := by
      refine WCall_mono _ (pick_ok C (by omega) _ (cs.map Con.d) (.inl rfl) (by simpa using hc0) (by simp; omega) ho) fun d st1 hd => ?_
      obtain ⟨ho1, hd⟩ := hd
      obtain ⟨c, hc, rfl⟩ := List.mem_map.mp hd
      have hcT := hcm c hc
      have l3 := (G.ok.2 c hcT).len
      simp! []
      refine WL_comp _ _ _ _ _ _ _ _ ?_
      simp! [Con.d]
      refine ⟨by rw [List.length_map]; unfold sizeLine; omega, ?_⟩
      simp! []
      have fin2 : ∀ (os : List (Option Tm)) (st' : Sto), OkS st' → os.length = c.ps.length → (∀ t, some t ∈ os → VG T k t) → WB (runF tbl n) (.cons (.ifS (.cmp .In (.e .non) (.s 7)) (.cons (.ret .non) .nil) .nil)
          (.cons (.ret (.bin .add (.tup (.cons (.idx (.s 6) (.int 0)) .nil)) (.tupOf (.s 7)))) .nil)) ⟨[.val (.hdl 1), .val T.d, .val (.str fam), .val (.int ((k : Int) - 1)), .val (.lst (cs.map Con.d)), x5, .val c.d, .own (.lst (os.map oD)), .no], st'⟩ (endQ fun d st' => OkS st' ∧ ∃ o : Option Tm, d = oD o ∧ ∀ t, o = some t → VG T (k + 1) t) := by
        intro os st' ho' h2 h3
        simp! [memD_oD]
        refine WIf_dec (fun h => ?_) fun h => ?_
        · simp! []
          exact ⟨ho', none, rfl, fun _ h => nomatch h⟩
        · obtain ⟨ts, rfl⟩ := all_some h
          simp only [List.length_map] at h2
          simp! [oD_some, List.length_map, Con.d]
          rw [if_pos (by unfold sizeLine; omega)]
          simp! []
          have hts : ∀ t ∈ ts, VG T k t := fun t ht => h3 t (List.mem_map.mpr ⟨t, ht, rfl⟩)
          refine ⟨ho', some (.ap c.w ts), by rw [oD, Tm.d_ap], fun t e => ?_⟩
          cases e
          exact ⟨.ap ⟨c, T.find_uq G.uq hcT rfl, by omega⟩ fun t h => (hts t h).w, fun x hx => by cases hx with | ap a b => exact (hts _ a).tree x b, Tm.dep_ap.mpr fun t h => (hts t h).dep⟩
      cases k with
      | zero =>
        have := hk0 rfl c hc
        have e : c.ps = [] := List.length_eq_zero_iff.mp this
        have f2 := fin2 [] st1 ho1 (by rw [e]; rfl) (fun _ h => nomatch h)
        simp! [Con.d] at f2
        refine LTurns_of_nil (by rw [e]; rfl) ?_
        simp! []
        exact f2
      | succ j =>
        have hR : RawP tbl T n j := ih (by omega)
        have e1 : (((j + 1 : Nat) : Int) - 1) = (j : Int) := by omega
        simp only [e1] at fin2 ⊢
        refine raw_turns hR _ _ _ _ _ _ c.ps st1 ho1 fun os st' a b d => ?_
        have f2 := fin2 os st' a b (fun t h => d t h)
        simp! [Con.d] at f2
        simp! [Con.d]
        exact f2
    cases rd with
    | true =>
      simp! []
      refine WCall_mono _ main fun d st' hd => ?_
      simp! [] at hd
      simp! []
      exact hd
    | false =>
      simp! [Bool.false_eq_true]
      refine WCall_mono _ main fun d st' hd => ?_
      simp! [] at hd
      simp! []
      exact hd
  -- the flat rows
  have flt : ∀ (cs : List Con) (s4 s5 : Sl) (st : Sto) (Q : List D → ES → Prop), (∀ c ∈ cs, c ∈ T.cs) → Q ((flatC cs).map Con.d) ⟨[.val (.hdl 1), .val T.d, .val (.str fam), .val (.int ((k : Int) - 1)), s4, s5, .no, .no, .no], st⟩ →
      LTurns (runF tbl n) (.var 6) (.v 6) (.t (.cmp .Eq (.e (.len (.e (.idx (.s 6) (.int 1))))) (.e (.int 0)))) [6] (cs.map Con.d) ⟨[.val (.hdl 1), .val T.d, .val (.str fam), .val (.int ((k : Int) - 1)), s4, s5, .no, .no, .no], st⟩ Q := by
    intro cs s4 s5 st Q hcm q
    refine LTurns_filter (p := fun c : Con => decide (c.ps.length = 0)) (g := Con.d) _ (fun c hq K kk => ?_) q
    unfold LTurn
    simp! [Con.d, List.length_map]
    refine WIf_dec (fun h => ?_) fun h => ?_
    · simp! []
      rw [decide_eq_true (by omega), if_pos rfl] at kk
      exact kk
    · simp! []
      rw [decide_eq_false (by omega), if_neg nofun] at kk
      exact kk
  have flT := flt T.cs
  -- the last if: below zero flat ones of all
  have t3 : ∀ (cs : List Con) (st : Sto) (s4 x5 : Sl) (rd : Bool), OkS st → 0 < cs.length → cs.length ≤ 100 → (∀ c ∈ cs, c ∈ T.cs) → s4 = (if rd then .val (.lst (cs.map Con.d)) else .own (.lst (cs.map Con.d))) → WS (runF tbl n) (.ifS (.cmp .Lt (.s 3) (.e (.int 0)))
      (.cons (.asgL 4 (.comp (.var 6) (.v 6) (.p (.e (.idx (.s 1) (.int 3)))) (.t (.cmp .Eq (.e (.len (.e (.idx (.s 6) (.int 1))))) (.e (.int 0)))) [("row", 6)]))
      (.cons (.ifS (.cmp .Eq (.e (.len (.s 4))) (.e (.int 0))) (.cons (.ret .non) .nil) .nil) .nil)) .nil)
      ⟨[.val (.hdl 1), .val T.d, .val (.str fam), .val (.int ((k : Int) - 1)), s4, x5, .no, .no, .no], st⟩
      (seqQ (runF tbl n) (.cons (.asg (.v 6) (.call "_law_pick" (.cons (.var 0) (.cons (.var 4) .nil))))
        (.cons (.asgL 7 (.comp (.call "_law_raw" (.cons (.var 0) (.cons (.var 1) (.cons (.idx (.s 8) (.int 0)) (.cons (.bin .sub (.var 3) (.int 1)) .nil))))) (.v 8) (.p (.e (.idx (.s 6) (.int 1)))) .no [("part", 8)]))
        (.cons (.ifS (.cmp .In (.e .non) (.s 7)) (.cons (.ret .non) .nil) .nil)
        (.cons (.ret (.bin .add (.tup (.cons (.idx (.s 6) (.int 0)) .nil)) (.tupOf (.s 7)))) .nil)))) (endQ fun d st' => OkS st' ∧ ∃ o : Option Tm, d = oD o ∧ ∀ t, o = some t → VG T (k + 1) t)) := by
    intro cs st s4 x5 rd ho hc0 hcl hcm hs4
    simp! []
    refine WIf_dec (fun h => ?_) fun h => ?_
    · simp! []
      refine WL_comp _ _ _ _ _ _ _ _ ?_
      simp! [Tab.d]
      refine ⟨by rw [List.length_map]; unfold sizeLine; omega, ?_⟩
      simp! []
      simp! [Tab.d] at flT
      refine flT _ _ st _ (fun c h => h) ?_
      have hfl := List.length_filter_le (fun c : Con => decide (c.ps.length = 0)) T.cs
      simp! [List.length_map]
      refine WIf_dec (fun h2 => ?_) fun h2 => ?_
      · simp! []
        exact ⟨ho, none, rfl, fun _ h => nomatch h⟩
      · have f := fin (flatC T.cs) st x5 false ho (by omega) (by unfold flatC; omega) (fun c h => (List.mem_filter.mp h).1) (fun _ c h => of_decide_eq_true (List.mem_filter.mp h).2)
        simp! [Bool.false_eq_true, Tab.d] at f
        simp! [Tab.d]
        exact f
    · have f := fin cs st x5 rd ho hc0 hcl hcm (fun h0 => absurd h (by simp; omega))
      rw [← hs4] at f
      simp! [] at f
      simp! []
      exact f
  have t2 : ∀ (cs : List Con) (st : Sto), OkS st → 0 < cs.length → cs.length ≤ 100 → (∀ c ∈ cs, c ∈ T.cs) → WS (runF tbl n) (.ifS (.andT (.cmp .Eq (.s 3) (.e (.int 0))) (.oneT (.cmp .Gt (.e (.len (.s 5))) (.e (.int 0))))) (.cons (.asg (.v 4) (.var 5)) .nil) .nil)
      ⟨[.val (.hdl 1), .val T.d, .val (.str fam), .val (.int ((k : Int) - 1)), .val (.lst (cs.map Con.d)), .own (.lst ((flatC cs).map Con.d)), .no, .no, .no], st⟩
      (seqQ (runF tbl n) (.cons (.ifS (.cmp .Lt (.s 3) (.e (.int 0)))
      (.cons (.asgL 4 (.comp (.var 6) (.v 6) (.p (.e (.idx (.s 1) (.int 3)))) (.t (.cmp .Eq (.e (.len (.e (.idx (.s 6) (.int 1))))) (.e (.int 0)))) [("row", 6)]))
      (.cons (.ifS (.cmp .Eq (.e (.len (.s 4))) (.e (.int 0))) (.cons (.ret .non) .nil) .nil) .nil)) .nil) (.cons (.asg (.v 6) (.call "_law_pick" (.cons (.var 0) (.cons (.var 4) .nil))))
        (.cons (.asgL 7 (.comp (.call "_law_raw" (.cons (.var 0) (.cons (.var 1) (.cons (.idx (.s 8) (.int 0)) (.cons (.bin .sub (.var 3) (.int 1)) .nil))))) (.v 8) (.p (.e (.idx (.s 6) (.int 1)))) .no [("part", 8)]))
        (.cons (.ifS (.cmp .In (.e .non) (.s 7)) (.cons (.ret .non) .nil) .nil)
        (.cons (.ret (.bin .add (.tup (.cons (.idx (.s 6) (.int 0)) .nil)) (.tupOf (.s 7)))) .nil))))) (endQ fun d st' => OkS st' ∧ ∃ o : Option Tm, d = oD o ∧ ∀ t, o = some t → VG T (k + 1) t)) := by
    intro cs st ho hc0 hcl hcm
    have f0 := t3 cs st (.val (.lst (cs.map Con.d))) (.own (.lst ((flatC cs).map Con.d))) true ho hc0 hcl hcm rfl
    simp! [] at f0
    simp! []
    refine WIf_mk (fun h => ?_) fun h => ?_
    · simp! [List.length_map]
      refine WIf_dec (fun h2 => ?_) fun h2 => ?_
      · have hfl := List.length_filter_le (fun c : Con => decide (c.ps.length = 0)) cs
        have f1 := t3 (flatC cs) st (.val (.lst ((flatC cs).map Con.d))) (.val (.lst ((flatC cs).map Con.d))) true ho (by omega) (by unfold flatC; omega) (fun c h => hcm c (List.mem_filter.mp h).1) rfl
        simp! [] at f1
        simp! []
        exact f1
      · simp! []
        exact f0
    · simp! []
      exact f0
  have t1 : ∀ (cs : List Con) (st : Sto), OkS st → 0 < cs.length → cs.length ≤ 100 → (∀ c ∈ cs, c ∈ T.cs) → WS (runF tbl n) (.asgL 5 (.comp (.var 6) (.v 6) (.p (.e (.var 4))) (.t (.cmp .Eq (.e (.len (.e (.idx (.s 6) (.int 1))))) (.e (.int 0)))) [("row", 6)]))
      ⟨[.val (.hdl 1), .val T.d, .val (.str fam), .val (.int ((k : Int) - 1)), .own (.lst (cs.map Con.d)), .no, .no, .no, .no], st⟩
      (seqQ (runF tbl n) (.cons (.ifS (.andT (.cmp .Eq (.s 3) (.e (.int 0))) (.oneT (.cmp .Gt (.e (.len (.s 5))) (.e (.int 0))))) (.cons (.asg (.v 4) (.var 5)) .nil) .nil) (.cons (.ifS (.cmp .Lt (.s 3) (.e (.int 0)))
      (.cons (.asgL 4 (.comp (.var 6) (.v 6) (.p (.e (.idx (.s 1) (.int 3)))) (.t (.cmp .Eq (.e (.len (.e (.idx (.s 6) (.int 1))))) (.e (.int 0)))) [("row", 6)]))
      (.cons (.ifS (.cmp .Eq (.e (.len (.s 4))) (.e (.int 0))) (.cons (.ret .non) .nil) .nil) .nil)) .nil) (.cons (.asg (.v 6) (.call "_law_pick" (.cons (.var 0) (.cons (.var 4) .nil))))
        (.cons (.asgL 7 (.comp (.call "_law_raw" (.cons (.var 0) (.cons (.var 1) (.cons (.idx (.s 8) (.int 0)) (.cons (.bin .sub (.var 3) (.int 1)) .nil))))) (.v 8) (.p (.e (.idx (.s 6) (.int 1)))) .no [("part", 8)]))
        (.cons (.ifS (.cmp .In (.e .non) (.s 7)) (.cons (.ret .non) .nil) .nil)
        (.cons (.ret (.bin .add (.tup (.cons (.idx (.s 6) (.int 0)) .nil)) (.tupOf (.s 7)))) .nil)))))) (endQ fun d st' => OkS st' ∧ ∃ o : Option Tm, d = oD o ∧ ∀ t, o = some t → VG T (k + 1) t)) := by
    intro cs st ho hc0 hcl hcm
    simp! []
    refine WL_comp _ _ _ _ _ _ _ _ ?_
    simp! []
    refine ⟨by rw [List.length_map]; unfold sizeLine; omega, ?_⟩
    simp! []
    refine flt cs _ _ st _ hcm ?_
    have f := t2 cs st ho hc0 hcl hcm
    simp! [] at f
    simp! []
    exact f
  have hTall := t1 T.cs
  have hrl := consF_len (T := T) fam
  simp! []
  refine WL_comp _ _ _ _ _ _ _ _ ?_
  simp! [Tab.d]
  refine ⟨by rw [List.length_map]; unfold sizeLine; omega, ?_⟩
  simp! []
  refine LTurns_filter (p := fun c : Con => decide (c.fam = fam)) (g := Con.d) _ (fun c hq K kk => ?_) ?_
  · unfold LTurn
    simp! [Con.d]
    refine WIf_dec (fun h => ?_) fun h => ?_
    · simp! []
      rw [decide_eq_true h, if_pos rfl] at kk
      exact kk
    · simp! []
      rw [decide_eq_false h, if_neg nofun] at kk
      exact kk
  have ecf : (T.cs.filter fun c : Con => decide (c.fam = fam)) = consF T fam := rfl
  rw [ecf]
  simp! [List.length_map]
  refine WIf_dec (fun h => ?_) fun h => ?_
  · have f := hTall st ho hpos (by omega) (fun c h => h)
    simp! [Tab.d] at f
    simp! [Tab.d]
    exact f
  · simp! []
    refine WCall_mono _ (draw_ok C (by omega) 12 (by decide) (by decide) ho) fun d st1 hd => ?_
    obtain ⟨ho1, v, rfl, hv1, hv2⟩ := hd
    simp! []
    refine WIf_dec (fun h2 => ?_) fun h2 => ?_
    · have f := hTall st1 ho1 hpos (by omega) (fun c h => h)
      simp! [Tab.d] at f
      simp! [Tab.d]
      exact f
    · have f := t1 (consF T fam) st1 ho1 (by omega) (by omega) (fun c h => (List.mem_filter.mp h).1)
      simp! [] at f
      simp! []
      exact f
theorem raw_all (C : TblC tbl) {T : Tab} (G : TabG T) : ∀ (k n : Nat), k + 4 ≤ n → RawP tbl T n k
  | 0, n, hn => raw_step C G 0 n hn fun h => (Nat.lt_irrefl 0 h).elim
  | k + 1, n, hn => raw_step C G (k + 1) n hn fun _ => raw_all C G k (n - 1) (by omega)
end
end Px
/-! A32: things, the values of a function. -/
namespace Px
open PySem L2 Classical
theorem ArgB.tup {k : Nat} {ds : List D} (h : ∀ d ∈ ds, ArgB k d) (hl : ds.length ≤ 1000) : ArgB (k + 1) (.tup ds) :=
  ⟨by simp only [D.nb]; exact D.nbs_all.mpr fun d hd => (h d hd).nb, by simp only [D.dep]; have := D.deps_le.mpr fun d hd => (h d hd).dep; omega, .tup hl fun d hd => (h d hd).sml⟩
theorem ArgB.lst {k : Nat} {ds : List D} (h : ∀ d ∈ ds, ArgB k d) : ArgB (k + 1) (.lst ds) :=
  ⟨by simp only [D.nb]; exact D.nbs_all.mpr fun d hd => (h d hd).nb, by simp only [D.dep]; have := D.deps_le.mpr fun d hd => (h d hd).dep; omega, .lst ds⟩
theorem ArgB.str (k : Nat) (x : Str) : ArgB k (.str x) := ⟨by simp [D.nb], by simp [D.dep], .str x⟩
theorem ArgB.non (k : Nat) : ArgB k .non := ⟨by simp [D.nb], by simp [D.dep], .non⟩
theorem ArgB.int (k : Nat) (i : Int) : ArgB k (.int i) := ⟨by simp [D.nb], by simp [D.dep], .int i⟩
theorem cutD_1 (l : List D) : cutD l (some 1) none = l.drop 1 := cutD_drop l 1
section
variable {tbl : Str → Option DefM}
theorem thing_ok (C : TblC tbl) {n : Nat} (hn : 3 ≤ n) {v : D} (hv : ArgB 10 v) {st : Sto} (ho : OkS st) : WCall (runF tbl n) "_law_thing" [.hdl 1, v] st fun d st' => OkS st' ∧ ArgB 12 d := by
  obtain ⟨n, rfl⟩ : ∃ k, n = k + 1 := ⟨n - 1, by omega⟩
  refine WCall_run C.thing rfl ?_
  simp only [m__law_thing]
  simp! []
  refine WCall_mono _ (pick_ok C (by omega) _ _ (.inl rfl) (by simp) (by simp) ho) fun d st1 hd => ?_
  obtain ⟨ho1, hd⟩ := hd
  simp! []
  refine ⟨ho1, ?_⟩
  have s := fun x => ArgB.str 10 x
  have t1 : ∀ {ds : List D}, (∀ d ∈ ds, ArgB 10 d) → ds.length ≤ 1000 → ArgB 12 (.tup ds) := fun h hl => (ArgB.tup h hl).mono (by omega)
  simp only [List.mem_cons, List.not_mem_nil, or_false] at hd
  rcases hd with rfl | rfl | rfl | rfl | rfl | rfl | rfl | rfl | rfl | rfl | rfl | rfl
  · exact .non 12
  · exact .str 12 _
  · exact t1 (by simp [s]) (by simp)
  · exact t1 (by simp [s]) (by simp)
  · exact .int 12 7
  · exact t1 (by simp) (by simp)
  · exact (ArgB.lst (k := 10) (by simp)).mono (by omega)
  · exact t1 (by simp [s]) (by simp)
  · exact t1 (by simp [s, ArgB.non]) (by simp)
  · exact (ArgB.lst (k := 10) (by simpa using hv)).mono (by omega)
  · exact t1 (by simpa using hv) (by simp)
  · exact t1 (by simp [s, hv]) (by simp)
theorem vfor_loop {n : Nat} (C : TblC tbl) (hn : 12 ≤ n) {T : Tab} (G : TabG T) (x2 x4 : Sl) (Q : Fl → ES → Prop) : ∀ (ps : List (Str × Tm)) (ds : List D) (st : Sto) (x5 x6 x7 : Sl), OkS st → ds.length + ps.length ≤ 100 → (∀ d ∈ ds, ArgB 12 d) →
    (∀ (ds' : List D) (st' : Sto) (x5 x6 x7 : Sl), OkS st' → ds'.length = ds.length + ps.length → (∀ d ∈ ds', ArgB 12 d) → Q .nx ⟨[.val (.hdl 1), .val T.d, x2, .own (.lst ds'), x4, x5, x6, x7], st'⟩) →
    FTurns (runF tbl n) (.tup (.cons (.v 5) (.cons (.v 6) .nil))) l__law_values_for_1 (ps.map prD) ⟨[.val (.hdl 1), .val T.d, x2, .own (.lst ds), x4, x5, x6, x7], st⟩ Q
  | [], ds, st, x5, x6, x7, ho, _, hd, q => q ds st x5 x6 x7 ho rfl hd
  | p :: ps, ds, st, x5, x6, x7, ho, hl, hd, q => by
    simp only [List.map_cons, FTurns]
    simp only [List.length_cons] at hl
    have fin : ∀ (d : D) (st' : Sto), OkS st' → ArgB 12 d → WS (runF tbl n) (.app 3 (.var 7)) ⟨[.val (.hdl 1), .val T.d, x2, .own (.lst ds), x4, .val (.str p.1), .val p.2.d, .val d], st'⟩ (seqQ (runF tbl n) .nil (forQ (fun S => FTurns (runF tbl n) (.tup (.cons (.v 5) (.cons (.v 6) .nil))) l__law_values_for_1 (ps.map prD) S Q) Q)) := by
      intro d st' ho' hdd
      simp! []
      refine ⟨by unfold sizeLine; omega, ?_⟩
      simp! []
      exact vfor_loop C hn G x2 x4 Q ps (ds ++ [d]) st' _ _ _ ho' (by simp; omega) (fun e he => by
        rcases List.mem_append.mp he with he | he
        · exact hd e he
        · simp only [List.mem_singleton] at he; subst he; exact hdd) fun ds' st' x5 x6 x7 a b c => q ds' st' x5 x6 x7 a (by simp at b ⊢; omega) c
    have mid : ∀ (d : D) (st' : Sto), OkS st' → ArgB 10 d → WS (runF tbl n) (.ifS (.cmp .Eq (.e (.call "_law_draw" (.cons (.var 0) (.cons (.int 20) .nil)))) (.e (.int 0))) (.cons (.asg (.v 7) (.call "_law_thing" (.cons (.var 0) (.cons (.var 7) .nil)))) .nil) .nil) ⟨[.val (.hdl 1), .val T.d, x2, .own (.lst ds), x4, .val (.str p.1), .val p.2.d, .val d], st'⟩ (seqQ (runF tbl n) (.cons (.app 3 (.var 7)) .nil) (forQ (fun S => FTurns (runF tbl n) (.tup (.cons (.v 5) (.cons (.v 6) .nil))) l__law_values_for_1 (ps.map prD) S Q) Q)) := by
      intro d st' ho' hdd
      simp! []
      refine WCall_mono _ (draw_ok C (by omega) 20 (by decide) (by decide) ho') fun e st1 he => ?_
      obtain ⟨ho1, v, rfl, hv1, hv2⟩ := he
      simp! []
      refine WIf_dec (fun h => ?_) fun h => ?_
      · simp! []
        refine WCall_mono _ (thing_ok C (by omega) hdd ho1) fun e st2 he => ?_
        have f := fin e st2 he.1 he.2
        simp! [] at f
        simp! []
        exact f
      · have f := fin d st1 ho1 (hdd.mono (by omega))
        simp! [] at f
        simp! []
        exact f
    simp! [l__law_values_for_1, prD]
    refine WCall_mono _ (draw_ok C (by omega) 5 (by decide) (by decide) ho) fun e st1 he => ?_
    obtain ⟨ho1, v, rfl, hv1, hv2⟩ := he
    simp! []
    have hR := raw_all C G (v.toNat + 1) n (by omega) p.1 st1 ho1
    have ev : (((v.toNat + 1 : Nat) : Int) - 1) = v := by omega
    rw [ev] at hR
    refine WCall_mono _ hR fun e st2 he => ?_
    obtain ⟨ho2, o, rfl, hob⟩ := he
    have isn : ∀ o : Option Tm, isNon (oD o) = o.isNone := fun o => by cases o with
      | none => rfl
      | some t => exact isNon_tm t
    have dero : ∀ (st : Sto) (o : Option Tm), deref st (oD o) = oD o := fun st o => by cases o with
      | none => rfl
      | some t => exact deref_tm st t
    simp! [isn, dero]
    cases o with
    | none =>
      have hk : ArgB 10 (.tup [.str "K0"]) := (ArgB.tup (k := 9) (by simp [ArgB.str]) (by simp)).mono (by omega)
      have f := mid _ st2 ho2 hk
      simp! [] at f
      simp! [Option.isNone_none]
      exact f
    | some t =>
      have f := mid t.d st2 ho2 (((hob t rfl).mono (k := 10) (by omega)).arg G)
      simp! [] at f
      simp! [Option.isNone_some, oD]
      exact f
theorem vfor_ok {n : Nat} (C : TblC tbl) (hn : 13 ≤ n) {T : Tab} (G : TabG T) (f : Fun) (hF : FunOk f) (hp : 0 < f.ps.length) {st : Sto} (ho : OkS st) : WCall (runF tbl n) "_law_values_for" [.hdl 1, T.d, f.d] st fun d st' => OkS st' ∧ ∃ ds : List D, d = .tup ds ∧ ds.length ≤ 100 ∧ ∀ e ∈ ds, ArgB 12 e := by
  obtain ⟨n, rfl⟩ : ∃ k, n = k + 1 := ⟨n - 1, by omega⟩
  have l3 := hF.ps.len
  refine WCall_run C.vfor rfl ?_
  simp only [m__law_values_for]
  simp! []
  refine WS_for _ _ _ _ _ _ ?_
  simp! [Fun.d]
  refine vfor_loop C (by omega) G _ _ _ f.ps [] st _ _ _ ho (by simp; omega) (fun _ h => nomatch h) fun ds st1 x5 x6 x7 ho1 hl hd => ?_
  simp only [List.length_nil, Nat.zero_add] at hl
  simp! []
  refine WCall_mono _ (draw_ok C (by omega) 16 (by decide) (by decide) ho1) fun e st2 he => ?_
  obtain ⟨ho2, v, rfl, hv1, hv2⟩ := he
  have t2 : ∀ (ds : List D), ds.length ≤ 100 → (∀ e ∈ ds, ArgB 12 e) → WS (runF tbl n) (.ifS (.cmp .Eq (.s 4) (.e (.int 1))) (.cons (.asgL 3 (.sl (.s 3) (.e (.int 1)) .no)) .nil) .nil) ⟨[.val (.hdl 1), .val T.d, .val f.d, .own (.lst ds), .val (.int v), x5, x6, x7], st2⟩ (seqQ (runF tbl n) (.cons (.ret (.tupOf (.s 3))) .nil) (endQ fun d st' => OkS st' ∧ ∃ ds : List D, d = .tup ds ∧ ds.length ≤ 100 ∧ ∀ e ∈ ds, ArgB 12 e)) := by
    intro ds hl hd
    simp! []
    refine WIf_dec (fun h => ?_) fun h => ?_
    · simp! [cutD_1]
      exact ⟨ho2, _, rfl, by simp; omega, fun e he => hd e (List.mem_of_mem_drop he)⟩
    · simp! []
      exact ⟨ho2, _, rfl, hl, hd⟩
  simp! []
  refine WIf_dec (fun h => ?_) fun h => ?_
  · cases ds with
    | nil => simp only [List.length_nil] at hl; omega
    | cons d0 ds =>
      simp! []
      rw [if_pos (by simp only [List.length_cons] at hl ⊢; unfold sizeLine; omega)]
      have f := t2 (d0 :: ds ++ [d0]) (by simp only [List.length_cons] at hl; simp; omega) (fun e he => by
        rcases List.mem_append.mp he with he | he
        · exact hd e he
        · simp only [List.mem_singleton] at he; subst he; exact hd _ List.mem_cons_self)
      simp! [Fun.d] at f
      simp! []
      exact f
  · have g := t2 ds (by omega) hd
    simp! [Fun.d] at g
    simp! []
    exact g
end
end Px
/-! A33: the law, in parts. -/
namespace Px
open PySem L2 Classical
theorem eqD_bl (a b : Bool) : eqD (.bl a) (.bl b) = some (a == b) := by
  unfold eqD
  rw [if_pos (by simp [D.pok, D.dep])]
  simp only [D.py, PyData.eqv]
theorem eqD_bl_self (a : Bool) : eqD (.bl a) (.bl a) = some true := by rw [eqD_bl]; simp
theorem ArgB.ok {k : Nat} {d : D} (h : ArgB k d) (hk : k ≤ 40) : ArgOk d := ⟨h.nb, by have := h.dep; omega, h.sml⟩
theorem raw_vg {T : Tab} {t : Tm} (hw : t.W T.okC) (ht : t.Tree) : rawD T t.d = true := by
  induction t using Tm.ind with
  | nm x => exact (ht x .nm).elim
  | ap w ts ih =>
    obtain ⟨⟨c, hc, hl⟩, hws⟩ := W_sub hw
    rw [Tm.d_ap, rawD_tup]
    simp only [rawTop, hc]
    rw [decide_eq_true (by simpa using hl), Bool.true_and]
    clear hl
    have : ∀ us : List Tm, (∀ u ∈ us, u ∈ ts) → rawDs T (us.map Tm.d) = true := by
      intro us
      induction us with
      | nil => intro _; simp [rawDs]
      | cons u us ih2 =>
        intro h
        simp only [List.map_cons, rawDs, Bool.and_eq_true]
        have hu := h u List.mem_cons_self
        exact ⟨ih u hu (hws u hu) (fun x hx => ht x (.ap hu hx)), ih2 fun v hv => h v (List.mem_cons_of_mem _ hv)⟩
    exact this ts fun u h => h
/-! ### a function without clauses -/
def hole (fam : Str) : Fun := ⟨"h0", [(fam, .nm "a")], fam, .nm "a", 0, []⟩
theorem hole_ok (fam : Str) : FunOk (hole fam) := by
  refine ⟨⟨by simp [hole], fun p hp => ?_⟩, .nm _, by simp [hole, Tm.dep], fun x hx => ?_⟩
  · simp only [hole, List.mem_singleton] at hp
    subst hp
    exact ⟨.nm _, by simp [Tm.dep], by simp [Tm.sz]⟩
  · exact ⟨_, List.mem_singleton.mpr rfl, hx⟩
theorem ffind_app {fs : List Fun} {w : Str} {f : Fun} (h : ffind fs w = some f) (gs : List Fun) : ffind (fs ++ gs) w = some f := by
  unfold ffind at *
  rw [List.find?_append, h]; rfl
theorem okB_app {T : Tab} {fs gs : List Fun} {w : Str} {n : Nat} (h : okB T fs w n) : okB T (fs ++ gs) w n := by
  obtain ⟨x, hx, hl⟩ := h
  refine ⟨x, ?_, hl⟩
  unfold hdO at hx ⊢
  cases hc : T.find w with
  | some c => rw [hc] at hx; exact hx
  | none =>
    rw [hc] at hx
    obtain ⟨f, hf, rfl⟩ := Option.map_eq_some_iff.mp hx
    simp only [ffind_app hf gs, Option.map_some]
theorem prog_hole {T : Tab} {fs : List Fun} (hP : ProgG T fs) (fam : Str) : Prog T (fs ++ [hole fam]) := by
  have := hP.len
  refine ⟨by simp; omega, fun f hf => ?_⟩
  rcases List.mem_append.mp hf with hf | hf
  · have q := hP.full f hf
    exact ⟨q.ok, q.len, q.pat, fun c hc => ⟨W_mono (fun w n h => okB_app h) (q.body c hc).1, (q.body c hc).2⟩, q.has⟩
  · simp only [List.mem_singleton] at hf
    subst hf
    exact ⟨hole_ok fam, by simp [hole], fun c hc => by simp [hole] at hc, fun c hc => by simp [hole] at hc, fun c hc => by simp [hole] at hc⟩
theorem prog_of {T : Tab} {fs : List Fun} (hP : ProgG T fs) : Prog T fs := ⟨by have := hP.len; omega, hP.full⟩
theorem nr_hole {T : Tab} {fs : List Fun} (hP : ProgG T fs) {q : K3} {m : Nat} (hq : KvOk T m q) : nrB T (fs ++ [hole q.fam]) "h0" [q.v] = true := by
  have h1 : ffind (fs ++ [hole q.fam]) (Str.ofString "h0") = some (hole q.fam) := by
    unfold ffind
    rw [List.find?_append]
    have : fs.find? (fun c => decide (c.w = Str.ofString "h0")) = none := by
      rw [List.find?_eq_none]
      intro f hf
      simpa using hP.nh f hf
    rw [this]
    simp [hole]
  have h2 : dem T (hole q.fam).ps [q.v] = some [(Str.ofString "a", q.ix)] := by
    simp only [dem, idxs, hq.ix]
    rw [if_pos (by simp [hole])]
    simp [hole, fitL, fitT, Asg.get, Asg.set]
  simp only [nrB, h1]
  rw [if_pos (by simp [hole]), h2]
  simp only [toldM]
  rfl
/-- a paper with the answer that is due -/
def PapOk (c : CallF) (T : Tab) (fs : List Fun) (d : D) : Prop := ∃ x b, d = .tup [x, .bl b] ∧ ∀ st, c "accepts" [T.d, progD fs, x] st = some (.bl b, st)
section
variable {tbl : Str → Option DefM}
theorem good_ok (B : TblB tbl) {T : Tab} (G : TabG T) {fs : List Fun} (hP : ProgG T fs) {q : K3} (hq : KvOk T 4 q) {n : Nat} (hn : 100 ≤ n) (st : Sto) : runF tbl n "accepts" [T.d, progD (fs ++ [hole q.fam]), .tup [.str "not", .str "h0", .tup [q.v.d]]] st = some (.bl true, st) := by
  obtain ⟨n, rfl⟩ : ∃ k, n = k + 1 := ⟨n - 1, by omega⟩
  have hd := hq.vg.dep
  refine acc_not B (by omega) _ _ _ _ st true (accn_ok B G.ok (prog_hole hP q.fam) "h0" [q.v.d] n (by omega) st (by simp) (fun d hd => ?_) true (.inr ⟨[q.v], ?_, rfl, fun v hv => ?_, (nr_hole hP hq).symm⟩))
  · simp only [List.mem_singleton] at hd
    subst hd
    exact (hq.vg.arg G).ok (by omega)
  · simp only [rawDs, raw_vg hq.vg.w hq.vg.tree, Bool.and_self]
  · simp only [List.mem_singleton] at hv
    subst hv
    exact ⟨⟨hq.vg.w, hq.vg.tree, by omega⟩, by omega⟩
def oddL (g1 g2 v : D) : List D := [.non, .tup [], .str "not", .int 0, .bl true, .dic [] [], .tup [.str "not"], .tup [.str "let"], .lst [.str "not", g1, g2], .tup [.str "not", g1, g2, v], .tup [.str "not", g1], .tup [.str "yes", g1, g2]]
theorem odd_ok (B : TblB tbl) {n : Nat} (hn : 100 ≤ n) (P T g1 g2 v : D) : ∀ d ∈ oddL g1 g2 v, ∀ st, runF tbl n "accepts" [T, P, d] st = some (.bl false, st) := by
  obtain ⟨n, rfl⟩ : ∃ k, n = k + 1 := ⟨n - 1, by omega⟩
  intro d hd st
  have len : ∀ ds : List D, ds.length ≠ 3 → ∀ w : Str, w = Str.ofString "not" ∨ w = Str.ofString "let" → runF tbl n "is_word_row" [.tup ds, .str w, .int 3] st = some (.bl false, st) := fun ds h w _ => iwr_len B (by omega) st (by omega)
  simp only [oddL, List.mem_cons, List.not_mem_nil, or_false] at hd
  rcases hd with rfl | rfl | rfl | rfl | rfl | rfl | rfl | rfl | rfl | rfl | rfl | rfl
  · exact acc_odd B (by omega) _ _ _ st fun w _ => iwr_no B (by omega) st isIn_non_t rfl
  · exact acc_odd B (by omega) _ _ _ st (len _ (by simp))
  · exact acc_odd B (by omega) _ _ _ st fun w _ => iwr_no B (by omega) st (isIn_str_t _) rfl
  · exact acc_odd B (by omega) _ _ _ st fun w _ => iwr_no B (by omega) st (isIn_int_t _) rfl
  · exact acc_odd B (by omega) _ _ _ st fun w _ => iwr_no B (by omega) st (by simp only [isIn, tyName]; rfl) rfl
  · exact acc_odd B (by omega) _ _ _ st fun w _ => iwr_no B (by omega) st (by simp only [isIn, tyName]; rfl) rfl
  · exact acc_odd B (by omega) _ _ _ st (len _ (by simp))
  · exact acc_odd B (by omega) _ _ _ st (len _ (by simp))
  · exact acc_odd B (by omega) _ _ _ st fun w _ => iwr_no B (by omega) st (isIn_lst_t _) rfl
  · exact acc_odd B (by omega) _ _ _ st (len _ (by simp))
  · exact acc_odd B (by omega) _ _ _ st (len _ (by simp))
  · refine acc_odd B (by omega) _ _ _ st fun w hw => ?_
    have := iwr_yes B (n := n) (by omega) (x := "yes") (w := w) (ds := [g1, g2]) (k := 3) st (by simp)
    rw [this, decide_eq_false]
    rcases hw with rfl | rfl
    · exact str_ne (by decide)
    · exact str_ne (by decide)
/-- the state of the law -/
abbrev lS (s0 : D) (T : Tab) (fs : List Fun) (x4 x5 x6 x7 x8 x9 x10 x11 x12 x13 x14 x15 x16 x17 x18 x19 x20 x21 x22 : Sl) (st : Sto) : ES := ⟨[.val s0, .val (.hdl 1), .val T.d, .val (progD fs), x4, x5, x6, x7, x8, x9, x10, x11, x12, x13, x14, x15, x16, x17, x18, x19, x20, x21, x22], st⟩
theorem law3_ok {c : CallF} (s0 : D) (T : Tab) (fs gs : List Fun) (x4 x5 x6 x8 x9 x10 x11 x12 x13 x14 x15 x16 x17 x18 x19 : Sl) (st : Sto) (Q : Fl → ES → Prop) : ∀ (ds : List D) (x20 x21 x22 : Sl), (∀ d ∈ ds, PapOk c T gs d) →
    (∀ x20 x21 x22, Q .nx (lS s0 T fs x4 x5 x6 (.val (progD gs)) x8 x9 x10 x11 x12 x13 x14 x15 x16 x17 x18 x19 x20 x21 x22 st)) →
    FTurns c (.tup (.cons (.v 20) (.cons (.v 21) .nil))) l_law_3 ds (lS s0 T fs x4 x5 x6 (.val (progD gs)) x8 x9 x10 x11 x12 x13 x14 x15 x16 x17 x18 x19 x20 x21 x22 st) Q
  | [], x20, x21, x22, _, q => q x20 x21 x22
  | d :: ds, x20, x21, x22, hd, q => by
    obtain ⟨x, b, rfl, hx⟩ := hd d List.mem_cons_self
    simp only [FTurns, lS]
    simp! [l_law_3]
    refine WCall_of _ (hx st) ?_
    simp! [eqD_bl_self]
    exact law3_ok s0 T fs gs x4 x5 x6 x8 x9 x10 x11 x12 x13 x14 x15 x16 x17 x18 x19 st Q ds _ _ _ (fun d h => hd d (List.mem_cons_of_mem _ h)) q
theorem law2_ok {n : Nat} (B : TblB tbl) (C : TblC tbl) (hn : 100 ≤ n) {T : Tab} (G : TabG T) {fs : List Fun} (hP : ProgG T fs) (s0 : D) (x4 x6 x7 x8 x9 x10 x11 x12 x13 x16 x17 x18 x19 x20 x21 : Sl) (Q : Fl → ES → Prop) : ∀ (ls : List (List (Str × List Tm))) (st : Sto) (x5 x14 x15 x22 : Sl), OkS st → (∀ l ∈ ls, l.length ≤ 500 ∧ ∀ p ∈ l, WG T p) →
    (∀ st' x5 x14 x15 x22, OkS st' → Q .nx (lS s0 T fs x4 x5 x6 x7 x8 x9 x10 x11 x12 x13 x14 x15 x16 x17 x18 x19 x20 x21 x22 st')) →
    FTurns (runF tbl n) (.v 5) l_law_2 (ls.map fun l => D.lst (l.map wD)) (lS s0 T fs x4 x5 x6 x7 x8 x9 x10 x11 x12 x13 x14 x15 x16 x17 x18 x19 x20 x21 x22 st) Q
  | [], st, x5, x14, x15, x22, ho, _, q => q st x5 x14 x15 x22 ho
  | l :: ls, st, x5, x14, x15, x22, ho, hl, q => by
    obtain ⟨hl1, hl2⟩ := hl l List.mem_cons_self
    simp only [List.map_cons, FTurns, lS]
    simp! [l_law_2, List.length_map]
    refine WIf_dec (fun h => ?_) fun h => ?_
    · simp! []
      refine WCall_mono _ (pick_ok C (by omega) _ (l.map wD) (.inl rfl) (by rw [List.length_map]; omega) (by rw [List.length_map]; omega) ho) fun d st1 hd => ?_
      obtain ⟨ho1, hd⟩ := hd
      obtain ⟨p, hp, rfl⟩ := List.mem_map.mp hd
      have hw := hl2 p hp
      obtain ⟨b, h1, h2⟩ := acc_due B G.ok G.uq (prog_of hP) (.str p.1) (.tup (p.2.map Tm.d)) n hn st1 (.inl ⟨_, rfl⟩) ⟨_, .inl rfl, by rw [List.length_map]; have := hw.len; omega, fun d hd => by
        obtain ⟨v, hv, rfl⟩ := List.mem_map.mp hd
        exact ((hw.vg v hv).arg G).ok (by omega)⟩
      simp! [wD]
      refine WCall_of _ h1 ?_
      simp! []
      refine WCall_of _ h2 ?_
      simp! [eqD_bl_self]
      exact law2_ok B C hn G hP s0 x4 x6 x7 x8 x9 x10 x11 x12 x13 x16 x17 x18 x19 x20 x21 Q ls st1 _ _ _ _ ho1 (fun l h => hl l (List.mem_cons_of_mem _ h)) q
    · simp! []
      exact law2_ok B C hn G hP s0 x4 x6 x7 x8 x9 x10 x11 x12 x13 x16 x17 x18 x19 x20 x21 Q ls st _ _ _ _ ho (fun l h => hl l (List.mem_cons_of_mem _ h)) q
end
end Px
/-! A34: the law. -/
namespace Px
open PySem L2 Classical
section
variable {tbl : Str → Option DefM}
def words6 : List D := [.str "f9", .str "K0", .str "", .int 0, .non, .str "f0"]
theorem law1_ok {n : Nat} (B : TblB tbl) (C : TblC tbl) (hn : 100 ≤ n) {T : Tab} (G : TabG T) {fs : List Fun} (hP : ProgG T fs) (s0 : D) (x4 x5 x7 x8 x9 x10 x11 x12 x17 x18 x19 x20 x21 x22 : Sl) (Q : Fl → ES → Prop) : ∀ (ks : List Nat) (st : Sto) (x6 x13 x14 x15 x16 : Sl), OkS st →
    (∀ st' x6 x13 x14 x15 x16, OkS st' → Q .nx (lS s0 T fs x4 x5 x6 x7 x8 x9 x10 x11 x12 x13 x14 x15 x16 x17 x18 x19 x20 x21 x22 st')) →
    FTurns (runF tbl n) (.v 6) l_law_1 (ks.map fun i : Nat => D.int (0 + i)) (lS s0 T fs x4 x5 x6 x7 x8 x9 x10 x11 x12 x13 x14 x15 x16 x17 x18 x19 x20 x21 x22 st) Q
  | [], st, x6, x13, x14, x15, x16, ho, q => q st x6 x13 x14 x15 x16 ho
  | k :: ks, st, x6, x13, x14, x15, x16, ho, q => by
    have hfl := hP.len
    have hfp := hP.pos
    have next : ∀ (st' : Sto) (x6 x13 x14 x15 x16 : Sl), OkS st' → FTurns (runF tbl n) (.v 6) l_law_1 (ks.map fun i : Nat => D.int (0 + i)) (lS s0 T fs x4 x5 x6 x7 x8 x9 x10 x11 x12 x13 x14 x15 x16 x17 x18 x19 x20 x21 x22 st') Q :=
      fun st' x6 x13 x14 x15 x16 h => law1_ok B C hn G hP s0 x4 x5 x7 x8 x9 x10 x11 x12 x17 x18 x19 x20 x21 x22 Q ks st' x6 x13 x14 x15 x16 h q
    -- from the word on
    have t3 : ∀ (w : D) (ds : List D) (st' : Sto) (x13 : Sl) (rd : Bool), OkS st' → ((∃ x, w = .str x) ∨ w = .int 0 ∨ w = .non) → ds.length ≤ 100 → (∀ e ∈ ds, ArgB 12 e) →
        WS (runF tbl n) (.asg (.v 16) (.call "accepts" (.cons (.var 2) (.cons (.var 3) (.cons (.tup (.cons (.str "not") (.cons (.var 15) (.cons (.var 14) .nil)))) .nil)))))
          (lS s0 T fs x4 x5 (.val (.int (0 + (k : Int)))) x7 x8 x9 x10 x11 x12 x13 (if rd then .val (.tup ds) else .own (.lst ds)) (.val w) x16 x17 x18 x19 x20 x21 x22 st')
          (seqQ (runF tbl n) (.cons (.ifS (.orT (.notT (.val (.isI (.s 16) "bool"))) (.oneT (.cmp .NotEq (.s 16) (.e (.call "_law_due" (.cons (.var 2) (.cons (.var 3) (.cons (.var 15) (.cons (.var 14) .nil)))))))))
            (.cons (.ret (.bl false)) .nil) .nil) .nil) (forQ (fun S => FTurns (runF tbl n) (.v 6) l_law_1 (ks.map fun i : Nat => D.int (0 + i)) S Q) Q)) := by
      intro w ds st' x13 rd ho' hw hl hd
      cases rd with
      | true =>
        obtain ⟨b, h1, h2⟩ := acc_due B G.ok G.uq (prog_of hP) w (.tup ds) n hn st' hw ⟨ds, .inl rfl, by omega, fun e he => (hd e he).ok (by omega)⟩
        simp! []
        refine WCall_of _ h1 ?_
        simp! []
        refine WCall_of _ h2 ?_
        simp! [eqD_bl_self]
        exact next st' _ _ _ _ _ ho'
      | false =>
        obtain ⟨b, h1, h2⟩ := acc_due B G.ok G.uq (prog_of hP) w (.lst ds) n hn st' hw ⟨ds, .inr rfl, by omega, fun e he => (hd e he).ok (by omega)⟩
        simp! [Bool.false_eq_true]
        refine WCall_of _ h1 ?_
        simp! []
        refine WCall_of _ h2 ?_
        simp! [eqD_bl_self]
        exact next st' _ _ _ _ _ ho'
    have t2 : ∀ (w : D) (ds : List D) (st' : Sto) (x13 : Sl), OkS st' → ((∃ x, w = .str x) ∨ w = .int 0 ∨ w = .non) → ds.length ≤ 100 → (∀ e ∈ ds, ArgB 12 e) →
        WS (runF tbl n) (.ifS (.cmp .Eq (.e (.call "_law_draw" (.cons (.var 1) (.cons (.int 24) .nil)))) (.e (.int 0))) (.cons (.asgL 14 (.ofP (.s 14))) .nil) .nil)
          (lS s0 T fs x4 x5 (.val (.int (0 + (k : Int)))) x7 x8 x9 x10 x11 x12 x13 (.val (.tup ds)) (.val w) x16 x17 x18 x19 x20 x21 x22 st')
          (seqQ (runF tbl n) (.cons (.asg (.v 16) (.call "accepts" (.cons (.var 2) (.cons (.var 3) (.cons (.tup (.cons (.str "not") (.cons (.var 15) (.cons (.var 14) .nil)))) .nil)))))
            (.cons (.ifS (.orT (.notT (.val (.isI (.s 16) "bool"))) (.oneT (.cmp .NotEq (.s 16) (.e (.call "_law_due" (.cons (.var 2) (.cons (.var 3) (.cons (.var 15) (.cons (.var 14) .nil)))))))))
            (.cons (.ret (.bl false)) .nil) .nil) .nil)) (forQ (fun S => FTurns (runF tbl n) (.v 6) l_law_1 (ks.map fun i : Nat => D.int (0 + i)) S Q) Q)) := by
      intro w ds st' x13 ho' hw hl hd
      simp! []
      refine WCall_mono _ (draw_ok C (by omega) 24 (by decide) (by decide) ho') fun e st2 he => ?_
      obtain ⟨ho2, v, rfl, hv1, hv2⟩ := he
      simp! []
      refine WIf_dec (fun h => ?_) fun h => ?_
      · have f := t3 w ds st2 x13 false ho2 hw hl hd
        simp! [Bool.false_eq_true] at f
        simp! []
        exact f
      · have f := t3 w ds st2 x13 true ho2 hw hl hd
        simp! [] at f
        simp! []
        exact f
    simp only [List.map_cons, FTurns, lS]
    simp! [l_law_1, progD]
    refine WCall_mono _ (pick_ok C (by omega) _ (fs.map Fun.d) (.inr rfl) (by rw [List.length_map]; omega) (by rw [List.length_map]; omega) ho) fun d st1 hd => ?_
    obtain ⟨ho1, hd⟩ := hd
    obtain ⟨f, hf, rfl⟩ := List.mem_map.mp hd
    simp! []
    refine WCall_mono _ (vfor_ok C (by omega) G f (hP.full f hf).ok (hP.np f hf) ho1) fun d st2 hd => ?_
    obtain ⟨ho2, ds, rfl, hl, hds⟩ := hd
    simp! [Fun.d]
    refine WCall_mono _ (draw_ok C (by omega) 16 (by decide) (by decide) ho2) fun e st3 he => ?_
    obtain ⟨ho3, v, rfl, hv1, hv2⟩ := he
    simp! []
    refine WIf_dec (fun h => ?_) fun h => ?_
    · simp! []
      refine WCall_mono _ (pick_ok C (by omega) _ words6 (.inl rfl) (by simp [words6]) (by simp [words6]) ho3) fun d st4 hd => ?_
      obtain ⟨ho4, hd⟩ := hd
      have hw : (∃ x, d = .str x) ∨ d = .int 0 ∨ d = .non := by
        simp only [words6, List.mem_cons, List.not_mem_nil, or_false] at hd
        rcases hd with rfl | rfl | rfl | rfl | rfl | rfl
        · exact .inl ⟨_, rfl⟩
        · exact .inl ⟨_, rfl⟩
        · exact .inl ⟨_, rfl⟩
        · exact .inr (.inl rfl)
        · exact .inr (.inr rfl)
        · exact .inl ⟨_, rfl⟩
      have g := t2 d ds st4 (.val f.d) ho4 hw hl hds
      simp! [progD, Fun.d] at g
      simp! []
      exact g
    · have g := t2 (.str f.w) ds st3 (.val f.d) ho3 (.inl ⟨_, rfl⟩) hl hds
      simp! [progD, Fun.d] at g
      simp! []
      exact g
theorem table_G (C : TblC tbl) {n : Nat} (hn : 3 ≤ n) {st : Sto} (hs : OkS st) : WCall (runF tbl n) "_law_table" [.hdl 1] st fun d st' => OkS st' ∧ ∃ T : Tab, d = T.d ∧ TabG T ∧ 0 < T.fams.length ∧ T.fams.length ≤ 4 :=
  WCall_mono _ (table_ok C hn hs) fun d st' ⟨h1, T, h2, h3, h4, h5, h6, h7, h8, h9⟩ => ⟨h1, T, h2, ⟨h3, h4, h5, h6, h7⟩, h8, h9⟩
theorem cutD_2 (l : List D) : cutD l none (some 2) = l.take 2 := cutD_take l 2
theorem law_ok (B : TblB tbl) (C : TblC tbl) {n : Nat} (hn : 101 ≤ n) (ns : List Int) (hl : ns.length ≤ 63) : WCall (runF tbl n) "law" [.scr ns] [] fun d _ => d = .bl true := by
  obtain ⟨n, rfl⟩ : ∃ k, n = k + 1 := ⟨n - 1, by omega⟩
  refine WCall_run C.law rfl ?_
  simp only [m_law]
  simp! []
  refine WCall_mono _ (state_ok C (by omega) ns hl) fun d st1 hd => ?_
  obtain ⟨rfl, ho1⟩ := hd
  simp! []
  refine WCall_mono _ (table_G C (by omega) ho1) fun d st2 hd => ?_
  obtain ⟨ho2, T, rfl, G, hf, hf4⟩ := hd
  simp! []
  refine WCall_mono _ (program_ok C (by omega) G hf hf4 ho2) fun d st3 hd => ?_
  obtain ⟨ho3, fs, rfl, hP⟩ := hd
  simp! []
  refine WCall_mono _ (values_ok B.toTblA C G (by omega) st3) fun d st4 hd => ?_
  obtain ⟨rfl, K, rfl, hK, hKv⟩ := hd
  -- from the wrong ones on
  have tail : ∀ (st : Sto) (x6 x7 x8 x9 x10 x17 x18 x19 x20 x21 x22 : Sl), OkS st → WS (runF tbl n) (.asg (.tup (.cons (.v 11) (.cons (.v 12) .nil))) (.call "_law_wrong_ones" (.cons (.var 2) (.cons (.var 3) (.cons (.var 4) .nil)))))
      (lS (.scr ns) T fs (.val (.lst (K.map k3D))) .no x6 x7 x8 x9 x10 .no .no .no .no .no .no x17 x18 x19 x20 x21 x22 st)
      (seqQ (runF tbl n) (.cons (.forS (.v 5) (.p (.l (.disp (.cons (.var 11) (.cons (.var 12) (.cons (.var 11) .nil)))))) l_law_2)
        (.cons (.forS (.v 6) (.rng1 (.int 12)) l_law_1) (.cons (.ret (.bl true)) .nil))) (endQ fun d _ => d = .bl true)) := by
    intro st x6 x7 x8 x9 x10 x17 x18 x19 x20 x21 x22 ho
    simp! []
    refine WCall_mono _ (wrong_ok B.toTblA C (by omega) G hP K hK hKv st) fun d st5 hd => ?_
    obtain ⟨rfl, wr, rt, rfl, hwl, hw, hr⟩ := hd
    simp! []
    refine WS_for _ _ _ _ _ _ ?_
    simp! []
    have h2 := law2_ok B C (n := n) (by omega) G hP (.scr ns) (.val (.lst (K.map k3D))) x6 x7 x8 x9 x10 (.val (.lst (wr.map wD))) (.val (.lst (rt.map wD))) .no .no x17 x18 x19 x20 x21 (seqQ (runF tbl n) (.cons (.forS (.v 6) (.rng1 (.int 12)) l_law_1) (.cons (.ret (.bl true)) .nil)) (endQ fun d _ => d = .bl true)) [wr, rt, wr] st5 .no .no .no x22 ho (fun l hl => by
      simp only [List.mem_cons, List.not_mem_nil, or_false] at hl
      rcases hl with rfl | rfl | rfl
      · exact ⟨by omega, hw⟩
      · exact ⟨by omega, hr⟩
      · exact ⟨by omega, hw⟩) fun st6 x5 x14 x15 x22 ho6 => by
      simp! []
      refine WS_for _ _ _ _ _ _ ?_
      simp! []
      rw [if_pos (by decide)]
      simp! [rngD_eq]
      refine law1_ok B C (by omega) G hP _ _ _ _ _ _ _ _ _ _ _ _ _ _ _ _ (List.range (Int.toNat 12)) st6 _ _ _ _ _ ho6 fun st7 x6 x13 x14 x15 x16 ho7 => ?_
      simp! []
    exact h2
  simp! [List.length_map]
  refine WIf_dec (fun hpos => ?_) fun hpos => ?_
  · simp! []
    refine WCall_mono _ (pick_ok C (by omega) _ (K.map k3D) (.inl rfl) (by rw [List.length_map]; omega) (by rw [List.length_map]; omega) ho3) fun d st5 hd => ?_
    obtain ⟨ho5, hd⟩ := hd
    obtain ⟨q, hq, rfl⟩ := List.mem_map.mp hd
    have hfl := hP.len
    simp! [k3D, progD, List.length_map]
    rw [if_pos (by unfold sizeLine; omega)]
    have ep : D.tup [D.str "program", D.tup (fs.map Fun.d ++ [D.tup [.str "h0", .tup [.tup [.str q.fam, .str "a"]], .str q.fam, .str "a", .int 0, .tup []]])] = progD (fs ++ [hole q.fam]) := by
      simp [progD, hole, Fun.d, prD, Tm.d_nm]
    simp! []
    rw [if_pos (by unfold sizeLine; decide)]
    simp! [cutD_2, List.take_succ_cons, List.take_zero]
    rw [ep]
    rw [if_pos (by unfold sizeLine; decide)]
    simp! []
    refine WCall_mono _ (pick_ok C (by omega) _ (oddL (.str "h0") (.tup [q.v.d]) q.v.d) (.inl rfl) (by simp [oddL]) (by simp [oddL]) ho5) fun d1 st6 hd1 => ?_
    obtain ⟨ho6, hd1⟩ := hd1
    simp! []
    refine WCall_mono _ (pick_ok C (by omega) _ (oddL (.str "h0") (.tup [q.v.d]) q.v.d) (.inl rfl) (by simp [oddL]) (by simp [oddL]) ho6) fun d2 st7 hd2 => ?_
    obtain ⟨ho7, hd2⟩ := hd2
    simp! []
    refine WCall_mono _ (draw_ok C (by omega) 4 (by decide) (by decide) ho7) fun e st8 he => ?_
    obtain ⟨ho8, v, rfl, hv1, hv2⟩ := he
    simp! []
    refine WS_for _ _ _ _ _ _ ?_
    have hv : v = ((v.toNat : Nat) : Int) := by omega
    have hpap : ∀ d ∈ [D.tup [.tup [.str "not", .str "h0", .tup [q.v.d]], .bl true], .tup [d1, .bl false], .tup [d2, .bl false], .tup [.tup [.str "not", .str "h0", .tup [q.v.d]], .bl true]], PapOk (runF tbl n) T (fs ++ [hole q.fam]) d := by
      intro d hd
      simp only [List.mem_cons, List.not_mem_nil, or_false] at hd
      have hodd := odd_ok B (n := n) (by omega) (progD (fs ++ [hole q.fam])) T.d (.str "h0") (.tup [q.v.d]) q.v.d
      rcases hd with rfl | rfl | rfl | rfl
      · exact ⟨_, true, rfl, fun st => good_ok B G hP (hKv q hq) (by omega) st⟩
      · exact ⟨_, false, rfl, hodd d1 hd1⟩
      · exact ⟨_, false, rfl, hodd d2 hd2⟩
      · exact ⟨_, true, rfl, fun st => good_ok B G hP (hKv q hq) (by omega) st⟩
    generalize hask : [D.tup [.tup [.str "not", .str "h0", .tup [q.v.d]], .bl true], .tup [d1, .bl false], .tup [d2, .bl false], .tup [.tup [.str "not", .str "h0", .tup [q.v.d]], .bl true]] = ask at hpap
    have hal : ask.length = 4 := by rw [← hask]; rfl
    rw [hv]
    simp! [cutD_drop, cutD_take]
    rw [if_pos (by rw [List.length_drop, List.length_take]; unfold sizeLine; omega)]
    have h3 := law3_ok (c := runF tbl n) (.scr ns) T fs (fs ++ [hole q.fam]) (.val (.lst (K.map k3D))) .no (.val (.int ((v.toNat : Nat) : Int)))
    simp! []
    refine h3 _ _ _ _ _ _ _ _ _ _ _ _ st8 _ (ask.drop v.toNat ++ ask.take v.toNat) _ _ _ (fun d hd => ?_) fun x20 x21 x22 => ?_
    · rcases List.mem_append.mp hd with hd | hd
      · exact hpap d (List.mem_of_mem_drop hd)
      · exact hpap d (List.mem_of_mem_take hd)
    have f := tail st8 (.val (.int ((v.toNat : Nat) : Int))) (.val (progD (fs ++ [hole q.fam]))) (.val (.tup [.str "not", .str "h0", .tup [q.v.d]])) (.val (.lst (oddL (.str "h0") (.tup [q.v.d]) q.v.d))) (.own (.lst ask)) (.val q.v.d) (.val (.str q.fam)) (.val q.ix.d) x20 x21 x22 ho8
    simp! [] at f
    simp! []
    exact f
  · have f := tail st4 .no .no .no .no .no .no .no .no .no .no .no ho3
    simp! [] at f
    simp! []
    exact f
end
end Px
namespace Px
open PySem PySem.Spec PyProof.Rows L2
def mkD (x y : Str) (i : Nat) : He.DefD := ⟨(x, none), y, y, defArgs (top i), defBody (top i), defScope (top i), [], []⟩
def fn0 : List He.DefD := [mkD "put" "put" 2, mkD "fitted" "fitted" 4, mkD "constructor_of" "constructor_of" 10, mkD "function_of" "function_of" 30, mkD "taken" "taken" 32, mkD "clause_for" "clause_for" 33, mkD "is_raw" "is_raw" 48, mkD "index_of" "index_of" 49, mkD "demanded" "demanded" 50, mkD "head_of" "head_of" 52, mkD "reckoned" "reckoned" 53, mkD "told_index" "told_index" 54, mkD "told" "told" 55, mkD "is_word_row" "is_word_row" 70, mkD "accepts" "accepts" 72, mkD "accepts_not" "accepts_not" 73]
def fn1 : List He.DefD := [mkD "_law_state" "_law_state" 77, mkD "_law_draw" "_law_draw" 78, mkD "_law_pick" "_law_pick" 79, mkD "_law_shape" "_law_shape" 80, mkD "_law_table" "_law_table" 81, mkD "_law_constructors" "_law_constructors" 82, mkD "_law_heads" "_law_heads" 83, mkD "_law_deeper" "_law_deeper" 84, mkD "_law_patterns" "_law_patterns" 85, mkD "_law_names_at" "_law_names_at" 86, mkD "_law_named" "_law_named" 87, mkD "_law_call" "_law_call" 88, mkD "_law_made" "_law_made" 89, mkD "_law_body" "_law_body" 90, mkD "_law_copy" "_law_copy" 91, mkD "_law_program" "_law_program" 92]
def fn2 : List He.DefD := [mkD "_law_fit" "_law_fit" 93, mkD "_law_put" "_law_put" 94, mkD "_law_index" "_law_index" 95, mkD "_law_taken" "_law_taken" 96, mkD "_law_clause" "_law_clause" 97, mkD "_law_head" "_law_head" 98, mkD "_law_reckoned" "_law_reckoned" 99, mkD "_law_told" "_law_told" 100, mkD "_law_grown" "_law_grown" 101, mkD "_law_values" "_law_values" 102, mkD "_law_asked" "_law_asked" 103, mkD "_law_wrong_ones" "_law_wrong_ones" 104, mkD "_law_raw" "_law_raw" 105, mkD "_law_not_right" "_law_not_right" 106, mkD "_law_thing" "_law_thing" 107, mkD "_law_is_raw" "_law_is_raw" 108]
def fn3 : List He.DefD := [mkD "_law_due" "_law_due" 109, mkD "_law_values_for" "_law_values_for" 110, mkD "law" "law" 111, mkD "put_indices" "put" 2]
def fn : List He.DefD := fn0 ++ fn1 ++ fn2 ++ fn3
def fa0 : List He.Fa := [.glo "put", .glo "fitted", .glo "constructor_of", .glo "function_of", .glo "taken", .glo "clause_for", .glo "is_raw", .glo "index_of", .glo "demanded", .glo "head_of", .glo "reckoned", .glo "told_index", .glo "told", .glo "is_word_row", .glo "accepts", .glo "accepts_not"]
def fa1 : List He.Fa := [.glo "_law_state", .glo "_law_draw", .glo "_law_pick", .glo "_law_shape", .glo "_law_table", .glo "_law_constructors", .glo "_law_heads", .glo "_law_deeper", .glo "_law_patterns", .glo "_law_names_at", .glo "_law_named", .glo "_law_call", .glo "_law_made", .glo "_law_body", .glo "_law_copy", .glo "_law_program"]
def fa2 : List He.Fa := [.glo "_law_fit", .glo "_law_put", .glo "_law_index", .glo "_law_taken", .glo "_law_clause", .glo "_law_head", .glo "_law_reckoned", .glo "_law_told", .glo "_law_grown", .glo "_law_values", .glo "_law_asked", .glo "_law_wrong_ones", .glo "_law_raw", .glo "_law_not_right", .glo "_law_thing", .glo "_law_is_raw"]
def fa3 : List He.Fa := [.glo "_law_due", .glo "_law_values_for", .glo "law", .glo "put_indices", .free "len", .free "isinstance", .free "int", .free "str", .free "abs", .free "max", .free "tuple", .free "all", .free "list", .free "zip", .free "enumerate", .free "range"]
def fa4 : List He.Fa := [.free "bool", .free "dict"]
def fa : List He.Fa := fa0 ++ fa1 ++ fa2 ++ fa3 ++ fa4
abbrev RR : PySem.W.OpenRow := PySem.W.OpenLaw.row PySem.Challenge.rw_exactkinds_k51_papers_of_wrong_values
abbrev hk : PySem.W.Hook := He.hookD 2 fa fn
def ob (s : PySem.W.SharedT) : He.AlD := He.obsDG 2 fa fn (HandSHeadRun.getT s)
theorem ob_eq (s : PySem.W.SharedT) : ob s = hk.obs s.abs := He.obsDG_eq (HandSHeadRun.getT_eq s)
def names0 : List PySem.Str := ["names_of", "put", "put_indices", "fitted", "followed", "occurs", "resolved", "unified", "constructor_of", "constructors_of", "choices", "key_of", "is_group", "steps_of", "state_by", "holding"]
def names1 : List PySem.Str := ["into", "words_in", "leasts", "variants", "seconds", "is_single", "state_in", "opened", "function_of", "names_in", "taken", "clause_for", "made_by", "Opened", "indices_of", "context"]
def names2 : List PySem.Str := ["beside", "numbered", "filled", "filled_pattern", "number_of", "family_at", "split", "first", "is_raw", "index_of", "demanded", "head_of", "reckoned", "told_index", "told", "paths_of"]
def names3 : List PySem.Str := ["task_of", "put_all", "is_number", "is_step", "is_formed", "is_kept", "is_model", "Goal", "goal_of", "is_never", "names_in_context", "is_word_row", "is_place", "accepts", "accepts_not", "Checker"]
def names4 : List PySem.Str := ["fits_first", "_law_state", "_law_draw", "_law_pick", "_law_shape", "_law_table", "_law_constructors", "_law_heads", "_law_deeper", "_law_patterns", "_law_names_at", "_law_named", "_law_call", "_law_made", "_law_body", "_law_copy"]
def names5 : List PySem.Str := ["_law_program", "_law_fit", "_law_put", "_law_index", "_law_taken", "_law_clause", "_law_head", "_law_reckoned", "_law_told", "_law_grown", "_law_values", "_law_asked", "_law_wrong_ones", "_law_raw", "_law_not_right", "_law_thing"]
def names6 : List PySem.Str := ["_law_is_raw", "_law_due", "_law_values_for"]
def names : List PySem.Str := names0 ++ names1 ++ names2 ++ names3 ++ names4 ++ names5 ++ names6

end Px
namespace Px
open PySem PySem.Spec PyProof.Rows L2
theorem run (w : World) : HandSHeadRun.RunEq RR (PySem.W.view RR.prog [111]) hk ob 20000 names w := by
  intro os
  kernel_rfl

end Px
namespace Px
open PySem PySem.Spec PyProof.Rows L2
theorem sc_put : FnScope N_put ["term", "assignment"] (defScope (top 2)) := ⟨rfl, rfl, rfl, by decide +kernel, rfl, by decide +kernel, by decide +kernel⟩
theorem sc_fitted : FnScope N_fitted ["patterns", "terms"] (defScope (top 4)) := ⟨rfl, rfl, rfl, by decide +kernel, rfl, by decide +kernel, by decide +kernel⟩
theorem sc_constructor_of : FnScope N_constructor_of ["table", "word"] (defScope (top 10)) := ⟨rfl, rfl, rfl, by decide +kernel, rfl, by decide +kernel, by decide +kernel⟩
theorem sc_function_of : FnScope N_function_of ["program", "word"] (defScope (top 30)) := ⟨rfl, rfl, rfl, by decide +kernel, rfl, by decide +kernel, by decide +kernel⟩
theorem sc_taken : FnScope N_taken ["patterns", "values"] (defScope (top 32)) := ⟨rfl, rfl, rfl, by decide +kernel, rfl, by decide +kernel, by decide +kernel⟩
theorem sc_clause_for : FnScope N_clause_for ["function", "values"] (defScope (top 33)) := ⟨rfl, rfl, rfl, by decide +kernel, rfl, by decide +kernel, by decide +kernel⟩
theorem sc_is_raw : FnScope N_is_raw ["table", "value"] (defScope (top 48)) := ⟨rfl, rfl, rfl, by decide +kernel, rfl, by decide +kernel, by decide +kernel⟩
theorem sc_index_of : FnScope N_index_of ["table", "value"] (defScope (top 49)) := ⟨rfl, rfl, rfl, by decide +kernel, rfl, by decide +kernel, by decide +kernel⟩
theorem sc_demanded : FnScope N_demanded ["table", "function", "values"] (defScope (top 50)) := ⟨rfl, rfl, rfl, by decide +kernel, rfl, by decide +kernel, by decide +kernel⟩
theorem sc_head_of : FnScope N_head_of ["table", "program", "word"] (defScope (top 52)) := ⟨rfl, rfl, rfl, by decide +kernel, rfl, by decide +kernel, by decide +kernel⟩
theorem sc_reckoned : FnScope N_reckoned ["table", "program", "body", "trees", "way"] (defScope (top 53)) := ⟨rfl, rfl, rfl, by decide +kernel, rfl, by decide +kernel, by decide +kernel⟩
theorem sc_told_index : FnScope N_told_index ["table", "program", "word", "clause", "trees"] (defScope (top 54)) := ⟨rfl, rfl, rfl, by decide +kernel, rfl, by decide +kernel, by decide +kernel⟩
theorem sc_told : FnScope N_told ["table", "program", "word", "values"] (defScope (top 55)) := ⟨rfl, rfl, rfl, by decide +kernel, rfl, by decide +kernel, by decide +kernel⟩
theorem sc_is_word_row : FnScope N_is_word_row ["value", "word", "size"] (defScope (top 70)) := ⟨rfl, rfl, rfl, by decide +kernel, rfl, by decide +kernel, by decide +kernel⟩
theorem sc_accepts : FnScope N_accepts ["table", "program", "value"] (defScope (top 72)) := ⟨rfl, rfl, rfl, by decide +kernel, rfl, by decide +kernel, by decide +kernel⟩
theorem sc_accepts_not : FnScope N_accepts_not ["table", "program", "value"] (defScope (top 73)) := ⟨rfl, rfl, rfl, by decide +kernel, rfl, by decide +kernel, by decide +kernel⟩
theorem sc__law_state : FnScope N__law_state ["script"] (defScope (top 77)) := ⟨rfl, rfl, rfl, by decide +kernel, rfl, by decide +kernel, by decide +kernel⟩
theorem sc__law_draw : FnScope N__law_draw ["state", "many"] (defScope (top 78)) := ⟨rfl, rfl, rfl, by decide +kernel, rfl, by decide +kernel, by decide +kernel⟩
theorem sc__law_pick : FnScope N__law_pick ["state", "row"] (defScope (top 79)) := ⟨rfl, rfl, rfl, by decide +kernel, rfl, by decide +kernel, by decide +kernel⟩
theorem sc__law_shape : FnScope N__law_shape ["kind", "own", "other", "third"] (defScope (top 80)) := ⟨rfl, rfl, rfl, by decide +kernel, rfl, by decide +kernel, by decide +kernel⟩
theorem sc__law_table : FnScope N__law_table ["state"] (defScope (top 81)) := ⟨rfl, rfl, rfl, by decide +kernel, rfl, by decide +kernel, by decide +kernel⟩
theorem sc__law_constructors : FnScope N__law_constructors ["table", "family"] (defScope (top 82)) := ⟨rfl, rfl, rfl, by decide +kernel, rfl, by decide +kernel, by decide +kernel⟩
theorem sc__law_heads : FnScope N__law_heads ["state", "table"] (defScope (top 83)) := ⟨rfl, rfl, rfl, by decide +kernel, rfl, by decide +kernel, by decide +kernel⟩
theorem sc__law_deeper : FnScope N__law_deeper ["state", "table", "row", "first_v"] (defScope (top 84)) := ⟨rfl, rfl, rfl, by decide +kernel, rfl, by decide +kernel, by decide +kernel⟩
theorem sc__law_patterns : FnScope N__law_patterns ["state", "table", "head"] (defScope (top 85)) := ⟨rfl, rfl, rfl, by decide +kernel, rfl, by decide +kernel, by decide +kernel⟩
theorem sc__law_names_at : FnScope N__law_names_at ["table", "pattern", "family"] (defScope (top 86)) := ⟨rfl, rfl, rfl, by decide +kernel, rfl, by decide +kernel, by decide +kernel⟩
theorem sc__law_named : FnScope N__law_named ["table", "head", "patterns"] (defScope (top 87)) := ⟨rfl, rfl, rfl, by decide +kernel, rfl, by decide +kernel, by decide +kernel⟩
theorem sc__law_call : FnScope N__law_call ["state", "table", "heads", "k", "j", "known", "deep"] (defScope (top 88)) := ⟨rfl, rfl, rfl, by decide +kernel, rfl, by decide +kernel, by decide +kernel⟩
theorem sc__law_made : FnScope N__law_made ["state", "table", "heads", "k", "known", "row", "deep"] (defScope (top 89)) := ⟨rfl, rfl, rfl, by decide +kernel, rfl, by decide +kernel, by decide +kernel⟩
theorem sc__law_body : FnScope N__law_body ["state", "table", "heads", "k", "known", "family", "deep"] (defScope (top 90)) := ⟨rfl, rfl, rfl, by decide +kernel, rfl, by decide +kernel, by decide +kernel⟩
theorem sc__law_copy : FnScope N__law_copy ["state", "heads", "k", "patterns", "known"] (defScope (top 91)) := ⟨rfl, rfl, rfl, by decide +kernel, rfl, by decide +kernel, by decide +kernel⟩
theorem sc__law_program : FnScope N__law_program ["state", "table"] (defScope (top 92)) := ⟨rfl, rfl, rfl, by decide +kernel, rfl, by decide +kernel, by decide +kernel⟩
theorem sc__law_fit : FnScope N__law_fit ["patterns", "trees"] (defScope (top 93)) := ⟨rfl, rfl, rfl, by decide +kernel, rfl, by decide +kernel, by decide +kernel⟩
theorem sc__law_put : FnScope N__law_put ["term", "trees"] (defScope (top 94)) := ⟨rfl, rfl, rfl, by decide +kernel, rfl, by decide +kernel, by decide +kernel⟩
theorem sc__law_index : FnScope N__law_index ["table", "value"] (defScope (top 95)) := ⟨rfl, rfl, rfl, by decide +kernel, rfl, by decide +kernel, by decide +kernel⟩
theorem sc__law_taken : FnScope N__law_taken ["patterns", "values"] (defScope (top 96)) := ⟨rfl, rfl, rfl, by decide +kernel, rfl, by decide +kernel, by decide +kernel⟩
theorem sc__law_clause : FnScope N__law_clause ["function", "values"] (defScope (top 97)) := ⟨rfl, rfl, rfl, by decide +kernel, rfl, by decide +kernel, by decide +kernel⟩
theorem sc__law_head : FnScope N__law_head ["table", "program", "word"] (defScope (top 98)) := ⟨rfl, rfl, rfl, by decide +kernel, rfl, by decide +kernel, by decide +kernel⟩
theorem sc__law_reckoned : FnScope N__law_reckoned ["table", "program", "body", "trees", "way"] (defScope (top 99)) := ⟨rfl, rfl, rfl, by decide +kernel, rfl, by decide +kernel, by decide +kernel⟩
theorem sc__law_told : FnScope N__law_told ["table", "program", "function", "values", "trees"] (defScope (top 100)) := ⟨rfl, rfl, rfl, by decide +kernel, rfl, by decide +kernel, by decide +kernel⟩
theorem sc__law_grown : FnScope N__law_grown ["table", "known", "most"] (defScope (top 101)) := ⟨rfl, rfl, rfl, by decide +kernel, rfl, by decide +kernel, by decide +kernel⟩
theorem sc__law_values : FnScope N__law_values ["table", "rounds", "most"] (defScope (top 102)) := ⟨rfl, rfl, rfl, by decide +kernel, rfl, by decide +kernel, by decide +kernel⟩
theorem sc__law_asked : FnScope N__law_asked ["function", "known", "most"] (defScope (top 103)) := ⟨rfl, rfl, rfl, by decide +kernel, rfl, by decide +kernel, by decide +kernel⟩
theorem sc__law_wrong_ones : FnScope N__law_wrong_ones ["table", "program", "known"] (defScope (top 104)) := ⟨rfl, rfl, rfl, by decide +kernel, rfl, by decide +kernel, by decide +kernel⟩
theorem sc__law_raw : FnScope N__law_raw ["state", "table", "family", "deep"] (defScope (top 105)) := ⟨rfl, rfl, rfl, by decide +kernel, rfl, by decide +kernel, by decide +kernel⟩
theorem sc__law_not_right : FnScope N__law_not_right ["table", "program", "word", "values"] (defScope (top 106)) := ⟨rfl, rfl, rfl, by decide +kernel, rfl, by decide +kernel, by decide +kernel⟩
theorem sc__law_thing : FnScope N__law_thing ["state", "value"] (defScope (top 107)) := ⟨rfl, rfl, rfl, by decide +kernel, rfl, by decide +kernel, by decide +kernel⟩
theorem sc__law_is_raw : FnScope N__law_is_raw ["table", "value"] (defScope (top 108)) := ⟨rfl, rfl, rfl, by decide +kernel, rfl, by decide +kernel, by decide +kernel⟩
theorem sc__law_due : FnScope N__law_due ["table", "program", "word", "values"] (defScope (top 109)) := ⟨rfl, rfl, rfl, by decide +kernel, rfl, by decide +kernel, by decide +kernel⟩
theorem sc__law_values_for : FnScope N__law_values_for ["state", "table", "function"] (defScope (top 110)) := ⟨rfl, rfl, rfl, by decide +kernel, rfl, by decide +kernel, by decide +kernel⟩
theorem sc_law : FnScope N_law ["script"] (defScope (top 111)) := ⟨rfl, rfl, rfl, by decide +kernel, rfl, by decide +kernel, by decide +kernel⟩
def tblL0 : List (Str × DefM) := [("put", m_put), ("fitted", m_fitted), ("constructor_of", m_constructor_of), ("function_of", m_function_of), ("taken", m_taken), ("clause_for", m_clause_for), ("is_raw", m_is_raw), ("index_of", m_index_of), ("demanded", m_demanded), ("head_of", m_head_of), ("reckoned", m_reckoned), ("told_index", m_told_index), ("told", m_told), ("is_word_row", m_is_word_row), ("accepts", m_accepts), ("accepts_not", m_accepts_not)]
def tblL1 : List (Str × DefM) := [("_law_state", m__law_state), ("_law_draw", m__law_draw), ("_law_pick", m__law_pick), ("_law_shape", m__law_shape), ("_law_table", m__law_table), ("_law_constructors", m__law_constructors), ("_law_heads", m__law_heads), ("_law_deeper", m__law_deeper), ("_law_patterns", m__law_patterns), ("_law_names_at", m__law_names_at), ("_law_named", m__law_named), ("_law_call", m__law_call), ("_law_made", m__law_made), ("_law_body", m__law_body), ("_law_copy", m__law_copy), ("_law_program", m__law_program)]
def tblL2 : List (Str × DefM) := [("_law_fit", m__law_fit), ("_law_put", m__law_put), ("_law_index", m__law_index), ("_law_taken", m__law_taken), ("_law_clause", m__law_clause), ("_law_head", m__law_head), ("_law_reckoned", m__law_reckoned), ("_law_told", m__law_told), ("_law_grown", m__law_grown), ("_law_values", m__law_values), ("_law_asked", m__law_asked), ("_law_wrong_ones", m__law_wrong_ones), ("_law_raw", m__law_raw), ("_law_not_right", m__law_not_right), ("_law_thing", m__law_thing), ("_law_is_raw", m__law_is_raw)]
def tblL3 : List (Str × DefM) := [("_law_due", m__law_due), ("_law_values_for", m__law_values_for), ("law", m_law), ("put_indices", m_put)]
def tblL : List (Str × DefM) := tblL0 ++ tblL1 ++ tblL2 ++ tblL3
def tbl (f : Str) : Option DefM := tblL.lookup f
section
variable [KS] {K : PySem.W.Frag} {h : Heap} {mg : Str → Option Value}
theorem is_put (X : K.In h) (G : h.Ns mainGlobals mg) (c : He.SaysD fa fn K) : DefIs K mg frB "put" m_put := by
  obtain ⟨fd, F⟩ := c.def_ 0 (d := mkD "put" "put" 2) rfl
  exact ⟨_, fd, "put", top 2, N_put, ["term", "assignment"], He.glo_ok X G (c.fact 0 (f := .glo "put") rfl), F, sc_put, FunD.bindsN F fun _ _ _ _ _ _ us hl => match us, hl with | [_, _], _ => rfl, rfl, rfl, chk_put⟩
theorem is_fitted (X : K.In h) (G : h.Ns mainGlobals mg) (c : He.SaysD fa fn K) : DefIs K mg frB "fitted" m_fitted := by
  obtain ⟨fd, F⟩ := c.def_ 1 (d := mkD "fitted" "fitted" 4) rfl
  exact ⟨_, fd, "fitted", top 4, N_fitted, ["patterns", "terms"], He.glo_ok X G (c.fact 1 (f := .glo "fitted") rfl), F, sc_fitted, FunD.bindsN F fun _ _ _ _ _ _ us hl => match us, hl with | [_, _], _ => rfl, rfl, rfl, chk_fitted⟩
theorem is_constructor_of (X : K.In h) (G : h.Ns mainGlobals mg) (c : He.SaysD fa fn K) : DefIs K mg frB "constructor_of" m_constructor_of := by
  obtain ⟨fd, F⟩ := c.def_ 2 (d := mkD "constructor_of" "constructor_of" 10) rfl
  exact ⟨_, fd, "constructor_of", top 10, N_constructor_of, ["table", "word"], He.glo_ok X G (c.fact 2 (f := .glo "constructor_of") rfl), F, sc_constructor_of, FunD.bindsN F fun _ _ _ _ _ _ us hl => match us, hl with | [_, _], _ => rfl, rfl, rfl, chk_constructor_of⟩
theorem is_function_of (X : K.In h) (G : h.Ns mainGlobals mg) (c : He.SaysD fa fn K) : DefIs K mg frB "function_of" m_function_of := by
  obtain ⟨fd, F⟩ := c.def_ 3 (d := mkD "function_of" "function_of" 30) rfl
  exact ⟨_, fd, "function_of", top 30, N_function_of, ["program", "word"], He.glo_ok X G (c.fact 3 (f := .glo "function_of") rfl), F, sc_function_of, FunD.bindsN F fun _ _ _ _ _ _ us hl => match us, hl with | [_, _], _ => rfl, rfl, rfl, chk_function_of⟩
theorem is_taken (X : K.In h) (G : h.Ns mainGlobals mg) (c : He.SaysD fa fn K) : DefIs K mg frB "taken" m_taken := by
  obtain ⟨fd, F⟩ := c.def_ 4 (d := mkD "taken" "taken" 32) rfl
  exact ⟨_, fd, "taken", top 32, N_taken, ["patterns", "values"], He.glo_ok X G (c.fact 4 (f := .glo "taken") rfl), F, sc_taken, FunD.bindsN F fun _ _ _ _ _ _ us hl => match us, hl with | [_, _], _ => rfl, rfl, rfl, chk_taken⟩
theorem is_clause_for (X : K.In h) (G : h.Ns mainGlobals mg) (c : He.SaysD fa fn K) : DefIs K mg frB "clause_for" m_clause_for := by
  obtain ⟨fd, F⟩ := c.def_ 5 (d := mkD "clause_for" "clause_for" 33) rfl
  exact ⟨_, fd, "clause_for", top 33, N_clause_for, ["function", "values"], He.glo_ok X G (c.fact 5 (f := .glo "clause_for") rfl), F, sc_clause_for, FunD.bindsN F fun _ _ _ _ _ _ us hl => match us, hl with | [_, _], _ => rfl, rfl, rfl, chk_clause_for⟩
theorem is_is_raw (X : K.In h) (G : h.Ns mainGlobals mg) (c : He.SaysD fa fn K) : DefIs K mg frB "is_raw" m_is_raw := by
  obtain ⟨fd, F⟩ := c.def_ 6 (d := mkD "is_raw" "is_raw" 48) rfl
  exact ⟨_, fd, "is_raw", top 48, N_is_raw, ["table", "value"], He.glo_ok X G (c.fact 6 (f := .glo "is_raw") rfl), F, sc_is_raw, FunD.bindsN F fun _ _ _ _ _ _ us hl => match us, hl with | [_, _], _ => rfl, rfl, rfl, chk_is_raw⟩
theorem is_index_of (X : K.In h) (G : h.Ns mainGlobals mg) (c : He.SaysD fa fn K) : DefIs K mg frB "index_of" m_index_of := by
  obtain ⟨fd, F⟩ := c.def_ 7 (d := mkD "index_of" "index_of" 49) rfl
  exact ⟨_, fd, "index_of", top 49, N_index_of, ["table", "value"], He.glo_ok X G (c.fact 7 (f := .glo "index_of") rfl), F, sc_index_of, FunD.bindsN F fun _ _ _ _ _ _ us hl => match us, hl with | [_, _], _ => rfl, rfl, rfl, chk_index_of⟩
theorem is_demanded (X : K.In h) (G : h.Ns mainGlobals mg) (c : He.SaysD fa fn K) : DefIs K mg frB "demanded" m_demanded := by
  obtain ⟨fd, F⟩ := c.def_ 8 (d := mkD "demanded" "demanded" 50) rfl
  exact ⟨_, fd, "demanded", top 50, N_demanded, ["table", "function", "values"], He.glo_ok X G (c.fact 8 (f := .glo "demanded") rfl), F, sc_demanded, FunD.bindsN F fun _ _ _ _ _ _ us hl => match us, hl with | [_, _, _], _ => rfl, rfl, rfl, chk_demanded⟩
theorem is_head_of (X : K.In h) (G : h.Ns mainGlobals mg) (c : He.SaysD fa fn K) : DefIs K mg frB "head_of" m_head_of := by
  obtain ⟨fd, F⟩ := c.def_ 9 (d := mkD "head_of" "head_of" 52) rfl
  exact ⟨_, fd, "head_of", top 52, N_head_of, ["table", "program", "word"], He.glo_ok X G (c.fact 9 (f := .glo "head_of") rfl), F, sc_head_of, FunD.bindsN F fun _ _ _ _ _ _ us hl => match us, hl with | [_, _, _], _ => rfl, rfl, rfl, chk_head_of⟩
theorem is_reckoned (X : K.In h) (G : h.Ns mainGlobals mg) (c : He.SaysD fa fn K) : DefIs K mg frB "reckoned" m_reckoned := by
  obtain ⟨fd, F⟩ := c.def_ 10 (d := mkD "reckoned" "reckoned" 53) rfl
  exact ⟨_, fd, "reckoned", top 53, N_reckoned, ["table", "program", "body", "trees", "way"], He.glo_ok X G (c.fact 10 (f := .glo "reckoned") rfl), F, sc_reckoned, FunD.bindsN F fun _ _ _ _ _ _ us hl => match us, hl with | [_, _, _, _, _], _ => rfl, rfl, rfl, chk_reckoned⟩
theorem is_told_index (X : K.In h) (G : h.Ns mainGlobals mg) (c : He.SaysD fa fn K) : DefIs K mg frB "told_index" m_told_index := by
  obtain ⟨fd, F⟩ := c.def_ 11 (d := mkD "told_index" "told_index" 54) rfl
  exact ⟨_, fd, "told_index", top 54, N_told_index, ["table", "program", "word", "clause", "trees"], He.glo_ok X G (c.fact 11 (f := .glo "told_index") rfl), F, sc_told_index, FunD.bindsN F fun _ _ _ _ _ _ us hl => match us, hl with | [_, _, _, _, _], _ => rfl, rfl, rfl, chk_told_index⟩
theorem is_told (X : K.In h) (G : h.Ns mainGlobals mg) (c : He.SaysD fa fn K) : DefIs K mg frB "told" m_told := by
  obtain ⟨fd, F⟩ := c.def_ 12 (d := mkD "told" "told" 55) rfl
  exact ⟨_, fd, "told", top 55, N_told, ["table", "program", "word", "values"], He.glo_ok X G (c.fact 12 (f := .glo "told") rfl), F, sc_told, FunD.bindsN F fun _ _ _ _ _ _ us hl => match us, hl with | [_, _, _, _], _ => rfl, rfl, rfl, chk_told⟩
theorem is_is_word_row (X : K.In h) (G : h.Ns mainGlobals mg) (c : He.SaysD fa fn K) : DefIs K mg frB "is_word_row" m_is_word_row := by
  obtain ⟨fd, F⟩ := c.def_ 13 (d := mkD "is_word_row" "is_word_row" 70) rfl
  exact ⟨_, fd, "is_word_row", top 70, N_is_word_row, ["value", "word", "size"], He.glo_ok X G (c.fact 13 (f := .glo "is_word_row") rfl), F, sc_is_word_row, FunD.bindsN F fun _ _ _ _ _ _ us hl => match us, hl with | [_, _, _], _ => rfl, rfl, rfl, chk_is_word_row⟩
theorem is_accepts (X : K.In h) (G : h.Ns mainGlobals mg) (c : He.SaysD fa fn K) : DefIs K mg frB "accepts" m_accepts := by
  obtain ⟨fd, F⟩ := c.def_ 14 (d := mkD "accepts" "accepts" 72) rfl
  exact ⟨_, fd, "accepts", top 72, N_accepts, ["table", "program", "value"], He.glo_ok X G (c.fact 14 (f := .glo "accepts") rfl), F, sc_accepts, FunD.bindsN F fun _ _ _ _ _ _ us hl => match us, hl with | [_, _, _], _ => rfl, rfl, rfl, chk_accepts⟩
theorem is_accepts_not (X : K.In h) (G : h.Ns mainGlobals mg) (c : He.SaysD fa fn K) : DefIs K mg frB "accepts_not" m_accepts_not := by
  obtain ⟨fd, F⟩ := c.def_ 15 (d := mkD "accepts_not" "accepts_not" 73) rfl
  exact ⟨_, fd, "accepts_not", top 73, N_accepts_not, ["table", "program", "value"], He.glo_ok X G (c.fact 15 (f := .glo "accepts_not") rfl), F, sc_accepts_not, FunD.bindsN F fun _ _ _ _ _ _ us hl => match us, hl with | [_, _, _], _ => rfl, rfl, rfl, chk_accepts_not⟩
theorem is__law_state (X : K.In h) (G : h.Ns mainGlobals mg) (c : He.SaysD fa fn K) : DefIs K mg frB "_law_state" m__law_state := by
  obtain ⟨fd, F⟩ := c.def_ 16 (d := mkD "_law_state" "_law_state" 77) rfl
  exact ⟨_, fd, "_law_state", top 77, N__law_state, ["script"], He.glo_ok X G (c.fact 16 (f := .glo "_law_state") rfl), F, sc__law_state, FunD.bindsN F fun _ _ _ _ _ _ us hl => match us, hl with | [_], _ => rfl, rfl, rfl, chk__law_state⟩
theorem is__law_draw (X : K.In h) (G : h.Ns mainGlobals mg) (c : He.SaysD fa fn K) : DefIs K mg frB "_law_draw" m__law_draw := by
  obtain ⟨fd, F⟩ := c.def_ 17 (d := mkD "_law_draw" "_law_draw" 78) rfl
  exact ⟨_, fd, "_law_draw", top 78, N__law_draw, ["state", "many"], He.glo_ok X G (c.fact 17 (f := .glo "_law_draw") rfl), F, sc__law_draw, FunD.bindsN F fun _ _ _ _ _ _ us hl => match us, hl with | [_, _], _ => rfl, rfl, rfl, chk__law_draw⟩
theorem is__law_pick (X : K.In h) (G : h.Ns mainGlobals mg) (c : He.SaysD fa fn K) : DefIs K mg frB "_law_pick" m__law_pick := by
  obtain ⟨fd, F⟩ := c.def_ 18 (d := mkD "_law_pick" "_law_pick" 79) rfl
  exact ⟨_, fd, "_law_pick", top 79, N__law_pick, ["state", "row"], He.glo_ok X G (c.fact 18 (f := .glo "_law_pick") rfl), F, sc__law_pick, FunD.bindsN F fun _ _ _ _ _ _ us hl => match us, hl with | [_, _], _ => rfl, rfl, rfl, chk__law_pick⟩
theorem is__law_shape (X : K.In h) (G : h.Ns mainGlobals mg) (c : He.SaysD fa fn K) : DefIs K mg frB "_law_shape" m__law_shape := by
  obtain ⟨fd, F⟩ := c.def_ 19 (d := mkD "_law_shape" "_law_shape" 80) rfl
  exact ⟨_, fd, "_law_shape", top 80, N__law_shape, ["kind", "own", "other", "third"], He.glo_ok X G (c.fact 19 (f := .glo "_law_shape") rfl), F, sc__law_shape, FunD.bindsN F fun _ _ _ _ _ _ us hl => match us, hl with | [_, _, _, _], _ => rfl, rfl, rfl, chk__law_shape⟩
theorem is__law_table (X : K.In h) (G : h.Ns mainGlobals mg) (c : He.SaysD fa fn K) : DefIs K mg frB "_law_table" m__law_table := by
  obtain ⟨fd, F⟩ := c.def_ 20 (d := mkD "_law_table" "_law_table" 81) rfl
  exact ⟨_, fd, "_law_table", top 81, N__law_table, ["state"], He.glo_ok X G (c.fact 20 (f := .glo "_law_table") rfl), F, sc__law_table, FunD.bindsN F fun _ _ _ _ _ _ us hl => match us, hl with | [_], _ => rfl, rfl, rfl, chk__law_table⟩
theorem is__law_constructors (X : K.In h) (G : h.Ns mainGlobals mg) (c : He.SaysD fa fn K) : DefIs K mg frB "_law_constructors" m__law_constructors := by
  obtain ⟨fd, F⟩ := c.def_ 21 (d := mkD "_law_constructors" "_law_constructors" 82) rfl
  exact ⟨_, fd, "_law_constructors", top 82, N__law_constructors, ["table", "family"], He.glo_ok X G (c.fact 21 (f := .glo "_law_constructors") rfl), F, sc__law_constructors, FunD.bindsN F fun _ _ _ _ _ _ us hl => match us, hl with | [_, _], _ => rfl, rfl, rfl, chk__law_constructors⟩
theorem is__law_heads (X : K.In h) (G : h.Ns mainGlobals mg) (c : He.SaysD fa fn K) : DefIs K mg frB "_law_heads" m__law_heads := by
  obtain ⟨fd, F⟩ := c.def_ 22 (d := mkD "_law_heads" "_law_heads" 83) rfl
  exact ⟨_, fd, "_law_heads", top 83, N__law_heads, ["state", "table"], He.glo_ok X G (c.fact 22 (f := .glo "_law_heads") rfl), F, sc__law_heads, FunD.bindsN F fun _ _ _ _ _ _ us hl => match us, hl with | [_, _], _ => rfl, rfl, rfl, chk__law_heads⟩
theorem is__law_deeper (X : K.In h) (G : h.Ns mainGlobals mg) (c : He.SaysD fa fn K) : DefIs K mg frB "_law_deeper" m__law_deeper := by
  obtain ⟨fd, F⟩ := c.def_ 23 (d := mkD "_law_deeper" "_law_deeper" 84) rfl
  exact ⟨_, fd, "_law_deeper", top 84, N__law_deeper, ["state", "table", "row", "first_v"], He.glo_ok X G (c.fact 23 (f := .glo "_law_deeper") rfl), F, sc__law_deeper, FunD.bindsN F fun _ _ _ _ _ _ us hl => match us, hl with | [_, _, _, _], _ => rfl, rfl, rfl, chk__law_deeper⟩
theorem is__law_patterns (X : K.In h) (G : h.Ns mainGlobals mg) (c : He.SaysD fa fn K) : DefIs K mg frB "_law_patterns" m__law_patterns := by
  obtain ⟨fd, F⟩ := c.def_ 24 (d := mkD "_law_patterns" "_law_patterns" 85) rfl
  exact ⟨_, fd, "_law_patterns", top 85, N__law_patterns, ["state", "table", "head"], He.glo_ok X G (c.fact 24 (f := .glo "_law_patterns") rfl), F, sc__law_patterns, FunD.bindsN F fun _ _ _ _ _ _ us hl => match us, hl with | [_, _, _], _ => rfl, rfl, rfl, chk__law_patterns⟩
theorem is__law_names_at (X : K.In h) (G : h.Ns mainGlobals mg) (c : He.SaysD fa fn K) : DefIs K mg frB "_law_names_at" m__law_names_at := by
  obtain ⟨fd, F⟩ := c.def_ 25 (d := mkD "_law_names_at" "_law_names_at" 86) rfl
  exact ⟨_, fd, "_law_names_at", top 86, N__law_names_at, ["table", "pattern", "family"], He.glo_ok X G (c.fact 25 (f := .glo "_law_names_at") rfl), F, sc__law_names_at, FunD.bindsN F fun _ _ _ _ _ _ us hl => match us, hl with | [_, _, _], _ => rfl, rfl, rfl, chk__law_names_at⟩
theorem is__law_named (X : K.In h) (G : h.Ns mainGlobals mg) (c : He.SaysD fa fn K) : DefIs K mg frB "_law_named" m__law_named := by
  obtain ⟨fd, F⟩ := c.def_ 26 (d := mkD "_law_named" "_law_named" 87) rfl
  exact ⟨_, fd, "_law_named", top 87, N__law_named, ["table", "head", "patterns"], He.glo_ok X G (c.fact 26 (f := .glo "_law_named") rfl), F, sc__law_named, FunD.bindsN F fun _ _ _ _ _ _ us hl => match us, hl with | [_, _, _], _ => rfl, rfl, rfl, chk__law_named⟩
theorem is__law_call (X : K.In h) (G : h.Ns mainGlobals mg) (c : He.SaysD fa fn K) : DefIs K mg frB "_law_call" m__law_call := by
  obtain ⟨fd, F⟩ := c.def_ 27 (d := mkD "_law_call" "_law_call" 88) rfl
  exact ⟨_, fd, "_law_call", top 88, N__law_call, ["state", "table", "heads", "k", "j", "known", "deep"], He.glo_ok X G (c.fact 27 (f := .glo "_law_call") rfl), F, sc__law_call, FunD.bindsN F fun _ _ _ _ _ _ us hl => match us, hl with | [_, _, _, _, _, _, _], _ => rfl, rfl, rfl, chk__law_call⟩
theorem is__law_made (X : K.In h) (G : h.Ns mainGlobals mg) (c : He.SaysD fa fn K) : DefIs K mg frB "_law_made" m__law_made := by
  obtain ⟨fd, F⟩ := c.def_ 28 (d := mkD "_law_made" "_law_made" 89) rfl
  exact ⟨_, fd, "_law_made", top 89, N__law_made, ["state", "table", "heads", "k", "known", "row", "deep"], He.glo_ok X G (c.fact 28 (f := .glo "_law_made") rfl), F, sc__law_made, FunD.bindsN F fun _ _ _ _ _ _ us hl => match us, hl with | [_, _, _, _, _, _, _], _ => rfl, rfl, rfl, chk__law_made⟩
theorem is__law_body (X : K.In h) (G : h.Ns mainGlobals mg) (c : He.SaysD fa fn K) : DefIs K mg frB "_law_body" m__law_body := by
  obtain ⟨fd, F⟩ := c.def_ 29 (d := mkD "_law_body" "_law_body" 90) rfl
  exact ⟨_, fd, "_law_body", top 90, N__law_body, ["state", "table", "heads", "k", "known", "family", "deep"], He.glo_ok X G (c.fact 29 (f := .glo "_law_body") rfl), F, sc__law_body, FunD.bindsN F fun _ _ _ _ _ _ us hl => match us, hl with | [_, _, _, _, _, _, _], _ => rfl, rfl, rfl, chk__law_body⟩
theorem is__law_copy (X : K.In h) (G : h.Ns mainGlobals mg) (c : He.SaysD fa fn K) : DefIs K mg frB "_law_copy" m__law_copy := by
  obtain ⟨fd, F⟩ := c.def_ 30 (d := mkD "_law_copy" "_law_copy" 91) rfl
  exact ⟨_, fd, "_law_copy", top 91, N__law_copy, ["state", "heads", "k", "patterns", "known"], He.glo_ok X G (c.fact 30 (f := .glo "_law_copy") rfl), F, sc__law_copy, FunD.bindsN F fun _ _ _ _ _ _ us hl => match us, hl with | [_, _, _, _, _], _ => rfl, rfl, rfl, chk__law_copy⟩
theorem is__law_program (X : K.In h) (G : h.Ns mainGlobals mg) (c : He.SaysD fa fn K) : DefIs K mg frB "_law_program" m__law_program := by
  obtain ⟨fd, F⟩ := c.def_ 31 (d := mkD "_law_program" "_law_program" 92) rfl
  exact ⟨_, fd, "_law_program", top 92, N__law_program, ["state", "table"], He.glo_ok X G (c.fact 31 (f := .glo "_law_program") rfl), F, sc__law_program, FunD.bindsN F fun _ _ _ _ _ _ us hl => match us, hl with | [_, _], _ => rfl, rfl, rfl, chk__law_program⟩
theorem is__law_fit (X : K.In h) (G : h.Ns mainGlobals mg) (c : He.SaysD fa fn K) : DefIs K mg frB "_law_fit" m__law_fit := by
  obtain ⟨fd, F⟩ := c.def_ 32 (d := mkD "_law_fit" "_law_fit" 93) rfl
  exact ⟨_, fd, "_law_fit", top 93, N__law_fit, ["patterns", "trees"], He.glo_ok X G (c.fact 32 (f := .glo "_law_fit") rfl), F, sc__law_fit, FunD.bindsN F fun _ _ _ _ _ _ us hl => match us, hl with | [_, _], _ => rfl, rfl, rfl, chk__law_fit⟩
theorem is__law_put (X : K.In h) (G : h.Ns mainGlobals mg) (c : He.SaysD fa fn K) : DefIs K mg frB "_law_put" m__law_put := by
  obtain ⟨fd, F⟩ := c.def_ 33 (d := mkD "_law_put" "_law_put" 94) rfl
  exact ⟨_, fd, "_law_put", top 94, N__law_put, ["term", "trees"], He.glo_ok X G (c.fact 33 (f := .glo "_law_put") rfl), F, sc__law_put, FunD.bindsN F fun _ _ _ _ _ _ us hl => match us, hl with | [_, _], _ => rfl, rfl, rfl, chk__law_put⟩
theorem is__law_index (X : K.In h) (G : h.Ns mainGlobals mg) (c : He.SaysD fa fn K) : DefIs K mg frB "_law_index" m__law_index := by
  obtain ⟨fd, F⟩ := c.def_ 34 (d := mkD "_law_index" "_law_index" 95) rfl
  exact ⟨_, fd, "_law_index", top 95, N__law_index, ["table", "value"], He.glo_ok X G (c.fact 34 (f := .glo "_law_index") rfl), F, sc__law_index, FunD.bindsN F fun _ _ _ _ _ _ us hl => match us, hl with | [_, _], _ => rfl, rfl, rfl, chk__law_index⟩
theorem is__law_taken (X : K.In h) (G : h.Ns mainGlobals mg) (c : He.SaysD fa fn K) : DefIs K mg frB "_law_taken" m__law_taken := by
  obtain ⟨fd, F⟩ := c.def_ 35 (d := mkD "_law_taken" "_law_taken" 96) rfl
  exact ⟨_, fd, "_law_taken", top 96, N__law_taken, ["patterns", "values"], He.glo_ok X G (c.fact 35 (f := .glo "_law_taken") rfl), F, sc__law_taken, FunD.bindsN F fun _ _ _ _ _ _ us hl => match us, hl with | [_, _], _ => rfl, rfl, rfl, chk__law_taken⟩
theorem is__law_clause (X : K.In h) (G : h.Ns mainGlobals mg) (c : He.SaysD fa fn K) : DefIs K mg frB "_law_clause" m__law_clause := by
  obtain ⟨fd, F⟩ := c.def_ 36 (d := mkD "_law_clause" "_law_clause" 97) rfl
  exact ⟨_, fd, "_law_clause", top 97, N__law_clause, ["function", "values"], He.glo_ok X G (c.fact 36 (f := .glo "_law_clause") rfl), F, sc__law_clause, FunD.bindsN F fun _ _ _ _ _ _ us hl => match us, hl with | [_, _], _ => rfl, rfl, rfl, chk__law_clause⟩
theorem is__law_head (X : K.In h) (G : h.Ns mainGlobals mg) (c : He.SaysD fa fn K) : DefIs K mg frB "_law_head" m__law_head := by
  obtain ⟨fd, F⟩ := c.def_ 37 (d := mkD "_law_head" "_law_head" 98) rfl
  exact ⟨_, fd, "_law_head", top 98, N__law_head, ["table", "program", "word"], He.glo_ok X G (c.fact 37 (f := .glo "_law_head") rfl), F, sc__law_head, FunD.bindsN F fun _ _ _ _ _ _ us hl => match us, hl with | [_, _, _], _ => rfl, rfl, rfl, chk__law_head⟩
theorem is__law_reckoned (X : K.In h) (G : h.Ns mainGlobals mg) (c : He.SaysD fa fn K) : DefIs K mg frB "_law_reckoned" m__law_reckoned := by
  obtain ⟨fd, F⟩ := c.def_ 38 (d := mkD "_law_reckoned" "_law_reckoned" 99) rfl
  exact ⟨_, fd, "_law_reckoned", top 99, N__law_reckoned, ["table", "program", "body", "trees", "way"], He.glo_ok X G (c.fact 38 (f := .glo "_law_reckoned") rfl), F, sc__law_reckoned, FunD.bindsN F fun _ _ _ _ _ _ us hl => match us, hl with | [_, _, _, _, _], _ => rfl, rfl, rfl, chk__law_reckoned⟩
theorem is__law_told (X : K.In h) (G : h.Ns mainGlobals mg) (c : He.SaysD fa fn K) : DefIs K mg frB "_law_told" m__law_told := by
  obtain ⟨fd, F⟩ := c.def_ 39 (d := mkD "_law_told" "_law_told" 100) rfl
  exact ⟨_, fd, "_law_told", top 100, N__law_told, ["table", "program", "function", "values", "trees"], He.glo_ok X G (c.fact 39 (f := .glo "_law_told") rfl), F, sc__law_told, FunD.bindsN F fun _ _ _ _ _ _ us hl => match us, hl with | [_, _, _, _, _], _ => rfl, rfl, rfl, chk__law_told⟩
theorem is__law_grown (X : K.In h) (G : h.Ns mainGlobals mg) (c : He.SaysD fa fn K) : DefIs K mg frB "_law_grown" m__law_grown := by
  obtain ⟨fd, F⟩ := c.def_ 40 (d := mkD "_law_grown" "_law_grown" 101) rfl
  exact ⟨_, fd, "_law_grown", top 101, N__law_grown, ["table", "known", "most"], He.glo_ok X G (c.fact 40 (f := .glo "_law_grown") rfl), F, sc__law_grown, FunD.bindsN F fun _ _ _ _ _ _ us hl => match us, hl with | [_, _, _], _ => rfl, rfl, rfl, chk__law_grown⟩
theorem is__law_values (X : K.In h) (G : h.Ns mainGlobals mg) (c : He.SaysD fa fn K) : DefIs K mg frB "_law_values" m__law_values := by
  obtain ⟨fd, F⟩ := c.def_ 41 (d := mkD "_law_values" "_law_values" 102) rfl
  exact ⟨_, fd, "_law_values", top 102, N__law_values, ["table", "rounds", "most"], He.glo_ok X G (c.fact 41 (f := .glo "_law_values") rfl), F, sc__law_values, FunD.bindsN F fun _ _ _ _ _ _ us hl => match us, hl with | [_, _, _], _ => rfl, rfl, rfl, chk__law_values⟩
theorem is__law_asked (X : K.In h) (G : h.Ns mainGlobals mg) (c : He.SaysD fa fn K) : DefIs K mg frB "_law_asked" m__law_asked := by
  obtain ⟨fd, F⟩ := c.def_ 42 (d := mkD "_law_asked" "_law_asked" 103) rfl
  exact ⟨_, fd, "_law_asked", top 103, N__law_asked, ["function", "known", "most"], He.glo_ok X G (c.fact 42 (f := .glo "_law_asked") rfl), F, sc__law_asked, FunD.bindsN F fun _ _ _ _ _ _ us hl => match us, hl with | [_, _, _], _ => rfl, rfl, rfl, chk__law_asked⟩
theorem is__law_wrong_ones (X : K.In h) (G : h.Ns mainGlobals mg) (c : He.SaysD fa fn K) : DefIs K mg frB "_law_wrong_ones" m__law_wrong_ones := by
  obtain ⟨fd, F⟩ := c.def_ 43 (d := mkD "_law_wrong_ones" "_law_wrong_ones" 104) rfl
  exact ⟨_, fd, "_law_wrong_ones", top 104, N__law_wrong_ones, ["table", "program", "known"], He.glo_ok X G (c.fact 43 (f := .glo "_law_wrong_ones") rfl), F, sc__law_wrong_ones, FunD.bindsN F fun _ _ _ _ _ _ us hl => match us, hl with | [_, _, _], _ => rfl, rfl, rfl, chk__law_wrong_ones⟩
theorem is__law_raw (X : K.In h) (G : h.Ns mainGlobals mg) (c : He.SaysD fa fn K) : DefIs K mg frB "_law_raw" m__law_raw := by
  obtain ⟨fd, F⟩ := c.def_ 44 (d := mkD "_law_raw" "_law_raw" 105) rfl
  exact ⟨_, fd, "_law_raw", top 105, N__law_raw, ["state", "table", "family", "deep"], He.glo_ok X G (c.fact 44 (f := .glo "_law_raw") rfl), F, sc__law_raw, FunD.bindsN F fun _ _ _ _ _ _ us hl => match us, hl with | [_, _, _, _], _ => rfl, rfl, rfl, chk__law_raw⟩
theorem is__law_not_right (X : K.In h) (G : h.Ns mainGlobals mg) (c : He.SaysD fa fn K) : DefIs K mg frB "_law_not_right" m__law_not_right := by
  obtain ⟨fd, F⟩ := c.def_ 45 (d := mkD "_law_not_right" "_law_not_right" 106) rfl
  exact ⟨_, fd, "_law_not_right", top 106, N__law_not_right, ["table", "program", "word", "values"], He.glo_ok X G (c.fact 45 (f := .glo "_law_not_right") rfl), F, sc__law_not_right, FunD.bindsN F fun _ _ _ _ _ _ us hl => match us, hl with | [_, _, _, _], _ => rfl, rfl, rfl, chk__law_not_right⟩
theorem is__law_thing (X : K.In h) (G : h.Ns mainGlobals mg) (c : He.SaysD fa fn K) : DefIs K mg frB "_law_thing" m__law_thing := by
  obtain ⟨fd, F⟩ := c.def_ 46 (d := mkD "_law_thing" "_law_thing" 107) rfl
  exact ⟨_, fd, "_law_thing", top 107, N__law_thing, ["state", "value"], He.glo_ok X G (c.fact 46 (f := .glo "_law_thing") rfl), F, sc__law_thing, FunD.bindsN F fun _ _ _ _ _ _ us hl => match us, hl with | [_, _], _ => rfl, rfl, rfl, chk__law_thing⟩
theorem is__law_is_raw (X : K.In h) (G : h.Ns mainGlobals mg) (c : He.SaysD fa fn K) : DefIs K mg frB "_law_is_raw" m__law_is_raw := by
  obtain ⟨fd, F⟩ := c.def_ 47 (d := mkD "_law_is_raw" "_law_is_raw" 108) rfl
  exact ⟨_, fd, "_law_is_raw", top 108, N__law_is_raw, ["table", "value"], He.glo_ok X G (c.fact 47 (f := .glo "_law_is_raw") rfl), F, sc__law_is_raw, FunD.bindsN F fun _ _ _ _ _ _ us hl => match us, hl with | [_, _], _ => rfl, rfl, rfl, chk__law_is_raw⟩
theorem is__law_due (X : K.In h) (G : h.Ns mainGlobals mg) (c : He.SaysD fa fn K) : DefIs K mg frB "_law_due" m__law_due := by
  obtain ⟨fd, F⟩ := c.def_ 48 (d := mkD "_law_due" "_law_due" 109) rfl
  exact ⟨_, fd, "_law_due", top 109, N__law_due, ["table", "program", "word", "values"], He.glo_ok X G (c.fact 48 (f := .glo "_law_due") rfl), F, sc__law_due, FunD.bindsN F fun _ _ _ _ _ _ us hl => match us, hl with | [_, _, _, _], _ => rfl, rfl, rfl, chk__law_due⟩
theorem is__law_values_for (X : K.In h) (G : h.Ns mainGlobals mg) (c : He.SaysD fa fn K) : DefIs K mg frB "_law_values_for" m__law_values_for := by
  obtain ⟨fd, F⟩ := c.def_ 49 (d := mkD "_law_values_for" "_law_values_for" 110) rfl
  exact ⟨_, fd, "_law_values_for", top 110, N__law_values_for, ["state", "table", "function"], He.glo_ok X G (c.fact 49 (f := .glo "_law_values_for") rfl), F, sc__law_values_for, FunD.bindsN F fun _ _ _ _ _ _ us hl => match us, hl with | [_, _, _], _ => rfl, rfl, rfl, chk__law_values_for⟩
theorem is_law (X : K.In h) (G : h.Ns mainGlobals mg) (c : He.SaysD fa fn K) : DefIs K mg frB "law" m_law := by
  obtain ⟨fd, F⟩ := c.def_ 50 (d := mkD "law" "law" 111) rfl
  exact ⟨_, fd, "law", top 111, N_law, ["script"], He.glo_ok X G (c.fact 50 (f := .glo "law") rfl), F, sc_law, FunD.bindsN F fun _ _ _ _ _ _ us hl => match us, hl with | [_], _ => rfl, rfl, rfl, chk_law⟩
theorem is_put_indices (X : K.In h) (G : h.Ns mainGlobals mg) (c : He.SaysD fa fn K) : DefIs K mg frB "put_indices" m_put := by
  obtain ⟨fd, F⟩ := c.def_ 51 (d := mkD "put_indices" "put" 2) rfl
  exact ⟨_, fd, "put", top 2, N_put, ["term", "assignment"], He.glo_ok X G (c.fact 51 (f := .glo "put_indices") rfl), F, sc_put, FunD.bindsN F fun _ _ _ _ _ _ us hl => match us, hl with | [_, _], _ => rfl, rfl, rfl, chk_put⟩
end

end Px
namespace Px
open PySem PySem.Spec PyProof.Rows L2
section
variable [KS] {K : PySem.W.Frag} {h : Heap} {mg : Str → Option Value}
theorem all_is (X : K.In h) (G : h.Ns mainGlobals mg) (c : He.SaysD fa fn K) : ∀ p ∈ tblL, DefIs K mg frB p.1 p.2 := by
  intro p hp
  simp only [tblL, tblL0, tblL1, tblL2, tblL3, List.cons_append, List.nil_append, List.mem_cons, List.not_mem_nil, or_false] at hp
  rcases hp with rfl | rfl | rfl | rfl | rfl | rfl | rfl | rfl | rfl | rfl | rfl | rfl | rfl | rfl | rfl | rfl | rfl | rfl | rfl | rfl | rfl | rfl | rfl | rfl | rfl | rfl | rfl | rfl | rfl | rfl | rfl | rfl | rfl | rfl | rfl | rfl | rfl | rfl | rfl | rfl | rfl | rfl | rfl | rfl | rfl | rfl | rfl | rfl | rfl | rfl | rfl | rfl
  · exact is_put X G c
  · exact is_fitted X G c
  · exact is_constructor_of X G c
  · exact is_function_of X G c
  · exact is_taken X G c
  · exact is_clause_for X G c
  · exact is_is_raw X G c
  · exact is_index_of X G c
  · exact is_demanded X G c
  · exact is_head_of X G c
  · exact is_reckoned X G c
  · exact is_told_index X G c
  · exact is_told X G c
  · exact is_is_word_row X G c
  · exact is_accepts X G c
  · exact is_accepts_not X G c
  · exact is__law_state X G c
  · exact is__law_draw X G c
  · exact is__law_pick X G c
  · exact is__law_shape X G c
  · exact is__law_table X G c
  · exact is__law_constructors X G c
  · exact is__law_heads X G c
  · exact is__law_deeper X G c
  · exact is__law_patterns X G c
  · exact is__law_names_at X G c
  · exact is__law_named X G c
  · exact is__law_call X G c
  · exact is__law_made X G c
  · exact is__law_body X G c
  · exact is__law_copy X G c
  · exact is__law_program X G c
  · exact is__law_fit X G c
  · exact is__law_put X G c
  · exact is__law_index X G c
  · exact is__law_taken X G c
  · exact is__law_clause X G c
  · exact is__law_head X G c
  · exact is__law_reckoned X G c
  · exact is__law_told X G c
  · exact is__law_grown X G c
  · exact is__law_values X G c
  · exact is__law_asked X G c
  · exact is__law_wrong_ones X G c
  · exact is__law_raw X G c
  · exact is__law_not_right X G c
  · exact is__law_thing X G c
  · exact is__law_is_raw X G c
  · exact is__law_due X G c
  · exact is__law_values_for X G c
  · exact is_law X G c
  · exact is_put_indices X G c
theorem lookup_mem {α β : Type} [BEq α] [LawfulBEq α] {k : α} {v : β} : ∀ {l : List (α × β)}, l.lookup k = some v → (k, v) ∈ l
  | [], h => by cases h
  | (a, b) :: l, h => by
    rw [List.lookup_cons] at h
    split at h
    · rename_i e
      cases h
      rw [eq_of_beq e]
      exact List.mem_cons_self
    · exact List.mem_cons_of_mem _ (lookup_mem h)
theorem tbl_is (X : K.In h) (G : h.Ns mainGlobals mg) (c : He.SaysD fa fn K) (f : Str) (m : DefM) (e : tbl f = some m) : DefIs K mg frB f m := all_is X G c (f, m) (lookup_mem e)
theorem frB_is (X : K.In h) (G : h.Ns mainGlobals mg) (c : He.SaysD fa fn K) : ∀ x, frB.any (fun y => decide (y = x)) = true → mg x = none := by
  intro x hx
  obtain ⟨y, hy, e⟩ := List.any_eq_true.mp hx
  obtain rfl := of_decide_eq_true e
  simp only [frB, List.mem_cons, List.not_mem_nil, or_false] at hy
  rcases hy with rfl | rfl | rfl | rfl | rfl | rfl | rfl | rfl | rfl | rfl | rfl | rfl | rfl | rfl
  · exact He.free_ok X G (c.fact 52 (f := .free "len") rfl)
  · exact He.free_ok X G (c.fact 53 (f := .free "isinstance") rfl)
  · exact He.free_ok X G (c.fact 54 (f := .free "int") rfl)
  · exact He.free_ok X G (c.fact 55 (f := .free "str") rfl)
  · exact He.free_ok X G (c.fact 56 (f := .free "abs") rfl)
  · exact He.free_ok X G (c.fact 57 (f := .free "max") rfl)
  · exact He.free_ok X G (c.fact 58 (f := .free "tuple") rfl)
  · exact He.free_ok X G (c.fact 59 (f := .free "all") rfl)
  · exact He.free_ok X G (c.fact 60 (f := .free "list") rfl)
  · exact He.free_ok X G (c.fact 61 (f := .free "zip") rfl)
  · exact He.free_ok X G (c.fact 62 (f := .free "enumerate") rfl)
  · exact He.free_ok X G (c.fact 63 (f := .free "range") rfl)
  · exact He.free_ok X G (c.fact 64 (f := .free "bool") rfl)
  · exact He.free_ok X G (c.fact 65 (f := .free "dict") rfl)
end

end Px
namespace Px
open PySem PySem.W PySem.Spec PyProof.Rows L2
theorem hh_k9 : RR.prog.bare := ⟨by kernel_rfl, by kernel_rfl, by kernel_rfl, by kernel_rfl, by kernel_rfl, by decide +kernel⟩
theorem hh_k8 : (chainsOk (view RR.prog [111]) && opensWell RR.prog && (frees RR.toRowW && RR.within.isEmpty)) = true := by decide +kernel
end Px
namespace Px
open PySem PySem.Spec PyProof.Rows L2
/-- what is left: the plain law -/
def PlainLaw : Prop := ∀ ns : List Int, ns.length ≤ 63 → ∃ st, runF tbl 150 "law" [.scr ns] [] = some (.bl true, st)
theorem scr_law (said : RR.wellSaid = true) (hl : PlainLaw) : RR.Holds := by
  refine HandSHeadRun.head_any (r := RR) (q := PySem.W.view RR.prog [111]) (H := hk) (ob := ob) (M := 20000) (loose := names) (d := HandSHeadRun.topDef RR.prog 111) (kwd := []) ob_eq
    (by kernel_rfl) (fun s => by kernel_rfl) run (by kernel_rfl) (by kernel_rfl) (by kernel_rfl) (by kernel_rfl) said hh_k8 hh_k9 ?hw ?hc
  case hw => w_witness2
  case hc =>
    refine L2.walk_ofE (l := PySem.Challenge.rw_exactkinds_k51_papers_of_wrong_values) (n := 63) (k := 150) (x := "script") (CX := L2.CX0) rfl (by decide) (by kernel_rfl) ⟨rfl, by decide, by decide⟩ ?F (fun _ _ _ _ z => z)
    intro w mg fa' h Y G hmg0
    obtain ⟨K, KX, c⟩ := Y
    have hmg : mg ("law" : PySem.Str) = some (.ref fa') := by
      have e : (HandSHeadRun.topDef RR.prog 111).name = ("law" : PySem.Str) := by kernel_rfl
      rw [← e]
      exact hmg0
    letI : KS := ⟨fun a ns => ∃ (o : Obj) (its : Array Value) (n : Nat), K.lookup a = some o ∧ o.cls = .type "list" ∧ o.dict = none ∧ o.data = .seq its n ∧ its.size ≤ sizeLine ∧ L2.Vals (ns.map V.int) its.toList⟩
    have hks : ∀ a ns, KS.at' a ns → ∀ H : Hp, SqL K H a (ns.map V.int) := fun a ns q H => .inr q
    obtain ⟨fd, F⟩ := c.def_ 50 (d := mkD "law" "law" 111) rfl
    have e := hmg.symm.trans (He.glo_ok KX G (c.fact 50 (f := .glo "law") rfl))
    cases e
    have b := FunD.bindsA (ps := ["script"]) F fun _ _ _ _ _ _ us hl => match us, hl with | [_], _ => rfl
    have hm : tbl "law" = some m_law := by kernel_rfl
    refine ⟨K, fd, spF K (runF tbl 150 "law"), KX, fun s v => b s [v] rfl, fun H a ns hl2 hO hS => ?_, fun base _ _ => ?_⟩
    · obtain ⟨st, er⟩ := hl ns hl2
      refine ⟨[.scr ns], [], .bl true, st, fun _ => False, [], er, .cons (.scr ?_) .nil, ⟨rfl, List.nodup_nil, fun a h => (nomatch h), fun n b a h => (by simp at h)⟩, fun a h => h.elim, fun v Z' A' H' _ _ _ r => by cases r; rfl⟩
      · rcases hS with (h | ⟨o, h⟩) | q
        · rcases hO a with z | ⟨o, xs, z⟩
          · rw [z] at h; cases h
          · rw [z] at h; cases h
        · exact .inl ⟨o, fun z => z, h⟩
        · exact .inr q
    · exact def_step (fun f m e => tbl_is KX G c f m e) (frB_is KX G c) hks 149 (def_ok (fun f m e => tbl_is KX G c f m e) (frB_is KX G c) hks 149) hm F sc_law rfl rfl chk_law
end Px
namespace Px
open PySem L2
theorem tblB : TblB tbl := { put := by kernel_rfl, lput := by kernel_rfl, fitted := by kernel_rfl, lfit := by kernel_rfl, taken := by kernel_rfl, ltaken := by kernel_rfl, con := by kernel_rfl, index := by kernel_rfl, lindex := by kernel_rfl, dem := by kernel_rfl, fn := by kernel_rfl, cl := by kernel_rfl, lcl := by kernel_rfl, raw := by kernel_rfl, lraw := by kernel_rfl, hd := by kernel_rfl, lhd := by kernel_rfl, rk := by kernel_rfl, lrk := by kernel_rfl, ti := by kernel_rfl, told := by kernel_rfl, ltold := by kernel_rfl, acc := by kernel_rfl, accn := by kernel_rfl, iwr := by kernel_rfl, nr := by kernel_rfl, due := by kernel_rfl }
theorem tblC : TblC tbl := { state := by kernel_rfl, draw := by kernel_rfl, pick := by kernel_rfl, shape := by kernel_rfl, table := by kernel_rfl, cons := by kernel_rfl, heads := by kernel_rfl, deeper := by kernel_rfl, pats := by kernel_rfl, namesAt := by kernel_rfl, named := by kernel_rfl, call := by kernel_rfl, made := by kernel_rfl, body := by kernel_rfl, copy := by kernel_rfl, prog := by kernel_rfl, grown := by kernel_rfl, values := by kernel_rfl, asked := by kernel_rfl, wrong := by kernel_rfl, raw := by kernel_rfl, thing := by kernel_rfl, vfor := by kernel_rfl, law := by kernel_rfl }
theorem plain : PlainLaw := fun ns h => by
  obtain ⟨⟨d, st⟩, e, rfl⟩ := law_ok tblB tblC (n := 150) (by decide) ns h
  exact ⟨st, e⟩
end Px
theorem PySem.Challenge.cw_exactkinds_k51_papers_of_wrong_values_holds : PySem.Challenge.rw_exactkinds_k51_papers_of_wrong_values.Holds := by
  o_law
  exact Px.scr_law (by assumption) Px.plain
