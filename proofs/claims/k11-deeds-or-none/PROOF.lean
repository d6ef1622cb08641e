import PyProof.Rows.All
import PySem.Challenge.RW_manyreaders_k11_deeds_or_none
import Wide.All
import OpenK.AllK
import Wide.FinOn
import HandS.ForMost
import HandS.ForExc
import HandS.IsInst
import HandS.Deep
import HandS.TryOnly
import HandS.CallSlots
import HandS.WordsExc
import HandS.Walk
import KE.KDictKeyed
import KE.GoesNew
import HandS.Iter
import HandS.Zip
import HandS.Wide
import HandS.TupAny
import HandS.Style
import HandS.More
import HandS.Ends
import HandS.TupMul
import HandS.SetFor
import HandS.Conv
import HandS.Small
import HandS.Strs
import HandS.CallLocal
import HandS.TupSets
import HandS.FStr
import HandS.Text
import PyProof.StrBlock2
import PyProof.CallStr
import HandS.ExcInit
import HandS.ClsMeth
import HandS.RaiseMore
import HandS.Defaults
import PyProof.FString2
import KE.KExcIs
import HandS.ExcIs
import KE.KDictDisplayH
import KE.KDictCopyH
import KE.KDictPairs
import KE.KTupSum
import HandS.TupLen
import PyProof.AutoSeq1
import KE.KSlice
import HandS.NoneIn
import PyProof.NeData
import HandS.HotCalls
import HandS.SuiteRaise
import HandS.RaiseFrom
import HandS.ExcInitHot
import PyProof.ListStr
import PyProof.Rows.StrOver
import HandS.StrMore
import KE.KEqDict
import HandS.Rev
import HandS.DictEq
import PyProof.WalkInts
import PyProof.ReprHeadsTuple
import PyProof.StrHeap
import HandS.Flow
set_option Elab.async false
set_option linter.all false
set_option maxRecDepth 100000
namespace MR
open PySem PySem.Spec PyProof.Rows L2

inductive D where
  | non | bl (b : Bool) | int (i : Int) | str (x : Str)
  | tup (xs : List D) | lst (xs : List D)
  /-- a pair that a walk hands out: to be taken apart -/
  | wtp (xs : List D)
  | ref (i : Nat) | glb (v : V)
  | scr (ns : List Int)
  /-- a dict that stands still: its keys, its values -/
  | dct (ks ds : List D)

structure Exn where
  cls : Str
  fld : Option (Str × D)

inductive O where
  | lst (xs : List D)
  | dK (kvs : List (Key × D))
  | dN (kvs : List (D × D))
  | ins (x : Str) (fs : List (Str × D))
  /-- an exception that was caught and noted -/
  | exc (x : Exn)

abbrev Hh := List O
abbrev DEnv := List (Option D)
inductive Res (α : Type) where
  | ok (a : α) (h : Hh)
  | err (x : Exn) (h : Hh)
  | stuck

def Res.bind {α β : Type} (r : Res α) (f : α → Hh → Res β) : Res β :=
  match r with
  | .ok a h => f a h
  | .err x h => .err x h
  | .stuck => .stuck
theorem bind_ok {α β : Type} (a : α) (h : Hh) (f : α → Hh → Res β) : (Res.ok a h).bind f = f a h := rfl
theorem bind_err {α β : Type} (x : Exn) (h : Hh) (f : α → Hh → Res β) : (Res.err x h : Res α).bind f = .err x h := rfl
theorem bind_stuck {α β : Type} (f : α → Hh → Res β) : (Res.stuck : Res α).bind f = .stuck := rfl
def lift {α : Type} (o : Option α) (h : Hh) : Res α := match o with | some a => .ok a h | none => .stuck

abbrev ME := DEnv → Hh → Res D
abbrev MT := DEnv → Hh → Res Bool
abbrev MA := DEnv → Hh → Res (List D)

structure Gm where
  P : Program
  w : World
  K : PySem.W.Frag

structure Rm where
  at_ : List Addr
  res : List Addr
def Rm.add (rho : Rm) (p : Addr) : Rm := ⟨rho.at_ ++ [p], rho.res⟩
def Rm.hold (rho : Rm) (p : Addr) : Rm := ⟨rho.at_, p :: rho.res⟩

def SqTS (K : PySem.W.Frag) (H : Hp) (a : Addr) (vs : List V) : Prop :=
  (∃ o : Obj, H a = some (.frz o (.tup vs)) ∧ o.dict = none) ∨
    ∃ (o : Obj) (its : Array Value) (n : Nat), K.lookup a = some o ∧ o.cls = .type "tuple" ∧ o.dict = none ∧ o.data = .seq its n ∧ its.size ≤ sizeLine ∧ Vals vs its.toList
theorem SqTS.t {K : PySem.W.Frag} {H : Hp} {a : Addr} {vs : List V} (h : SqTS K H a vs) : SqT K H a vs := by
  rcases h with ⟨o, h, _⟩ | ⟨o, its, n, a, b, _, c⟩
  · exact .inl (.inr ⟨o, h⟩)
  · exact .inr ⟨o, its, n, a, b, c⟩
structure DEs where
  arr : Array DictEntry
  ep : Nat
def DEs.toList (e : DEs) : List DictEntry := e.arr.toList
abbrev DEs.nil : DEs := ⟨#[], 0⟩
def dictRaw (a : Addr) (es : DEs) (h : Heap) : Prop := ∃ o, h.get? a = some o ∧ o.ExactDict ∧ o.data = .dict es.arr es.ep

mutual
/-- a key by value -/
def nk : D → Option NestedKey
  | .non => some NestedKey.none
  | .bl b => some (NestedKey.num (if b then 1 else 0))
  | .int i => some (NestedKey.num i)
  | .str x => some (NestedKey.text x)
  | .tup ds => (nks ds).map NestedKey.tup
  | .wtp _ => none
  | .lst _ => none
  | .ref _ => none
  | .glb _ => none
  | .scr _ => none
  | .dct _ _ => none
def nks : List D → Option (List NestedKey)
  | [] => some []
  | d :: ds => match nk d, nks ds with
    | some k, some ks => some (k :: ks)
    | _, _ => none
end

mutual
def Den (G : Gm) (rho : Rm) (H : Hp) : D → V → Prop
  | .non, v => v = .non
  | .bl b, v => v = .bl b
  | .int i, v => v = .int i
  | .str x, v => v = .str x
  | .tup ds, v => ∃ a vs, v = .ref a ∧ SqTS G.K H a vs ∧ vs.length ≤ sizeLine ∧ Dens G rho H ds vs
  | .wtp ds, v => ∃ a vs, v = .ref a ∧ SqT G.K H a vs ∧ vs.length ≤ sizeLine ∧ Dens G rho H ds vs
  | .lst ds, v => ∃ a vs, v = .ref a ∧ H a = some (.lst vs) ∧ a ∉ rho.at_ ∧ a ∉ rho.res ∧ vs.length ≤ sizeLine ∧ Dens G rho H ds vs
  | .ref i, v => ∃ a, rho.at_[i]? = some a ∧ v = .ref a
  | .glb u, v => match u with
    | .flt _ => ∃ x, v = .str x
    | u => v = u
  | .scr ns, v => ∃ a, v = .ref a ∧ ((∃ o, H a = some (.frz o (.lst (ns.map V.int)))) ∨ ∃ (o : Obj) (its : Array Value) (n : Nat), G.K.lookup a = some o ∧ o.cls = .type "list" ∧ o.dict = none ∧ o.data = .seq its n ∧ its.size ≤ sizeLine ∧ Vals (ns.map V.int) its.toList) ∧ ns.length ≤ sizeLine
  | .dct ks ds, v => ∃ (a : Addr) (xs : List (NestedKey × Addr × Value)) (es : DEs) (us : List V), v = .ref a ∧ H a = some (.ext (dictRaw a es)) ∧ a ∉ rho.at_ ∧ a ∉ rho.res ∧ (a == sysModules) = false ∧ xs.length ≤ sizeLine ∧
      nks ks = some (xs.map (·.1)) ∧ Vals us (xs.map (·.2.2)) ∧ es.toList = xs.map (entryOfKey (nestedKind G.P G.w)) ∧ (xs.map (·.1)).Nodup ∧ (∀ x ∈ xs, x.1.depth ≤ 8) ∧ Dens G rho H ks (xs.map fun x => V.ref x.2.1) ∧ Dens G rho H ds us
def Dens (G : Gm) (rho : Rm) (H : Hp) : List D → List V → Prop
  | [], vs => vs = []
  | d :: ds, vs => ∃ v r, vs = v :: r ∧ Den G rho H d v ∧ Dens G rho H ds r
end

def Fields (G : Gm) (rho : Rm) (H : Hp) : List (Str × D) → List (Str × V) → Prop :=
  Paired fun p q => p.1 = q.1 ∧ Den G rho H p.2 q.2

def PlD (y : D) (v : V) : Prop := (y = .non ∧ v = .non) ∨ ∃ i, y = .int i ∧ v = .int i
def ExD (G : Gm) (rho : Rm) (H : Hp) (x : Exn) (c : Value) (d : Option Addr) : Prop :=
  (∃ C, PySem.W.nsIn G.K mainGlobals x.cls = some (some (.ref C)) ∧ c = .ref C) ∧ match x.fld with
    | none => d = none
    | some (f, y) => ∃ a v, d = some a ∧ H a = some (.xd [(f, v)]) ∧ a ∉ rho.at_ ∧ a ∉ rho.res ∧ PlD y v
def exAt (a : Addr) (c : Value) (d : Option Addr) : HO := .ext fun h => ∃ (oe : Obj) (vs : Array Value), h.get? a = some oe ∧ oe.cls = c ∧ oe.dict = d ∧ oe.data = .fields vs
def ObD (G : Gm) (rho : Rm) (H : Hp) (a : Addr) : O → Prop
  | .lst ds => ∃ vs, H a = some (.lst vs) ∧ vs.length ≤ sizeLine ∧ Dens G rho H ds vs
  | .dK kvs => ∃ fvs, H a = some (.dK fvs) ∧ fvs.length ≤ sizeLine ∧ Paired (fun (p : Key × D) (q : Key × V) => p.1 = q.1 ∧ Den G rho H p.2 q.2) kvs fvs
  | .dN kvs => ∃ xs : List (NestedKey × Addr × Value), (a == sysModules) = false ∧ xs.length ≤ sizeLine ∧ ∃ es, H a = some (.ext (dictRaw a es)) ∧
      Paired (fun (p : D × D) (q : NestedKey × Addr × Value) => nk p.1 = some q.1 ∧ Den G rho H p.1 (.ref q.2.1) ∧ ∃ v, RelV v q.2.2 ∧ Den G rho H p.2 v) kvs xs ∧
      es.toList = xs.map (entryOfKey (nestedKind G.P G.w)) ∧ (xs.map (·.1)).Nodup ∧ ∀ x ∈ xs, x.1.depth ≤ 8
  | .ins x fs => ∃ C dx fvs, PySem.W.nsIn G.K mainGlobals x = some (some (.ref C)) ∧ H a = some (.ins C dx fvs) ∧ H dx = some (.own a) ∧ Fields G rho H fs fvs
  | .exc x => ∃ c d, ExD G rho H x c d ∧ H a = some (exAt a c d)

structure Rep (G : Gm) (rho : Rm) (hh : Hh) (H : Hp) : Prop where
  nd : rho.at_.Nodup
  hd : ∀ a ∈ rho.res, ∃ o, H a = some o
  len : rho.at_.length = hh.length
  ob : ∀ (i : Nat) (a : Addr) (o : O), rho.at_[i]? = some a → hh[i]? = some o → ObD G rho H a o

structure Step (rho : Rm) (H : Hp) (rho' : Rm) (H' : Hp) : Prop where
  ext : ∃ e, rho'.at_ = rho.at_ ++ e ∧ ∀ a ∈ e, H a = none
  new : ∀ a ∈ rho'.res, a ∈ rho.res ∨ H a = none
  kept : ∀ a ∈ rho.res, a ∈ rho'.res
  keep : ∀ a o, H a = some o → a ∉ rho.at_ → H' a = some o
  there : ∀ a o, H a = some o → ∃ o', H' a = some o'

def EnvD (G : Gm) (rho : Rm) (H : Hp) (env : DEnv) (σ : L2.St) : Prop :=
  env.length = σ.length ∧ ∀ (i : Nat) (d : D), env[i]? = some (some d) → ∃ v, σ[i]? = some (some v) ∧ Den G rho H d v

section
variable {G : Gm} {rho rho' rho'' : Rm} {H H' H'' : Hp}
theorem Step.refl : Step rho H rho H := ⟨⟨[], by simp, by simp⟩, fun _ h => .inl h, fun _ h => h, fun _ _ h _ => h, fun _ o h => ⟨o, h⟩⟩
theorem Step.back (a : Step rho H rho' H') {x : Addr} (hx : H' x = none) : H x = none := by
  cases q : H x with
  | none => rfl
  | some o =>
    obtain ⟨o', h'⟩ := a.there x o q
    rw [h'] at hx; cases hx
theorem Step.trans (a : Step rho H rho' H') (b : Step rho' H' rho'' H'') : Step rho H rho'' H'' := by
  obtain ⟨e, ee, he⟩ := a.ext
  obtain ⟨e', ee', he'⟩ := b.ext
  refine ⟨⟨e ++ e', by rw [ee', ee, List.append_assoc], fun x hx => ?_⟩, fun x hx => ?_, fun x hx => b.kept x (a.kept x hx), fun x o h hx => ?_, fun x o h => ?_⟩
  · rcases List.mem_append.mp hx with h | h
    · exact he x h
    · exact a.back (he' x h)
  · rcases b.new x hx with h | h
    · exact a.new x h
    · exact .inr (a.back h)
  · have h1 := a.keep x o h hx
    refine b.keep x o h1 fun hm => ?_
    rw [ee] at hm
    rcases List.mem_append.mp hm with h2 | h2
    · exact hx h2
    · have := he x h2
      rw [h] at this; cases this
  · obtain ⟨o', h'⟩ := a.there x o h
    exact b.there x o' h'
theorem Step.get (a : Step rho H rho' H') {i : Nat} {x : Addr} (h : rho.at_[i]? = some x) : rho'.at_[i]? = some x := by
  obtain ⟨e, ee, _⟩ := a.ext
  have hi : i < rho.at_.length := (List.getElem?_eq_some_iff.mp h).1
  rw [ee, List.getElem?_append_left hi]; exact h
theorem Step.out (a : Step rho H rho' H') {x : Addr} {o : HO} (h : H x = some o) (hx : x ∉ rho.at_) : x ∉ rho'.at_ := by
  obtain ⟨e, ee, he⟩ := a.ext
  intro hm
  rw [ee] at hm
  rcases List.mem_append.mp hm with h2 | h2
  · exact hx h2
  · have := he x h2
    rw [h] at this; cases this
theorem Step.outR (a : Step rho H rho' H') {x : Addr} {o : HO} (h : H x = some o) (hx : x ∉ rho.res) : x ∉ rho'.res := fun hm => by
  rcases a.new x hm with h2 | h2
  · exact hx h2
  · rw [h] at h2; cases h2
theorem Step.drop (a : Step rho H rho' H') : Step rho H rho H' := ⟨⟨[], by simp, by simp⟩, fun _ h => .inl h, fun _ h => h, a.keep, a.there⟩
theorem Step.laid {p : Addr} {o : HO} (h : H p = none) : Step rho H rho (upd H p o) :=
  ⟨⟨[], by simp, by simp⟩, fun _ h => .inl h, fun _ h => h, fun x o' hx _ => by rw [upd_ne (ne_of_none hx h)]; exact hx, fun x o' hx => ⟨o', by rw [upd_ne (ne_of_none hx h)]; exact hx⟩⟩
theorem Step.laidR {p : Addr} {o : HO} (h : H p = none) : Step rho H (rho.hold p) (upd H p o) :=
  ⟨⟨[], by simp [Rm.hold], by simp⟩, fun x hx => by
    rcases List.mem_cons.mp hx with e | hx
    · rw [e]; exact .inr h
    · exact .inl hx, fun _ h => List.mem_cons_of_mem _ h, fun x o' hx _ => by rw [upd_ne (ne_of_none hx h)]; exact hx, fun x o' hx => ⟨o', by rw [upd_ne (ne_of_none hx h)]; exact hx⟩⟩
theorem Step.put {p : Addr} {o : HO} (h : p ∈ rho.at_) : Step rho H rho (upd H p o) :=
  ⟨⟨[], by simp, by simp⟩, fun _ h => .inl h, fun _ h => h, fun x o' hx hn => by rw [upd_ne (fun e => hn (by rw [e]; exact h))]; exact hx, fun x o' hx => by
    by_cases e : x = p
    · subst e; exact ⟨o, upd_same⟩
    · exact ⟨o', by rw [upd_ne e]; exact hx⟩⟩
theorem Step.since {p : Addr} {o : HO} (a : Step rho H rho' H') (h : H p = none) : Step rho H rho' (upd H' p o) :=
  ⟨a.ext, a.new, a.kept, fun x o' hx hn => by rw [upd_ne (ne_of_none hx h)]; exact a.keep x o' hx hn, fun x o' hx => by
    obtain ⟨o2, h2⟩ := a.there x o' hx
    exact ⟨o2, by rw [upd_ne (ne_of_none hx h)]; exact h2⟩⟩

theorem ObD.mut {a : Addr} {o : O} (x : ObD G rho H a o) : ∃ u, H a = some u ∧ Mut (some u) := by
  cases o with
  | lst ds => obtain ⟨vs, e, _⟩ := x; exact ⟨_, e, True.intro⟩
  | dK kvs => obtain ⟨vs, e, _⟩ := x; exact ⟨_, e, True.intro⟩
  | dN kvs => obtain ⟨xs, _, _, es, e, _⟩ := x; exact ⟨_, e, True.intro⟩
  | ins C fs => obtain ⟨_, dx, fvs, _, e, _⟩ := x; exact ⟨_, e, True.intro⟩
  | exc x => obtain ⟨_, _, _, e⟩ := x; exact ⟨_, e, True.intro⟩
theorem Rep.mut {hh : Hh} (R : Rep G rho hh H) {a : Addr} (h : a ∈ rho.at_) : ∃ u, H a = some u ∧ Mut (some u) := by
  obtain ⟨i, hi, e⟩ := List.mem_iff_getElem.mp h
  have h1 : rho.at_[i]? = some a := by rw [List.getElem?_eq_getElem hi, e]
  have h2 : i < hh.length := by rw [← R.len]; exact hi
  exact (R.ob i a hh[i] h1 (List.getElem?_eq_getElem h2)).mut

theorem rd_step (S : Step rho H rho' H') {a : Addr} {u : HO} (h : Rd H a u) (n : a ∉ rho.at_) : Rd H' a u := by
  rcases h with h | ⟨o, h⟩
  · exact .inl (S.keep a u h n)
  · exact .inr ⟨o, S.keep a _ h n⟩
theorem sqT_step {hh : Hh} (R : Rep G rho hh H) (S : Step rho H rho' H') {a : Addr} {vs : List V} (h : SqT G.K H a vs) : SqT G.K H' a vs := by
  rcases h with h | h
  · refine .inl (rd_step S h fun hm => ?_)
    obtain ⟨u, e, mu⟩ := R.mut hm
    rcases h with h | ⟨o, h⟩
    · rw [h] at e; cases e; exact mu
    · rw [h] at e; cases e; exact mu
  · exact .inr h
theorem sqTS_step {hh : Hh} (R : Rep G rho hh H) (S : Step rho H rho' H') {a : Addr} {vs : List V} (h : SqTS G.K H a vs) : SqTS G.K H' a vs := by
  rcases h with ⟨o, h, d⟩ | h
  · refine .inl ⟨o, S.keep a _ h fun hm => ?_, d⟩
    obtain ⟨u, e, mu⟩ := R.mut hm
    rw [h] at e; cases e; exact mu
  · exact .inr h
mutual
theorem Den.step {hh : Hh} (R : Rep G rho hh H) (S : Step rho H rho' H') : ∀ (d : D) (v : V), Den G rho H d v → Den G rho' H' d v
  | .non, _, h => h
  | .bl _, _, h => h
  | .int _, _, h => h
  | .str _, _, h => h
  | .tup ds, v, h => by
    rw [Den] at h ⊢
    obtain ⟨a, vs, e, q, l, ds'⟩ := h
    exact ⟨a, vs, e, sqTS_step R S q, l, Dens.step R S ds vs ds'⟩
  | .wtp ds, v, h => by
    rw [Den] at h ⊢
    obtain ⟨a, vs, e, q, l, ds'⟩ := h
    exact ⟨a, vs, e, sqT_step R S q, l, Dens.step R S ds vs ds'⟩
  | .lst ds, v, h => by
    rw [Den] at h ⊢
    obtain ⟨a, vs, e, q, n, n2, l, ds'⟩ := h
    exact ⟨a, vs, e, S.keep a _ q n, S.out q n, S.outR q n2, l, Dens.step R S ds vs ds'⟩
  | .ref i, v, h => by
    rw [Den] at h ⊢
    obtain ⟨a, e, q⟩ := h
    exact ⟨a, S.get e, q⟩
  | .glb _, _, h => h
  | .scr ns, v, h => by
    rw [Den] at h ⊢
    obtain ⟨a, e, q, l⟩ := h
    refine ⟨a, e, ?_, l⟩
    rcases q with ⟨o, q⟩ | q
    · exact .inl ⟨o, S.keep a _ q fun hm => by
        obtain ⟨u, e, mu⟩ := R.mut hm
        rw [q] at e; cases e; exact mu⟩
    · exact .inr q
  | .dct ks ds, v, h => by
    rw [Den] at h ⊢
    obtain ⟨a, xs, es, us, e, q, n, n2, l1, l2, k1, k2, k3, k4, k5, d1, d2⟩ := h
    exact ⟨a, xs, es, us, e, S.keep a _ q n, S.out q n, S.outR q n2, l1, l2, k1, k2, k3, k4, k5, Dens.step R S ks _ d1, Dens.step R S ds us d2⟩
theorem Dens.step {hh : Hh} (R : Rep G rho hh H) (S : Step rho H rho' H') : ∀ (ds : List D) (vs : List V), Dens G rho H ds vs → Dens G rho' H' ds vs
  | [], _, h => h
  | d :: ds, vs, h => by
    rw [Dens] at h ⊢
    obtain ⟨v, r, e, a, b⟩ := h
    exact ⟨v, r, e, Den.step R S d v a, Dens.step R S ds r b⟩
end
theorem EnvD.step {hh : Hh} (R : Rep G rho hh H) (S : Step rho H rho' H') {env : DEnv} {σ : L2.St} (h : EnvD G rho H env σ) : EnvD G rho' H' env σ :=
  ⟨h.1, fun i d e => let ⟨v, e1, e2⟩ := h.2 i d e; ⟨v, e1, Den.step R S d v e2⟩⟩
theorem Fields.step {hh : Hh} (R : Rep G rho hh H) (S : Step rho H rho' H') {fs : List (Str × D)} {fvs : List (Str × V)} (h : Fields G rho H fs fvs) : Fields G rho' H' fs fvs :=
  Paired.mapP h fun p q r => ⟨r.1, Den.step R S _ _ r.2⟩

theorem ExD.step {hh : Hh} (R : Rep G rho hh H) (S : Step rho H rho' H') {x : Exn} {c : Value} {d : Option Addr} (h : ExD G rho H x c d) : ExD G rho' H' x c d := by
  obtain ⟨e, h⟩ := h
  refine ⟨e, ?_⟩
  cases q : x.fld with
  | none => rw [q] at h; exact h
  | some p =>
    obtain ⟨f, y⟩ := p
    rw [q] at h
    obtain ⟨a, v, e1, e2, n, n2, e3⟩ := h
    exact ⟨a, v, e1, S.keep a _ e2 n, S.out e2 n, S.outR e2 n2, e3⟩
theorem ExD.turn {rho rho' : Rm} {x : Exn} {c : Value} {d : Option Addr} (h : ExD G rho H x c d) (t : ∀ a, a ∉ rho.at_ → a ∉ rho.res → a ∉ rho'.at_ ∧ a ∉ rho'.res) : ExD G rho' H x c d := by
  obtain ⟨e, h⟩ := h
  refine ⟨e, ?_⟩
  cases q : x.fld with
  | none => rw [q] at h; exact h
  | some p =>
    obtain ⟨f, y⟩ := p
    rw [q] at h
    obtain ⟨a, v, e1, e2, n, n2, e3⟩ := h
    exact ⟨a, v, e1, e2, (t a n n2).1, (t a n n2).2, e3⟩
theorem ExD.put {rho : Rm} {x : Exn} {c : Value} {d : Option Addr} {p : Addr} {o : HO} (h : ExD G rho H x c d) (hp : p ∈ rho.at_ ∨ p ∈ rho.res) : ExD G rho (upd H p o) x c d := by
  obtain ⟨e, h⟩ := h
  refine ⟨e, ?_⟩
  cases q : x.fld with
  | none => rw [q] at h; exact h
  | some p =>
    obtain ⟨f, y⟩ := p
    rw [q] at h
    obtain ⟨a, v, e1, e2, n, n2, e3⟩ := h
    exact ⟨a, v, e1, by rw [upd_ne (fun z => by subst z; exact hp.elim n n2)]; exact e2, n, n2, e3⟩
theorem ObD.step {hh : Hh} (R : Rep G rho hh H) (S : Step rho H rho' H') {a : Addr} {o : O} (x : ObD G rho H a o) (h : ∀ u, H a = some u → H' a = some u) (ho : ∀ dx, H dx = some (.own a) → H' dx = some (.own a)) : ObD G rho' H' a o := by
  cases o with
  | lst ds => obtain ⟨vs, e, l, q⟩ := x; exact ⟨vs, h _ e, l, Dens.step R S ds vs q⟩
  | dK kvs => obtain ⟨vs, e, l, q⟩ := x; exact ⟨vs, h _ e, l, Paired.mapP q fun p q r => ⟨r.1, Den.step R S _ _ r.2⟩⟩
  | dN kvs =>
    obtain ⟨xs, l0, l1, es, e, q, r⟩ := x
    exact ⟨xs, l0, l1, es, h _ e, Paired.mapP q fun p q r => ⟨r.1, Den.step R S _ _ r.2.1, let ⟨v, a, b⟩ := r.2.2; ⟨v, a, Den.step R S _ _ b⟩⟩, r⟩
  | ins C fs => obtain ⟨c, dx, fvs, g, e, o, q⟩ := x; exact ⟨c, dx, fvs, g, h _ e, ho _ o, q.step R S⟩
  | exc x => obtain ⟨c, d, q, e⟩ := x; exact ⟨c, d, q.step R S, h _ e⟩
theorem Rep.own {hh : Hh} (R : Rep G rho hh H) {dx a : Addr} (h : H dx = some (.own a)) : dx ∉ rho.at_ := fun hm => by
  obtain ⟨u, e, mu⟩ := R.mut hm
  rw [h] at e; cases e; exact mu

theorem Rep.laid {hh : Hh} (R : Rep G rho hh H) {p : Addr} {o : HO} (h : H p = none) : Rep G rho hh (upd H p o) :=
  ⟨R.nd, fun a m => let ⟨o', e⟩ := R.hd a m; ⟨o', by rw [upd_ne (ne_of_none e h)]; exact e⟩, R.len, fun i a o' e1 e2 => (R.ob i a o' e1 e2).step R (.laid h) (fun u q => by rw [upd_ne (ne_of_none q h)]; exact q) fun dx q => by rw [upd_ne (ne_of_none q h)]; exact q⟩
theorem Rep.step {hh : Hh} (R : Rep G rho hh H) (S : Step rho H rho H') (h : ∀ a ∈ rho.at_, H' a = H a) : Rep G rho hh H' :=
  ⟨R.nd, fun a m => let ⟨o', e⟩ := R.hd a m; S.there a o' e, R.len, fun i a o' e1 e2 => (R.ob i a o' e1 e2).step R S (fun u q => by rw [h a (List.mem_of_getElem? e1)]; exact q) fun dx q => S.keep dx _ q (R.own q)⟩
theorem Rep.put {hh : Hh} (R : Rep G rho hh H) {i : Nat} {p : Addr} {o : HO} {ob : O} (hp : rho.at_[i]? = some p) (new : ObD G rho (upd H p o) p ob) : Rep G rho (hh.set i ob) (upd H p o) := by
  have mp : p ∈ rho.at_ := List.mem_of_getElem? hp
  refine ⟨R.nd, fun a m => let ⟨o', e⟩ := R.hd a m; (Step.put mp).there a o' e, by simp [R.len], fun j a o' e1 e2 => ?_⟩
  by_cases hj : j = i
  · subst hj
    rw [hp] at e1; cases e1
    have hl : j < hh.length := by rw [← R.len]; exact (List.getElem?_eq_some_iff.mp hp).1
    rw [List.getElem?_set_self hl] at e2
    cases e2
    exact new
  · rw [List.getElem?_set_ne (Ne.symm hj)] at e2
    have ne : a ≠ p := fun e => by
      subst e
      obtain ⟨h1, q1⟩ := List.getElem?_eq_some_iff.mp e1
      obtain ⟨h2, q2⟩ := List.getElem?_eq_some_iff.mp hp
      exact hj ((List.getElem_inj R.nd).mp (q1.trans q2.symm))
    exact (R.ob j a o' e1 e2).step R (.put mp) (fun u q => by rw [upd_ne ne]; exact q) fun dx q => by
      rw [upd_ne (fun e => R.own q (by rw [e]; exact mp))]; exact q
theorem Dens.length {ds : List D} : ∀ {vs : List V}, Dens G rho H ds vs → ds.length = vs.length := by
  induction ds with
  | nil => intro vs h; rw [Dens] at h; subst h; rfl
  | cons d ds ih =>
    intro vs h
    rw [Dens] at h
    obtain ⟨v, r, rfl, _, q⟩ := h
    simp [ih q]
theorem Dens.append {ds es : List D} : ∀ {vs ws : List V}, Dens G rho H ds vs → Dens G rho H es ws → Dens G rho H (ds ++ es) (vs ++ ws) := by
  induction ds with
  | nil => intro vs ws h q; rw [Dens] at h; subst h; exact q
  | cons d ds ih =>
    intro vs ws h q
    rw [Dens] at h
    obtain ⟨v, r, rfl, a, b⟩ := h
    show Dens G rho H (d :: (ds ++ es)) _
    rw [Dens]
    exact ⟨v, r ++ ws, rfl, a, ih b q⟩
theorem Dens.get {ds : List D} : ∀ {vs : List V} {i : Nat} {d : D}, Dens G rho H ds vs → ds[i]? = some d → ∃ v, vs[i]? = some v ∧ Den G rho H d v := by
  induction ds with
  | nil => intro vs i d h e; simp at e
  | cons x ds ih =>
    intro vs i d h e
    rw [Dens] at h
    obtain ⟨v, r, rfl, a, b⟩ := h
    cases i with
    | zero => simp at e; subst e; exact ⟨v, rfl, a⟩
    | succ i =>
      obtain ⟨w, e1, e2⟩ := ih b (by simpa using e)
      exact ⟨w, by simpa using e1, e2⟩
mutual
def bel (n : Nat) : D → Bool
  | .ref i => decide (i < n)
  | .tup ds => bels n ds
  | .wtp ds => bels n ds
  | .lst ds => bels n ds
  | .non => true
  | .bl _ => true
  | .int _ => true
  | .str _ => true
  | .glb _ => true
  | .scr _ => true
  | .dct ks ds => bels n ks && bels n ds
def bels (n : Nat) : List D → Bool
  | [] => true
  | d :: ds => bel n d && bels n ds
end
mutual
theorem Den.bel : ∀ (d : D) (v : V), Den G rho H d v → bel rho.at_.length d = true
  | .non, _, _ => rfl
  | .bl _, _, _ => rfl
  | .int _, _, _ => rfl
  | .str _, _, _ => rfl
  | .tup ds, v, h => by
    rw [Den] at h
    obtain ⟨a, vs, _, _, _, q⟩ := h
    rw [MR.bel]; exact Dens.bel ds vs q
  | .wtp ds, v, h => by
    rw [Den] at h
    obtain ⟨a, vs, _, _, _, q⟩ := h
    rw [MR.bel]; exact Dens.bel ds vs q
  | .lst ds, v, h => by
    rw [Den] at h
    obtain ⟨a, vs, _, _, _, _, _, q⟩ := h
    rw [MR.bel]; exact Dens.bel ds vs q
  | .ref i, v, h => by
    rw [Den] at h
    obtain ⟨a, e, _⟩ := h
    rw [MR.bel]; exact decide_eq_true (List.getElem?_eq_some_iff.mp e).1
  | .glb _, _, _ => rfl
  | .scr _, _, _ => rfl
  | .dct ks ds, v, h => by
    rw [Den] at h
    obtain ⟨a, xs, es, us, _, _, _, _, _, _, _, _, _, _, _, d1, d2⟩ := h
    rw [MR.bel, Dens.bel ks _ d1, Dens.bel ds us d2]; rfl
theorem Dens.bel : ∀ (ds : List D) (vs : List V), Dens G rho H ds vs → bels rho.at_.length ds = true
  | [], _, _ => rfl
  | d :: ds, vs, h => by
    rw [Dens] at h
    obtain ⟨v, r, _, a, b⟩ := h
    rw [MR.bels, Den.bel d v a, Dens.bel ds r b]; rfl
end
mutual
/-- fewer things that may change -/
theorem Den.res (h1 : ∃ e, rho'.at_ = rho.at_ ++ e) (h2 : ∀ a, a ∉ rho'.at_ → a ∉ rho'.res → a ∉ rho.res) : ∀ (d : D) (v : V), Den G rho' H d v → MR.bel rho.at_.length d = true → Den G rho H d v
  | .non, _, h, _ => h
  | .bl _, _, h, _ => h
  | .int _, _, h, _ => h
  | .str _, _, h, _ => h
  | .tup ds, v, h, b => by
    rw [Den] at h ⊢
    rw [MR.bel] at b
    obtain ⟨a, vs, e1, q, l, d⟩ := h
    exact ⟨a, vs, e1, q, l, Dens.res h1 h2 ds vs d b⟩
  | .wtp ds, v, h, b => by
    rw [Den] at h ⊢
    rw [MR.bel] at b
    obtain ⟨a, vs, e1, q, l, d⟩ := h
    exact ⟨a, vs, e1, q, l, Dens.res h1 h2 ds vs d b⟩
  | .lst ds, v, h, b => by
    rw [Den] at h ⊢
    rw [MR.bel] at b
    obtain ⟨a, vs, e1, q, n, n2, l, d⟩ := h
    obtain ⟨e, ee⟩ := h1
    exact ⟨a, vs, e1, q, fun hm => n (by rw [ee]; exact List.mem_append_left _ hm), h2 a n n2, l, Dens.res ⟨e, ee⟩ h2 ds vs d b⟩
  | .ref i, v, h, b => by
    rw [Den] at h ⊢
    rw [MR.bel] at b
    obtain ⟨a, e1, q⟩ := h
    obtain ⟨e, ee⟩ := h1
    rw [ee, List.getElem?_append_left (of_decide_eq_true b)] at e1
    exact ⟨a, e1, q⟩
  | .glb _, _, h, _ => h
  | .scr _, _, h, _ => h
  | .dct ks ds, v, h, b => by
    rw [Den] at h ⊢
    rw [MR.bel, Bool.and_eq_true] at b
    obtain ⟨a, xs, es, us, e1, q, n, n2, l1, l2, k1, k2, k3, k4, k5, d1, d2⟩ := h
    obtain ⟨e, ee⟩ := h1
    exact ⟨a, xs, es, us, e1, q, fun hm => n (by rw [ee]; exact List.mem_append_left _ hm), h2 a n n2, l1, l2, k1, k2, k3, k4, k5, Dens.res ⟨e, ee⟩ h2 ks _ d1 b.1, Dens.res ⟨e, ee⟩ h2 ds us d2 b.2⟩
theorem Dens.res (h1 : ∃ e, rho'.at_ = rho.at_ ++ e) (h2 : ∀ a, a ∉ rho'.at_ → a ∉ rho'.res → a ∉ rho.res) : ∀ (ds : List D) (vs : List V), Dens G rho' H ds vs → MR.bels rho.at_.length ds = true → Dens G rho H ds vs
  | [], _, h, _ => h
  | d :: ds, vs, h, b => by
    rw [Dens] at h ⊢
    rw [MR.bels, Bool.and_eq_true] at b
    obtain ⟨v, r, e1, x, y⟩ := h
    exact ⟨v, r, e1, Den.res h1 h2 d v x b.1, Dens.res h1 h2 ds r y b.2⟩
end
theorem Paired.and_left {α β : Type} {F : α → β → Prop} {q : α → Prop} : ∀ {l₁ : List α} {l₂ : List β}, Paired F l₁ l₂ → (∀ a b, F a b → q a) → ∀ a ∈ l₁, q a
  | _, _, .nil, _, _, h => nomatch h
  | _, _, .cons r t, f, a, h => by
    rcases List.mem_cons.mp h with e | h
    · rw [e]; exact f _ _ r
    · exact Paired.and_left t f a h
theorem Paired.strong {α β : Type} {F F' : α → β → Prop} {q : α → Prop} : ∀ {l₁ : List α} {l₂ : List β}, Paired F l₁ l₂ → (∀ a ∈ l₁, q a) → (∀ a b, q a → F a b → F' a b) → Paired F' l₁ l₂
  | _, _, .nil, _, _ => .nil
  | _, _, .cons r t, h, f => .cons (f _ _ (h _ List.mem_cons_self) r) (Paired.strong t (fun a m => h a (List.mem_cons_of_mem _ m)) f)
def O.bel (n : Nat) : O → Prop
  | .lst ds => bels n ds = true
  | .dK kvs => ∀ p ∈ kvs, MR.bel n p.2 = true
  | .dN kvs => ∀ p ∈ kvs, MR.bel n p.1 = true ∧ MR.bel n p.2 = true
  | .ins _ fs => ∀ p ∈ fs, MR.bel n p.2 = true
  | .exc _ => True
theorem ObD.bel {a : Addr} {o : O} (x : ObD G rho H a o) : O.bel rho.at_.length o := by
  cases o with
  | lst ds => obtain ⟨vs, _, _, q⟩ := x; exact Dens.bel _ _ q
  | dK kvs => obtain ⟨vs, _, _, q⟩ := x; exact Paired.and_left q fun p q r => Den.bel _ _ r.2
  | dN kvs => obtain ⟨xs, _, _, es, _, q, _⟩ := x; exact Paired.and_left q fun p q r => ⟨Den.bel _ _ r.2.1, let ⟨_, _, z⟩ := r.2.2; Den.bel _ _ z⟩
  | ins C fs => obtain ⟨c, dx, fvs, _, _, _, q⟩ := x; exact Paired.and_left q fun p q r => Den.bel _ _ r.2
  | exc x => exact True.intro
theorem ObD.res (h1 : ∃ e, rho'.at_ = rho.at_ ++ e) (h2 : ∀ a, a ∉ rho'.at_ → a ∉ rho'.res → a ∉ rho.res) {a : Addr} {o : O} (x : ObD G rho' H a o) (b : O.bel rho.at_.length o) : ObD G rho H a o := by
  cases o with
  | lst ds => obtain ⟨vs, h, l, q⟩ := x; exact ⟨vs, h, l, Dens.res h1 h2 _ _ q b⟩
  | dK kvs => obtain ⟨vs, h, l, q⟩ := x; exact ⟨vs, h, l, Paired.strong q b fun p q z r => ⟨r.1, Den.res h1 h2 _ _ r.2 z⟩⟩
  | dN kvs =>
    obtain ⟨xs, l0, l1, es, h, q, r⟩ := x
    exact ⟨xs, l0, l1, es, h, Paired.strong q b fun p q z r => ⟨r.1, Den.res h1 h2 _ _ r.2.1 z.1, let ⟨v, c, d⟩ := r.2.2; ⟨v, c, Den.res h1 h2 _ _ d z.2⟩⟩, r⟩
  | ins C fs => obtain ⟨c, dx, fvs, g, h, o, q⟩ := x; exact ⟨c, dx, fvs, g, h, o, Paired.strong q b fun p q z r => ⟨r.1, Den.res h1 h2 _ _ r.2 z⟩⟩
  | exc x => obtain ⟨c, d, q, e⟩ := x; exact ⟨c, d, q.turn fun a n n2 => ⟨fun hm => n (by obtain ⟨e, ee⟩ := h1; rw [ee]; exact List.mem_append_left _ hm), h2 a n n2⟩, e⟩
theorem Rep.drop {hh g : Hh} (R0 : Rep G rho hh H) (S : Step rho H rho' H') (h1 : ∃ e, rho'.at_ = rho.at_ ++ e) (h2 : ∀ a, a ∉ rho'.at_ → a ∉ rho'.res → a ∉ rho.res) (R : Rep G rho' (hh ++ g) H') : Rep G rho hh H' :=
  ⟨R0.nd, fun a m => let ⟨o', e⟩ := R0.hd a m; S.there a o' e, R0.len, fun i a o e1 e2 => (R.ob i a o (by obtain ⟨e, ee⟩ := h1; rw [ee, List.getElem?_append_left (List.getElem?_eq_some_iff.mp e1).1]; exact e1) (by rw [List.getElem?_append_left (List.getElem?_eq_some_iff.mp e2).1]; exact e2)).res h1 h2 (R0.ob i a o e1 e2).bel⟩
theorem Rep.free {hh : Hh} {res : List Addr} (R : Rep G rho hh H) (h : ∀ a, a ∈ res → a ∈ rho.res) : Rep G ⟨rho.at_, res⟩ hh H :=
  ⟨R.nd, fun a m => R.hd a (h a m), R.len, fun i a o e1 e2 => (R.ob i a o e1 e2).res (rho := ⟨rho.at_, res⟩) (rho' := rho) ⟨[], by simp⟩ (fun a _ n hm => n (h a hm)) (R.ob i a o e1 e2).bel⟩
theorem dn_split {kvs : List (D × D)} {xs : List (NestedKey × Addr × Value)} (h : Paired (fun (p : D × D) (q : NestedKey × Addr × Value) => nk p.1 = some q.1 ∧ Den G rho H p.1 (.ref q.2.1) ∧ ∃ v, RelV v q.2.2 ∧ Den G rho H p.2 v) kvs xs) :
    ∃ us, nks (kvs.map (·.1)) = some (xs.map (·.1)) ∧ Vals us (xs.map (·.2.2)) ∧ Dens G rho H (kvs.map (·.1)) (xs.map fun x => V.ref x.2.1) ∧ Dens G rho H (kvs.map (·.2)) us := by
  induction h with
  | nil => exact ⟨[], rfl, .nil, rfl, rfl⟩
  | @cons p q ps qs r t ih =>
    obtain ⟨us, a, b, c, d⟩ := ih
    obtain ⟨r1, r2, v, r3, r4⟩ := r
    refine ⟨v :: us, ?_, .cons r3 b, ?_, ?_⟩
    · rw [List.map_cons, nks, r1, a]; rfl
    · rw [List.map_cons, List.map_cons, Dens]; exact ⟨_, _, rfl, r2, c⟩
    · rw [List.map_cons, Dens]; exact ⟨_, _, rfl, r4, d⟩
end
end MR

namespace MR
open PySem PySem.Spec PyProof.Rows L2

section
variable {α β : Type}
def PostE (G : Gm) (Rl : Rm → Hp → α → β → Prop) (W : XK) (rho : Rm) (H : Hp) (r : Res α) (Q : β → Hp → Prop) : Prop :=
  match r with
  | .ok a hh => ∀ rho' H' b, Step rho H rho' H' → Rep G rho' hh H' → Rl rho' H' a b → Q b H'
  | .err x hh => ∀ rho' H' c d, Step rho H rho' H' → Rep G rho' hh H' → ExD G rho' H' x c d → W c d H'
  | .stuck => False
variable {G : Gm} {Rl : Rm → Hp → α → β → Prop} {W : XK} {rho rho' : Rm} {H H' : Hp} {Q Q' : β → Hp → Prop}
theorem PostE.start {r : Res α} (h : PostE G Rl W rho H r Q) (S : Step rho H rho' H') : PostE G Rl W rho' H' r Q := by
  cases r with
  | ok a hh => exact fun rho2 H2 b S2 R2 q => h rho2 H2 b (S.trans S2) R2 q
  | err x hh => exact fun rho2 H2 c d S2 R2 q => h rho2 H2 c d (S.trans S2) R2 q
  | stuck => exact h
end

abbrev Cx.gm (X : Cx) : Gm := ⟨X.prog, X.w, X.K⟩

abbrev wAt (W : WX) (σ : L2.St) : XK := fun c d H => W c d σ H
def TD (G : Gm) (W : WX) (m : ME) : TE := fun σ H Q => ∃ rho env hh, Rep G rho hh H ∧ EnvD G rho H env σ ∧ PostE G (Den G) (wAt W σ) rho H (m env hh) Q
def TDt (G : Gm) (W : WX) (m : MT) : TT := fun σ H Q => ∃ rho env hh, Rep G rho hh H ∧ EnvD G rho H env σ ∧ PostE G (fun _ _ a b => a = b) (wAt W σ) rho H (m env hh) Q
def TDa (G : Gm) (W : WX) (m : MA) : TA := fun σ H Q => ∃ rho env hh, Rep G rho hh H ∧ EnvD G rho H env σ ∧ PostE G (Dens G) (wAt W σ) rho H (m env hh) Q
def TDl (G : Gm) (W : WX) (m : MA) : TE := fun σ H Q => ∃ rho env hh, Rep G rho hh H ∧ EnvD G rho H env σ ∧
  match m env hh with
  | .ok ds hh' => ∀ rho' H' p vs, Step rho H rho' H' → Rep G rho' hh' H' → H' p = some (.lst vs) → p ∈ rho'.res → p ∉ rho'.at_ → H p = none → vs.length ≤ sizeLine → Dens G rho' H' ds vs → Q (.ref p) H'
  | .err x hh' => ∀ rho' H' c d, Step rho H rho' H' → Rep G rho' hh' H' → ExD G rho' H' x c d → W c d σ H'
  | .stuck => False

structure DE (X : Cx) (e : Expr) (m : ME) : Prop where
  run : ∀ W, Takes X W → PE X e (TD (Cx.gm X) W m)
structure DT (X : Cx) (e : Expr) (m : MT) : Prop where
  run : ∀ W, Takes X W → PT X e (TDt (Cx.gm X) W m)
structure DW (X : Cx) (e : Expr) (m : MT) : Prop where
  run : ∀ W, Takes X W → PW X e (TDt (Cx.gm X) W m)
structure DA (X : Cx) (es : List Expr) (m : MA) : Prop where
  run : ∀ W, Takes X W → PA X es (TDa (Cx.gm X) W m)
structure DL (X : Cx) (e : Expr) (m : MA) : Prop where
  run : ∀ W, Takes X W → PE X e (TDl (Cx.gm X) W m)

theorem pe_weak {X : Cx} {e : Expr} {t t' : TE} (h : PE X e t) (i : ∀ σ H Q, t' σ H Q → t σ H Q) : PE X e t' := ⟨fun pins s σ H Q I q => h.run pins s σ H Q I (i σ H Q q)⟩
theorem pt_weak {X : Cx} {e : Expr} {t t' : TT} (h : PT X e t) (i : ∀ σ H Q, t' σ H Q → t σ H Q) : PT X e t' := ⟨fun pins s σ H Q I q => h.run pins s σ H Q I (i σ H Q q)⟩
theorem pw_weak {X : Cx} {e : Expr} {t t' : TT} (h : PW X e t) (i : ∀ σ H Q, t' σ H Q → t σ H Q) : PW X e t' := ⟨fun wh pins s σ H Q I q => h.run wh pins s σ H Q I (i σ H Q q)⟩
theorem pa_weak {X : Cx} {e : List Expr} {t t' : TA} (h : PA X e t) (i : ∀ σ H Q, t' σ H Q → t σ H Q) : PA X e t' := ⟨fun pos pins s σ H Q I q => h.run pos pins s σ H Q I (i σ H Q q)⟩

section
variable {α β : Type} {G : Gm} {W : WX} {σ : L2.St} {H : Hp} {Rl : Rm → Hp → α → β → Prop} {Q : β → Hp → Prop}
def At (G : Gm) (W : WX) (σ : L2.St) (H : Hp) (Rl : Rm → Hp → α → β → Prop) (Q : β → Hp → Prop) (f : DEnv → Hh → Res α) : Prop :=
  ∃ rho env hh, Rep G rho hh H ∧ EnvD G rho H env σ ∧ PostE G Rl (wAt W σ) rho H (f env hh) Q
theorem At.seq {m : ME} {f : DEnv → D → Hh → Res α} (h : At G W σ H Rl Q fun env hh => (m env hh).bind (f env)) :
    TD G W m σ H fun v H1 => ∃ rho env hh d, Rep G rho hh H1 ∧ EnvD G rho H1 env σ ∧ Den G rho H1 d v ∧ PostE G Rl (wAt W σ) rho H1 (f env d hh) Q := by
  obtain ⟨rho, env, hh, R, E, p⟩ := h
  refine ⟨rho, env, hh, R, E, ?_⟩
  have p : PostE G Rl (wAt W σ) rho H ((m env hh).bind (f env)) Q := p
  cases e : m env hh with
  | ok d hh1 =>
    rw [e, bind_ok] at p
    exact fun rho1 H1 v S R1 q => ⟨rho1, env, hh1, d, R1, E.step R S, q, p.start S⟩
  | err x hh1 => rw [e, bind_err] at p; exact p
  | stuck => rw [e, bind_stuck] at p; exact p
theorem At.seqT {m : MT} {f : DEnv → Bool → Hh → Res α} (h : At G W σ H Rl Q fun env hh => (m env hh).bind (f env)) :
    TDt G W m σ H fun b H1 => At G W σ H1 Rl Q fun env hh => f env b hh := by
  obtain ⟨rho, env, hh, R, E, p⟩ := h
  refine ⟨rho, env, hh, R, E, ?_⟩
  have p : PostE G Rl (wAt W σ) rho H ((m env hh).bind (f env)) Q := p
  cases e : m env hh with
  | ok d hh1 =>
    rw [e, bind_ok] at p
    exact fun rho1 H1 v S R1 q => ⟨rho1, env, hh1, R1, E.step R S, by subst q; exact p.start S⟩
  | err x hh1 => rw [e, bind_err] at p; exact p
  | stuck => rw [e, bind_stuck] at p; exact p
theorem At.seqA {m : MA} {f : DEnv → List D → Hh → Res α} (h : At G W σ H Rl Q fun env hh => (m env hh).bind (f env)) :
    TDa G W m σ H fun vs H1 => ∃ rho env hh ds, Rep G rho hh H1 ∧ EnvD G rho H1 env σ ∧ Dens G rho H1 ds vs ∧ PostE G Rl (wAt W σ) rho H1 (f env ds hh) Q := by
  obtain ⟨rho, env, hh, R, E, p⟩ := h
  refine ⟨rho, env, hh, R, E, ?_⟩
  have p : PostE G Rl (wAt W σ) rho H ((m env hh).bind (f env)) Q := p
  cases e : m env hh with
  | ok d hh1 =>
    rw [e, bind_ok] at p
    exact fun rho1 H1 v S R1 q => ⟨rho1, env, hh1, d, R1, E.step R S, q, p.start S⟩
  | err x hh1 => rw [e, bind_err] at p; exact p
  | stuck => rw [e, bind_stuck] at p; exact p
theorem At.seq2 {m : ME} {f : DEnv → D → D → Hh → Res α} {v1 : V} (h : ∃ rho env hh d, Rep G rho hh H ∧ EnvD G rho H env σ ∧ Den G rho H d v1 ∧ PostE G Rl (wAt W σ) rho H ((m env hh).bind (f env d)) Q) :
    TD G W m σ H fun v H1 => ∃ rho env hh d1 d2, Rep G rho hh H1 ∧ EnvD G rho H1 env σ ∧ Den G rho H1 d1 v1 ∧ Den G rho H1 d2 v ∧ PostE G Rl (wAt W σ) rho H1 (f env d1 d2 hh) Q := by
  obtain ⟨rho, env, hh, d1, R, E, q1, p⟩ := h
  refine ⟨rho, env, hh, R, E, ?_⟩
  cases e : m env hh with
  | ok d hh1 =>
    rw [e, bind_ok] at p
    exact fun rho1 H1 v S R1 q => ⟨rho1, env, hh1, d1, d, R1, E.step R S, Den.step R S _ _ q1, q, p.start S⟩
  | err x hh1 => rw [e, bind_err] at p; exact p
  | stuck => rw [e, bind_stuck] at p; exact p
theorem At.seq2A {m : MA} {f : DEnv → D → List D → Hh → Res α} {v1 : V} (h : ∃ rho env hh d, Rep G rho hh H ∧ EnvD G rho H env σ ∧ Den G rho H d v1 ∧ PostE G Rl (wAt W σ) rho H ((m env hh).bind (f env d)) Q) :
    TDa G W m σ H fun vs H1 => ∃ rho env hh d1 ds, Rep G rho hh H1 ∧ EnvD G rho H1 env σ ∧ Den G rho H1 d1 v1 ∧ Dens G rho H1 ds vs ∧ PostE G Rl (wAt W σ) rho H1 (f env d1 ds hh) Q := by
  obtain ⟨rho, env, hh, d1, R, E, q1, p⟩ := h
  refine ⟨rho, env, hh, R, E, ?_⟩
  cases e : m env hh with
  | ok d hh1 =>
    rw [e, bind_ok] at p
    exact fun rho1 H1 v S R1 q => ⟨rho1, env, hh1, d1, d, R1, E.step R S, Den.step R S _ _ q1, q, p.start S⟩
  | err x hh1 => rw [e, bind_err] at p; exact p
  | stuck => rw [e, bind_stuck] at p; exact p
theorem At.seq3 {m : ME} {f : DEnv → D → D → D → Hh → Res α} {v1 v2 : V} (h : ∃ rho env hh d1 d2, Rep G rho hh H ∧ EnvD G rho H env σ ∧ Den G rho H d1 v1 ∧ Den G rho H d2 v2 ∧ PostE G Rl (wAt W σ) rho H ((m env hh).bind (f env d1 d2)) Q) :
    TD G W m σ H fun v H1 => ∃ rho env hh d1 d2 d3, Rep G rho hh H1 ∧ EnvD G rho H1 env σ ∧ Den G rho H1 d1 v1 ∧ Den G rho H1 d2 v2 ∧ Den G rho H1 d3 v ∧ PostE G Rl (wAt W σ) rho H1 (f env d1 d2 d3 hh) Q := by
  obtain ⟨rho, env, hh, d1, d2, R, E, q1, q2, p⟩ := h
  refine ⟨rho, env, hh, R, E, ?_⟩
  cases e : m env hh with
  | ok d hh1 =>
    rw [e, bind_ok] at p
    exact fun rho1 H1 v S R1 q => ⟨rho1, env, hh1, d1, d2, d, R1, E.step R S, Den.step R S _ _ q1, Den.step R S _ _ q2, q, p.start S⟩
  | err x hh1 => rw [e, bind_err] at p; exact p
  | stuck => rw [e, bind_stuck] at p; exact p
theorem PostE.val {Wk : XK} {rho : Rm} {hh : Hh} {a : α} {b : β} (h : PostE G Rl Wk rho H (.ok a hh) Q) (R : Rep G rho hh H) (r : Rl rho H a b) : Q b H := h rho H b .refl R r
end

section
variable {X : Cx}
def eSlot (i : Nat) : ME := fun env h => match env[i]? with
  | some (some d) => .ok d h
  | _ => .stuck
def eC (d : D) : ME := fun _ h => .ok d h
theorem de_slot (i : Nat) {x : Str} {pos : Pos} (hN : X.N[i]? = some x := by rfl) (hv : Vis X.env.scope x := by first | exact Or.inl rfl | exact Or.inr (Or.inl rfl) | exact Or.inr (Or.inr rfl)) (hd : (x == ("__debug__" : Str)) = false := by decide)
    (hcd : (x == ("__classdict__" : Str)) = false := by decide) : DE X (.Name x pos) (eSlot i) := ⟨fun W _ => pe_weak (pe_var (i := i) hN hv hd hcd) fun σ H Q h => by
  obtain ⟨rho, env, hh, R, E, p⟩ := h
  unfold eSlot at p
  split at p
  · rename_i d e
    obtain ⟨v, e1, q⟩ := E.2 i d e
    exact ⟨v, e1, p.val R q⟩
  · exact p.elim⟩
theorem de_const {e : Expr} {v : V} {d : D} (h : PE X e (tC v)) (q : ∀ G rho H, Den G rho H d v) : DE X e (eC d) := ⟨fun W _ => pe_weak h fun σ H Q h => by
  obtain ⟨rho, env, hh, R, E, p⟩ := h
  exact p.val (b := v) R (q _ _ _)⟩
theorem de_int {i j pos} : DE X (.Constant (.int i) j pos) (eC (.int i)) := de_const pe_int fun _ _ _ => rfl
theorem de_bl {b j pos} : DE X (.Constant (.bool b) j pos) (eC (.bl b)) := de_const pe_bl fun _ _ _ => rfl
theorem de_non {j pos} : DE X (.Constant .none j pos) (eC .non) := de_const pe_non fun _ _ _ => rfl
theorem de_str {x j pos} : DE X (.Constant (.str x) j pos) (eC (.str x)) := de_const pe_str fun _ _ _ => rfl
theorem den_glb {G : Gm} {rho : Rm} {H : Hp} {v : V} (nf : ∀ b, v ≠ .flt b) : Den G rho H (.glb v) v := by
  cases v with
  | flt b => exact absurd rfl (nf b)
  | _ => exact Eq.refl _
theorem de_glbD {x : Str} {v : V} {d : D} {u : Value} {pos : Pos} (hg : Gl X x) (hm : X.mg x = some u) (r : RelV v u) (q : ∀ rho H, Den (Cx.gm X) rho H d v) (hd : (x == ("__debug__" : Str)) = false := by decide) : DE X (.Name x pos) (eC d) :=
  ⟨fun W _ => pe_weak (pe_glob hg hm r hd) fun σ H Q h => by
    obtain ⟨rho, env, hh, R, E, p⟩ := h
    exact p.val (b := v) R (q _ _)⟩
theorem de_bltn {x : Str} {v : V} {u : Value} {pos : Pos} (hg : Gl X x) (hm : X.mg x = none) (hv : bootBuiltins x = some u) (r : RelV v u) (hn : x ≠ "__name__" := by decide) (hd : (x == ("__debug__" : Str)) = false := by decide) (nf : ∀ b, v ≠ .flt b := by exact nofun) : DE X (.Name x pos) (eC (.glb v)) :=
  de_const (pe_bltn hg hm hv r hn hd) fun _ _ _ => den_glb nf

abbrev Op2 := D → D → Hh → Option D
abbrev OpN := List D → Hh → Option D
def Rz2 (G : Gm) (r : R2) (op : Op2) : Prop := ∀ rho hh H d1 d2 v1 v2 d (Q : VK), Rep G rho hh H → Den G rho H d1 v1 → Den G rho H d2 v2 → op d1 d2 hh = some d →
  (∀ v H', Step rho H rho H' → Rep G rho hh H' → Den G rho H' d v → Q v H') → r v1 v2 H Q
def RzN (G : Gm) (r : List V → Hp → VK → Prop) (op : OpN) : Prop := ∀ rho hh H ds vs d (Q : VK), Rep G rho hh H → Dens G rho H ds vs → op ds hh = some d →
  (∀ v H', Step rho H rho H' → Rep G rho hh H' → Den G rho H' d v → Q v H') → r vs H Q
def eOp2 (f : Op2) (a b : ME) : ME := fun env h => (a env h).bind fun x h1 => (b env h1).bind fun y h2 => lift (f x y h2) h2
def eOpN (f : OpN) (as : MA) : ME := fun env h => (as env h).bind fun xs h1 => lift (f xs h1) h1
theorem tOp_of {G : Gm} {W : WX} {r : R2} {f : Op2} {ma mb : ME} {σ : L2.St} {H : Hp} {Q : VK} (z : Rz2 G r f) (h : TD G W (eOp2 f ma mb) σ H Q) : tOp r (TD G W ma) (TD G W mb) σ H Q := by
  have h1 := At.seq (m := ma) (f := fun env x h1 => (mb env h1).bind fun y h2 => lift (f x y h2) h2) h
  obtain ⟨rho, env, hh, R, E, p⟩ := h1
  refine ⟨rho, env, hh, R, E, ?_⟩
  cases e : ma env hh with
  | ok d hh1 =>
    rw [e] at p
    intro rho1 H1 v S R1 q
    have h2 := At.seq2 (m := mb) (f := fun env x y h2 => lift (f x y h2) h2) (p rho1 H1 v S R1 q)
    obtain ⟨rho2, env2, hh2, R2, E2, p2⟩ := h2
    refine ⟨rho2, env2, hh2, R2, E2, ?_⟩
    cases e2 : mb env2 hh2 with
    | ok d2 hh3 =>
      rw [e2] at p2
      intro rho3 H3 v3 S3 R3 q3
      obtain ⟨rho4, env4, hh4, x, y, R4, E4, qx, qy, p4⟩ := p2 rho3 H3 v3 S3 R3 q3
      cases o : f x y hh4 with
      | none => rw [show lift (f x y hh4) hh4 = .stuck by rw [o]; rfl] at p4; exact p4.elim
      | some dd =>
        rw [show lift (f x y hh4) hh4 = .ok dd hh4 by rw [o]; rfl] at p4
        exact z rho4 hh4 H3 x y v v3 dd Q R4 qx qy o fun w H' S' R' q' => p4 rho4 H' w S' R' q'
    | err x hh1 => rw [e2] at p2; exact p2
    | stuck => rw [e2] at p2; exact p2
  | err x hh1 => rw [e] at p; exact p
  | stuck => rw [e] at p; exact p
variable {a b : Expr} {ma mb : ME} {pos : Pos}
theorem de_op {op : Operator} {r : R2} {f : Op2} (ho : OpR X (binaryOp op) r) (z : Rz2 (Cx.gm X) r f) (ha : DE X a ma) (hb : DE X b mb) : DE X (.BinOp a op b pos) (eOp2 f ma mb) :=
  ⟨fun W tk => pe_weak (pe_op ho (ha.run W tk) (hb.run W tk)) fun σ H Q h => tOp_of z h⟩
theorem de_cmp {op : CmpOp} {r : R2} {f : Op2} (ho : OpR X (compareOp op) r) (z : Rz2 (Cx.gm X) r f) (ha : DE X a ma) (hb : DE X b mb) (hm : behindInMarks op b = false) : DE X (.Compare a [op] [b] pos) (eOp2 f ma mb) :=
  ⟨fun W tk => pe_weak (pe_cmpR ho (ha.run W tk) (hb.run W tk) hm) fun σ H Q h => tOp_of z h⟩
theorem de_ix {r : R2} {f : Op2} (hr : IxR X r) (z : Rz2 (Cx.gm X) r f) (ha : DE X a ma) (hb : DE X b mb) (hs : PlainIx b) : DE X (.Subscript a b pos) (eOp2 f ma mb) :=
  ⟨fun W tk => pe_weak (pe_ix hr (ha.run W tk) (hb.run W tk) hs) fun σ H Q h => tOp_of z h⟩

def aNil : MA := fun _ h => .ok [] h
def aCons (a : ME) (as : MA) : MA := fun env h => (a env h).bind fun x h1 => (as env h1).bind fun xs h2 => .ok (x :: xs) h2
theorem da_nil : DA X [] aNil := ⟨fun W _ => pa_weak pa_nil fun σ H Q h => by
  obtain ⟨rho, env, hh, R, E, p⟩ := h
  exact PostE.val (b := []) p R rfl⟩
variable {es : List Expr} {e : Expr} {m : ME} {ms : MA}
theorem da_cons (ha : DE X e m) (hr : DA X es ms) (hs : starEach (e :: es) X.env = (false, eval e X.env) :: starEach es X.env := by rfl) : DA X (e :: es) (aCons m ms) :=
  ⟨fun W tk => pa_weak (pa_cons (ha.run W tk) (hr.run W tk) hs) fun σ H Q h => by
    have h1 := At.seq (m := m) (f := fun env x h1 => (ms env h1).bind fun xs h2 => .ok (x :: xs) h2) h
    obtain ⟨rho, env, hh, R, E, p⟩ := h1
    refine ⟨rho, env, hh, R, E, ?_⟩
    cases e : m env hh with
    | ok d hh1 =>
      rw [e] at p
      intro rho1 H1 v S R1 q
      have h2 := At.seq2A (m := ms) (f := fun env x xs h2 => .ok (x :: xs) h2) (p rho1 H1 v S R1 q)
      obtain ⟨rho2, env2, hh2, R2, E2, p2⟩ := h2
      refine ⟨rho2, env2, hh2, R2, E2, ?_⟩
      cases e2 : ms env2 hh2 with
      | ok d2 hh3 =>
        rw [e2] at p2
        intro rho3 H3 vs S3 R3 q3
        obtain ⟨rho4, env4, hh4, x, xs, R4, E4, qx, qy, p4⟩ := p2 rho3 H3 vs S3 R3 q3
        exact PostE.val (b := v :: vs) p4 R4 ⟨v, vs, rfl, qx, qy⟩
      | err x hh1 => rw [e2] at p2; exact p2
      | stuck => rw [e2] at p2; exact p2
    | err x hh1 => rw [e] at p; exact p
    | stuck => rw [e] at p; exact p⟩
theorem tA_of {G : Gm} {W : WX} {ms : MA} {α β : Type} {Rl : Rm → Hp → α → β → Prop} {f : DEnv → List D → Hh → Res α} {σ : L2.St} {H : Hp} {Q : β → Hp → Prop} {k : List V → Hp → Prop}
    (h : At G W σ H Rl Q fun env hh => (ms env hh).bind (f env))
    (hk : ∀ rho env hh H1 ds vs, Rep G rho hh H1 → EnvD G rho H1 env σ → Dens G rho H1 ds vs → PostE G Rl (wAt W σ) rho H1 (f env ds hh) Q → k vs H1) : TDa G W ms σ H k := by
  obtain ⟨rho, env, hh, R, E, p⟩ := At.seqA h
  refine ⟨rho, env, hh, R, E, ?_⟩
  cases e : ms env hh with
  | ok d hh1 =>
    rw [e] at p
    intro rho1 H1 v S R1 q
    obtain ⟨rho4, env4, hh4, ds, R4, E4, q4, p4⟩ := p rho1 H1 v S R1 q
    exact hk rho4 env4 hh4 H1 ds v R4 E4 q4 p4
  | err x hh1 => rw [e] at p; exact p
  | stuck => rw [e] at p; exact p
theorem tE_of {G : Gm} {W : WX} {m : ME} {α β : Type} {Rl : Rm → Hp → α → β → Prop} {f : DEnv → D → Hh → Res α} {σ : L2.St} {H : Hp} {Q : β → Hp → Prop} {k : V → Hp → Prop}
    (h : At G W σ H Rl Q fun env hh => (m env hh).bind (f env))
    (hk : ∀ rho env hh H1 d v, Rep G rho hh H1 → EnvD G rho H1 env σ → Den G rho H1 d v → PostE G Rl (wAt W σ) rho H1 (f env d hh) Q → k v H1) : TD G W m σ H k := by
  obtain ⟨rho, env, hh, R, E, p⟩ := At.seq h
  refine ⟨rho, env, hh, R, E, ?_⟩
  cases e : m env hh with
  | ok d hh1 =>
    rw [e] at p
    intro rho1 H1 v S R1 q
    obtain ⟨rho4, env4, hh4, ds, R4, E4, q4, p4⟩ := p rho1 H1 v S R1 q
    exact hk rho4 env4 hh4 H1 ds v R4 E4 q4 p4
  | err x hh1 => rw [e] at p; exact p
  | stuck => rw [e] at p; exact p
theorem tE2_of {G : Gm} {W : WX} {m : ME} {α β : Type} {Rl : Rm → Hp → α → β → Prop} {f : DEnv → D → D → Hh → Res α} {σ : L2.St} {H : Hp} {Q : β → Hp → Prop} {v1 : V} {d1 : D} {k : V → Hp → Prop}
    (h : ∃ rho env hh, Rep G rho hh H ∧ EnvD G rho H env σ ∧ Den G rho H d1 v1 ∧ PostE G Rl (wAt W σ) rho H ((m env hh).bind (f env d1)) Q)
    (hk : ∀ rho env hh H1 d2 v, Rep G rho hh H1 → EnvD G rho H1 env σ → Den G rho H1 d1 v1 → Den G rho H1 d2 v → PostE G Rl (wAt W σ) rho H1 (f env d1 d2 hh) Q → k v H1) : TD G W m σ H k := by
  obtain ⟨rho, env, hh, R, E, q1, p⟩ := h
  refine ⟨rho, env, hh, R, E, ?_⟩
  cases e : m env hh with
  | ok d hh1 =>
    rw [e, bind_ok] at p
    exact fun rho1 H1 v S R1 q => hk rho1 env hh1 H1 d v R1 (E.step R S) (Den.step R S _ _ q1) q (p.start S)
  | err x hh1 => rw [e, bind_err] at p; exact p
  | stuck => rw [e, bind_stuck] at p; exact p
theorem lift_post {α β : Type} {G : Gm} {Rl : Rm → Hp → α → β → Prop} {W : XK} {rho : Rm} {H : Hp} {o : Option α} {hh : Hh} {Q : β → Hp → Prop} (p : PostE G Rl W rho H (lift o hh) Q) : ∃ a, o = some a ∧ PostE G Rl W rho H (.ok a hh) Q := by
  cases o with
  | none => exact p.elim
  | some a => exact ⟨a, rfl, p⟩
theorem rz_of {G : Gm} {W : XK} {r : List V → Hp → VK → Prop} {f : OpN} {rho : Rm} {hh : Hh} {H : Hp} {ds : List D} {vs : List V} {Q : VK} (z : RzN G r f) (R : Rep G rho hh H) (q : Dens G rho H ds vs)
    (p : PostE G (Den G) W rho H (lift (f ds hh) hh) Q) : r vs H Q := by
  obtain ⟨d, e, p⟩ := lift_post p
  exact z rho hh H ds vs d Q R q e fun w H' S' R' q' => p rho H' w S' R' q'

theorem de_callB {id : String} {x : Str} {p : Pos} {r : List V → Hp → VK → Prop} {f : OpN} (hc : CallR X (.builtin id) r) (z : RzN (Cx.gm X) r f) (hg : Gl X x) (hm : X.mg x = none) (hv : bootBuiltins x = some (.builtin id)) (ha : DA X (e :: es) ms)
    (hn : x ≠ "__name__" := by decide) (hdb : (x == ("__debug__" : Str)) = false := by decide) (he : starEach (e :: es) X.env = (false, eval e X.env) :: starEach es X.env := by rfl) (hpl : (backTo pos (starEach es X.env)).any (·.1) = false := by rfl) :
    DE X (.Call (.Name x p) (e :: es) [] pos) (eOpN f ms) :=
  ⟨fun W tk => pe_weak (pe_callB hc hg hm hv (ha.run W tk) hn hdb he hpl) fun σ H Q h => tA_of h fun rho env hh H1 ds vs R E q p => rz_of z R q p⟩
theorem de_callTy {T : String} {x : Str} {p : Pos} {r : List V → Hp → VK → Prop} {f : OpN} (hc : CallR X (.type T) r) (z : RzN (Cx.gm X) r f) (hg : Gl X x) (hm : X.mg x = none) (hv : bootBuiltins x = some (.type T)) (ha : DA X (e :: es) ms)
    (hn : x ≠ "__name__" := by decide) (hdb : (x == ("__debug__" : Str)) = false := by decide) (he : starEach (e :: es) X.env = (false, eval e X.env) :: starEach es X.env := by rfl) (hpl : (backTo pos (starEach es X.env)).any (·.1) = false := by rfl) :
    DE X (.Call (.Name x p) (e :: es) [] pos) (eOpN f ms) :=
  ⟨fun W tk => pe_weak (pe_callTy hc hg hm hv (ha.run W tk) hn hdb he hpl) fun σ H Q h => tA_of h fun rho env hh H1 ds vs R E q p => rz_of z R q p⟩

def eTup (ms : MA) : ME := fun env h => (ms env h).bind fun xs h1 => .ok (.tup xs) h1
theorem Den.tup_new {G : Gm} {rho : Rm} {hh : Hh} {H : Hp} {ds : List D} {vs : List V} {p : Addr} {o : Obj} (ho : o.dict = none) (R : Rep G rho hh H) (q : Dens G rho H ds vs) (l : vs.length ≤ sizeLine) (hp : H p = none) : Den G rho (upd H p (.frz o (.tup vs))) (.tup ds) (.ref p) := by
  rw [Den]
  exact ⟨p, vs, rfl, .inl ⟨o, upd_same, ho⟩, l, Dens.step R (.laid hp) _ _ q⟩
abbrev NewT (H : Hp) (ys : List V) (Q : VK) : Prop := ∀ (p : Addr) (o : Obj), H p = none → o.dict = none → Q (.ref p) (upd H p (.frz o (.tup ys)))
theorem inv_newT {X : Cx} {pins : List (Addr × Obj)} {σ : L2.St} {H : Hp} {s : Shared} (I : Inv X pins σ H s) {ys : List V} {its : List Value} (r : Vals ys its) (hz : ys.length ≤ sizeLine) {Q : VK} (q : NewT H ys Q) :
    EP X pins σ Q (.ref s.heap.objs.size) { s with heap := s.heap.push { cls := .type "tuple", data := .seq its.toArray } } :=
  ⟨.ref s.heap.objs.size, _, I.laid (t' := s.toks) (o := .frz { cls := .type "tuple", data := .seq its.toArray } (.tup ys)) (fun b ob q => Heap.get?_push_of_some _ q) (Nat.le_refl _) ⟨Heap.get?_push_size _ rfl, hz, its, r, IsTup.new _ _⟩, rfl, q _ _ (I.hok.fresh (Nat.le_refl _)) rfl⟩
def tTupF (t : TA) : TE := fun σ H Q => t σ H fun xs H1 => xs.length ≤ sizeLine ∧ NewT H1 xs Q
theorem pe_tupF {X : Cx} {es : List Expr} {t : TA} {x1} {pos : Pos} (h : PA X es t) : PE X (.Tuple es x1 pos) (tTupF t) :=
  ⟨fun pins s σ H Q I hq => wpAny_Tuple_spliced (thn (h.run pos pins s σ H _ I hq) fun us s1 ⟨xs, H1, I1, r, z, q⟩ => ⟨by rw [← r.length]; exact z, inv_newT I1 r z q⟩)⟩
structure DAn (X : Cx) (es : List Expr) (n : Nat) (m : MA) : Prop where
  da : DA X es m
  n : ∀ env h ds h', m env h = .ok ds h' → ds.length = n
theorem dan_nil : DAn X [] 0 aNil := ⟨da_nil, fun _ _ _ _ h => by cases h; rfl⟩
theorem dan_cons {n : Nat} (ha : DE X e m) (hr : DAn X es n ms) (hs : starEach (e :: es) X.env = (false, eval e X.env) :: starEach es X.env := by rfl) : DAn X (e :: es) (n + 1) (aCons m ms) := ⟨da_cons ha hr.da hs, fun env h ds h' q => by
  unfold aCons at q
  cases e : m env h with
  | ok d h1 =>
    rw [e, bind_ok] at q
    cases e2 : ms env h1 with
    | ok xs h2 =>
      rw [e2, bind_ok] at q
      cases q
      simp [hr.n _ _ _ _ e2]
    | err x h2 => rw [e2] at q; cases q
    | stuck => rw [e2] at q; cases q
  | err x h2 => rw [e] at q; cases q
  | stuck => rw [e] at q; cases q⟩
theorem de_tup {x1} {n : Nat} (h : DAn X es n ms) (hn : n ≤ sizeLine := by decide) : DE X (.Tuple es x1 pos) (eTup ms) :=
  ⟨fun W tk => pe_weak (pe_tupF (h.da.run W tk)) fun σ H Q hq => by
    obtain ⟨rho, env, hh, R, E, p⟩ := hq
    refine ⟨rho, env, hh, R, E, ?_⟩
    unfold eTup at p
    cases e : ms env hh with
    | ok ds hh1 =>
      rw [e, bind_ok] at p
      intro rho1 H1 vs S R1 q
      have hl : vs.length ≤ sizeLine := by rw [← q.length, h.n _ _ _ _ e]; exact hn
      exact ⟨hl, fun pp o hp ho => p rho1 _ _ (S.trans (.laid hp)) (R1.laid hp) (Den.tup_new ho R1 q hl hp)⟩
    | err x hh1 => rw [e] at p; exact p
    | stuck => rw [e] at p; exact p⟩
theorem new_list {G : Gm} {rho rho' : Rm} {hh : Hh} {H H' : Hp} {ds : List D} {vs : List V} {p : Addr} (S : Step rho H rho' H') (R : Rep G rho' hh H') (q : Dens G rho' H' ds vs) (hp : H' p = none) :
    Step rho H (rho'.hold p) (upd H' p (.lst vs)) ∧ Rep G (rho'.hold p) hh (upd H' p (.lst vs)) ∧ p ∉ rho'.at_ ∧ Dens G (rho'.hold p) (upd H' p (.lst vs)) ds vs := by
  refine ⟨S.trans (.laidR hp), ?_, fun hm => ?_, Dens.step R (.laidR hp) _ _ q⟩
  · exact ⟨R.nd, fun a m => by
      rcases List.mem_cons.mp m with e | m
      · rw [e]; exact ⟨_, upd_same⟩
      · obtain ⟨o', e⟩ := R.hd a m
        exact ⟨o', by rw [upd_ne (ne_of_none e hp)]; exact e⟩, R.len, fun i a o' e1 e2 => (R.ob i a o' e1 e2).step R (.laidR hp) (fun u q => by rw [upd_ne (ne_of_none q hp)]; exact q) fun dx q => by rw [upd_ne (ne_of_none q hp)]; exact q⟩
  · obtain ⟨u, e, _⟩ := R.mut hm
    rw [hp] at e; cases e
theorem dl_lst {n : Nat} (h : DAn X es n ms) (hn : n ≤ sizeLine := by decide) : DL X (.List es pos) ms :=
  ⟨fun W tk => pe_weak (pe_lst (h.da.run W tk)) fun σ H Q hq => by
    obtain ⟨rho, env, hh, R, E, p⟩ := hq
    refine ⟨rho, env, hh, R, E, ?_⟩
    cases e : ms env hh with
    | ok ds hh1 =>
      rw [e] at p
      intro rho1 H1 vs S R1 q
      have hl : vs.length ≤ sizeLine := by rw [← q.length, h.n _ _ _ _ e]; exact hn
      refine ⟨hl, fun pp hp => ?_⟩
      obtain ⟨a, b, c, d⟩ := new_list S R1 q hp
      exact p _ _ pp vs a b upd_same List.mem_cons_self c (S.back hp) hl d
    | err x hh1 => rw [e] at p; exact p
    | stuck => rw [e] at p; exact p⟩
def eFrz (ms : MA) : ME := fun env h => (ms env h).bind fun xs h1 => .ok (.lst xs) h1
theorem frz_of {G : Gm} {W : WX} {σ : L2.St} {H : Hp} {Q : VK} (hq : TD G W (eFrz ms) σ H Q) : TDl G W ms σ H Q := by
  obtain ⟨rho, env, hh, R, E, p⟩ := hq
  refine ⟨rho, env, hh, R, E, ?_⟩
  unfold eFrz at p
  cases e : ms env hh with
  | ok ds hh1 =>
    rw [e, bind_ok] at p
    intro rho1 H1 pp vs S R1 hp hr ha hn hl q
    -- all that was set apart but pp, and is still so
    have R2 := R1.free (res := rho1.res.filter (fun a => decide (a ≠ pp))) (fun a h => (List.mem_filter.mp h).1)
    refine p ⟨rho1.at_, rho1.res.filter (fun a => decide (a ≠ pp))⟩ H1 _ ⟨S.ext, fun a h => S.new a (List.mem_filter.mp h).1, fun a h => List.mem_filter.mpr ⟨S.kept a h, by
      obtain ⟨o', e⟩ := R.hd a h
      exact decide_eq_true (ne_of_none e hn)⟩, S.keep, S.there⟩ R2 ?_
    rw [Den]
    refine ⟨pp, vs, rfl, hp, ha, fun hm => by simp at hm, hl, ?_⟩
    exact Dens.res (rho' := rho1) ⟨[], by simp⟩ (fun a _ n hm => n (List.mem_filter.mp hm).1) _ _ q (show bels rho1.at_.length ds = true from Dens.bel _ _ q)
  | err x hh1 => rw [e] at p; exact p
  | stuck => rw [e] at p; exact p
theorem de_frz (h : DL X e ms) : DE X e (eFrz ms) := ⟨fun W tk => pe_weak (h.run W tk) fun σ H Q hq => frz_of hq⟩
def eNew (ms : MA) : ME := fun env h => (ms env h).bind fun xs h1 => .ok (.ref h1.length) (h1 ++ [.lst xs])
mutual
theorem den_turn {G : Gm} {rho rho' : Rm} {H : Hp} (h1 : ∀ (i : Nat) a, rho.at_[i]? = some a → rho'.at_[i]? = some a) (h2 : ∀ a, a ∉ rho.at_ → a ∉ rho.res → a ∉ rho'.at_ ∧ a ∉ rho'.res) : ∀ (d : D) (v : V), Den G rho H d v → Den G rho' H d v
  | .non, _, h => h
  | .bl _, _, h => h
  | .int _, _, h => h
  | .str _, _, h => h
  | .tup ds, v, h => by
    rw [Den] at h ⊢
    obtain ⟨a, vs, e, q, l, ds'⟩ := h
    exact ⟨a, vs, e, q, l, dens_turn h1 h2 ds vs ds'⟩
  | .wtp ds, v, h => by
    rw [Den] at h ⊢
    obtain ⟨a, vs, e, q, l, ds'⟩ := h
    exact ⟨a, vs, e, q, l, dens_turn h1 h2 ds vs ds'⟩
  | .lst ds, v, h => by
    rw [Den] at h ⊢
    obtain ⟨a, vs, e, q, n, n2, l, ds'⟩ := h
    exact ⟨a, vs, e, q, (h2 a n n2).1, (h2 a n n2).2, l, dens_turn h1 h2 ds vs ds'⟩
  | .ref i, v, h => by
    rw [Den] at h ⊢
    obtain ⟨a, e, q⟩ := h
    exact ⟨a, h1 i a e, q⟩
  | .glb _, _, h => h
  | .scr _, _, h => h
  | .dct ks ds, v, h => by
    rw [Den] at h ⊢
    obtain ⟨a, xs, es, us, e, q, n, n2, l1, l2, k1, k2, k3, k4, k5, d1, d2⟩ := h
    exact ⟨a, xs, es, us, e, q, (h2 a n n2).1, (h2 a n n2).2, l1, l2, k1, k2, k3, k4, k5, dens_turn h1 h2 ks _ d1, dens_turn h1 h2 ds us d2⟩
theorem dens_turn {G : Gm} {rho rho' : Rm} {H : Hp} (h1 : ∀ (i : Nat) a, rho.at_[i]? = some a → rho'.at_[i]? = some a) (h2 : ∀ a, a ∉ rho.at_ → a ∉ rho.res → a ∉ rho'.at_ ∧ a ∉ rho'.res) : ∀ (ds : List D) (vs : List V), Dens G rho H ds vs → Dens G rho' H ds vs
  | [], _, h => h
  | d :: ds, vs, h => by
    rw [Dens] at h ⊢
    obtain ⟨v, r, e, a, b⟩ := h
    exact ⟨v, r, e, den_turn h1 h2 d v a, dens_turn h1 h2 ds r b⟩
end
theorem obd_turn {G : Gm} {rho rho' : Rm} {H : Hp} (h1 : ∀ (i : Nat) a, rho.at_[i]? = some a → rho'.at_[i]? = some a) (h2 : ∀ a, a ∉ rho.at_ → a ∉ rho.res → a ∉ rho'.at_ ∧ a ∉ rho'.res) {a : Addr} {o : O} (x : ObD G rho H a o) : ObD G rho' H a o := by
  cases o with
  | lst ds => obtain ⟨vs, e, l, q⟩ := x; exact ⟨vs, e, l, dens_turn h1 h2 ds vs q⟩
  | dK kvs => obtain ⟨vs, e, l, q⟩ := x; exact ⟨vs, e, l, Paired.mapP q fun p q r => ⟨r.1, den_turn h1 h2 _ _ r.2⟩⟩
  | dN kvs =>
    obtain ⟨xs, l0, l1, es, e, q, r⟩ := x
    exact ⟨xs, l0, l1, es, e, Paired.mapP q fun p q r => ⟨r.1, den_turn h1 h2 _ _ r.2.1, let ⟨v, a, b⟩ := r.2.2; ⟨v, a, den_turn h1 h2 _ _ b⟩⟩, r⟩
  | ins C fs => obtain ⟨c, dx, fvs, g, e, o, q⟩ := x; exact ⟨c, dx, fvs, g, e, o, Paired.mapP q fun p q r => ⟨r.1, den_turn h1 h2 _ _ r.2⟩⟩
  | exc x => obtain ⟨c, d, q, e⟩ := x; exact ⟨c, d, q.turn h2, e⟩
theorem Rep.turn {G : Gm} {rho : Rm} {H : Hp} {hh : Hh} {p : Addr} {ob : O} (R : Rep G rho hh H) (hr : p ∈ rho.res) (ha : p ∉ rho.at_) (new : ObD G rho H p ob) : Rep G (rho.add p) (hh ++ [ob]) H := by
  have h1 : ∀ (i : Nat) a, rho.at_[i]? = some a → (rho.add p).at_[i]? = some a := fun i a e => by
    show (rho.at_ ++ [p])[i]? = some a
    rw [List.getElem?_append_left (List.getElem?_eq_some_iff.mp e).1]; exact e
  have h2 : ∀ a, a ∉ rho.at_ → a ∉ rho.res → a ∉ (rho.add p).at_ ∧ a ∉ (rho.add p).res := fun a n n2 => ⟨fun hm => by
    rcases List.mem_append.mp (show a ∈ rho.at_ ++ [p] from hm) with h | h
    · exact n h
    · simp at h; subst h; exact n2 hr, n2⟩
  refine ⟨?_, R.hd, by simp [Rm.add, R.len], fun i a o' e1 e2 => ?_⟩
  · show (rho.at_ ++ [p]).Nodup
    rw [List.nodup_append]
    exact ⟨R.nd, by simp, fun x hx y hy e => ha (by simp at hy; subst hy; exact e ▸ hx)⟩
  · have e1 : (rho.at_ ++ [p])[i]? = some a := e1
    by_cases hi : i < rho.at_.length
    · rw [List.getElem?_append_left hi] at e1
      rw [List.getElem?_append_left (by rw [← R.len]; exact hi)] at e2
      exact obd_turn h1 h2 (R.ob i a o' e1 e2)
    · have hl : i < (rho.at_ ++ [p]).length := (List.getElem?_eq_some_iff.mp e1).1
      have e : i = rho.at_.length := by simp at hl; omega
      subst e
      rw [List.getElem?_append_right (Nat.le_refl _)] at e1
      rw [R.len, List.getElem?_append_right (Nat.le_refl _)] at e2
      simp at e1 e2
      subst e1; subst e2
      exact obd_turn h1 h2 new
theorem Step.turn {rho rho' : Rm} {H H' : Hp} {p : Addr} (S : Step rho H rho' H') (h : H p = none) : Step rho H (rho'.add p) H' := by
  obtain ⟨e, ee, he⟩ := S.ext
  refine ⟨⟨e ++ [p], by show rho'.at_ ++ [p] = _; rw [ee, List.append_assoc], fun a hm => ?_⟩, S.new, S.kept, S.keep, S.there⟩
  rcases List.mem_append.mp hm with h1 | h1
  · exact he a h1
  · simp at h1; subst h1; exact h
theorem new_of {G : Gm} {W : WX} {σ : L2.St} {H : Hp} {Q : VK} (hq : TD G W (eNew ms) σ H Q) : TDl G W ms σ H Q := by
  obtain ⟨rho, env, hh, R, E, p⟩ := hq
  refine ⟨rho, env, hh, R, E, ?_⟩
  unfold eNew at p
  cases e : ms env hh with
  | ok ds hh1 =>
    rw [e, bind_ok] at p
    intro rho1 H1 pp vs S R1 hp hr ha hn hl q
    refine p _ _ _ (S.turn hn) (R1.turn hr ha ⟨vs, hp, hl, q⟩) ?_
    rw [Den]
    exact ⟨pp, by rw [← R1.len]; show (rho1.at_ ++ [pp])[_]? = _; rw [List.getElem?_append_right (Nat.le_refl _)]; simp, rfl⟩
  | err x hh1 => rw [e] at p; exact p
  | stuck => rw [e] at p; exact p
theorem de_new (h : DL X e ms) : DE X e (eNew ms) := ⟨fun W tk => pe_weak (h.run W tk) fun σ H Q hq => new_of hq⟩
end
end MR

namespace MR
open PySem PySem.Spec PyProof.Rows L2

def asB (d : D) : Option Bool := match d with | .bl b => some b | _ => none
theorem asB_some {d : D} {b : Bool} (h : asB d = some b) : d = .bl b := by
  cases d <;> simp [asB] at h
  subst h; rfl
def tE (m : ME) : MT := fun env h => (m env h).bind fun d h1 => lift (asB d) h1
def tAnd (a b : MT) : MT := fun env h => (a env h).bind fun k h1 => if k = true then b env h1 else .ok false h1
def tOr (a b : MT) : MT := fun env h => (a env h).bind fun k h1 => if k = true then .ok true h1 else b env h1
def tNot (a : MT) : MT := fun env h => (a env h).bind fun k h1 => .ok (!k) h1
def eAnd (a b : ME) : ME := fun env h => (a env h).bind fun d h1 => (lift (asB d) h1).bind fun k h2 => if k = true then b env h2 else .ok (.bl false) h2
def eOr (a b : ME) : ME := fun env h => (a env h).bind fun d h1 => (lift (asB d) h1).bind fun k h2 => if k = true then .ok (.bl true) h2 else b env h2
def eNot (a : ME) : ME := fun env h => (a env h).bind fun d h1 => (lift (asB d) h1).bind fun k h2 => .ok (.bl (!k)) h2
section
variable {X : Cx} {e a b : Expr} {m ma mb : ME} {ta tb : MT} {pos : Pos} {rest : List Expr}
theorem tB_of {G : Gm} {W : WX} {σ : L2.St} {H : Hp} {Q : Bool → Hp → Prop} (h : TDt G W (tE m) σ H Q) : TD G W m σ H fun x H1 => ∃ c, x = .bl c ∧ Q c H1 :=
  tE_of (Rl := fun _ _ a b => a = b) h fun rho env hh H1 d v R E q p => by
    obtain ⟨k, e, p⟩ := lift_post p
    have e := asB_some e
    subst e
    exact ⟨k, q, p.val R rfl⟩
theorem dt_val (h : DE X e m) (he : ∀ whole, isTrue e X.env whole = (do let v ← whole; standAt e.pos; holding [v] (truthy v)) := by intro _; rfl) : DT X e (tE m) :=
  ⟨fun W tk => pt_weak (pt_val (h.run W tk) he) fun σ H Q h => tB_of h⟩
theorem tTest_of {G : Gm} {W : WX} {r : R2} {f : Op2} {σ : L2.St} {H : Hp} {Q : Bool → Hp → Prop} (z : Rz2 G r f) (h : TDt G W (tE (eOp2 f ma mb)) σ H Q) : tTest (tOp r (TD G W ma) (TD G W mb)) σ H Q :=
  tOp_of (Q := fun x H' => ∃ k, x = .bl k ∧ Q k H') z (tB_of h)
theorem dt_cmp {op : CmpOp} {r : R2} {f : Op2} (ho : OpR X (compareOp op) r) (z : Rz2 (Cx.gm X) r f) (ha : DE X a ma) (hb : DE X b mb) (hm : behindInMarks op b = false) : DT X (.Compare a [op] [b] pos) (tE (eOp2 f ma mb)) :=
  ⟨fun W tk => pt_weak (pt_cmpR ho (ha.run W tk) (hb.run W tk) hm) fun σ H Q h => tTest_of z h⟩
theorem tSeq_of {α β : Type} {G : Gm} {W : WX} {m : MT} {Rl : Rm → Hp → α → β → Prop} {f : DEnv → Bool → Hh → Res α} {σ : L2.St} {H : Hp} {Q : β → Hp → Prop} {k : Bool → Hp → Prop}
    (h : At G W σ H Rl Q fun env hh => (m env hh).bind (f env)) (hk : ∀ b H1, At G W σ H1 Rl Q (fun env hh => f env b hh) → k b H1) : TDt G W m σ H k := by
  obtain ⟨rho, env, hh, R, E, p⟩ := At.seqT h
  refine ⟨rho, env, hh, R, E, ?_⟩
  cases e : m env hh with
  | ok d hh1 =>
    rw [e] at p
    intro rho1 H1 v S R1 q
    exact hk _ _ (p rho1 H1 v S R1 q)
  | err x hh1 => rw [e] at p; exact p
  | stuck => rw [e] at p; exact p
theorem dt_not (h : DT X a ta) : DT X (.UnaryOp .Not a pos) (tNot ta) :=
  ⟨fun W tk => pt_weak (pt_not (h.run W tk)) fun σ H Q h => tSeq_of h fun k H1 ⟨rho, env, hh, R, E, p⟩ => p.val R rfl⟩
theorem dw_and1 (h : DT X a ta) : DW X (.BoolOp .And [a] pos) ta := ⟨fun W tk => pw_and1 (h.run W tk)⟩
theorem dw_or1 (h : DT X a ta) : DW X (.BoolOp .Or [a] pos) ta := ⟨fun W tk => pw_or1 (h.run W tk)⟩
theorem dw_and (h : DT X a ta) (hb : DW X (.BoolOp .And (b :: rest) pos) tb) : DW X (.BoolOp .And (a :: b :: rest) pos) (tAnd ta tb) :=
  ⟨fun W tk => pw_weak (pw_and (h.run W tk) (hb.run W tk)) fun σ H Q h => tSeq_of h fun k H1 q => by
    cases k with
    | true => exact q
    | false =>
      obtain ⟨rho, env, hh, R, E, p⟩ := q
      exact p.val R rfl⟩
theorem dw_or (h : DT X a ta) (hb : DW X (.BoolOp .Or (b :: rest) pos) tb) : DW X (.BoolOp .Or (a :: b :: rest) pos) (tOr ta tb) :=
  ⟨fun W tk => pw_weak (pw_or (h.run W tk) (hb.run W tk)) fun σ H Q h => tSeq_of h fun k H1 q => by
    cases k with
    | true =>
      obtain ⟨rho, env, hh, R, E, p⟩ := q
      exact p.val R rfl
    | false => exact q⟩
theorem dt_w (h : DW X a ta) : DT X a ta := ⟨fun W tk => PW.pt (h.run W tk)⟩
theorem de_one {op} (h : DE X a ma) : DE X (.BoolOp op [a] pos) ma := ⟨fun W tk => pe_one (h.run W tk)⟩
theorem de_and (ha : DE X a ma) (hb : DE X (.BoolOp .And (b :: rest) pos) mb) : DE X (.BoolOp .And (a :: b :: rest) pos) (eAnd ma mb) :=
  ⟨fun W tk => pe_weak (pe_and (ha.run W tk) (hb.run W tk)) fun σ H Q h => tE_of h fun rho env hh H1 d v R E q p => by
    cases o : asB d with
    | none => rw [o] at p; exact p.elim
    | some k =>
      rw [o] at p
      have e := asB_some o
      subst e
      refine ⟨k, q, ?_⟩
      cases k with
      | true => exact ⟨rho, env, hh, R, E, p⟩
      | false => exact PostE.val (a := D.bl false) (b := V.bl false) (Rl := Den _) p R rfl⟩
theorem de_or (ha : DE X a ma) (hb : DE X (.BoolOp .Or (b :: rest) pos) mb) : DE X (.BoolOp .Or (a :: b :: rest) pos) (eOr ma mb) :=
  ⟨fun W tk => pe_weak (pe_or (ha.run W tk) (hb.run W tk)) fun σ H Q h => tE_of h fun rho env hh H1 d v R E q p => by
    cases o : asB d with
    | none => rw [o] at p; exact p.elim
    | some k =>
      rw [o] at p
      have e := asB_some o
      subst e
      refine ⟨k, q, ?_⟩
      cases k with
      | true => exact PostE.val (a := D.bl true) (b := V.bl true) (Rl := Den _) p R rfl
      | false => exact ⟨rho, env, hh, R, E, p⟩⟩
theorem de_not (ha : DE X a ma) : DE X (.UnaryOp .Not a pos) (eNot ma) :=
  ⟨fun W tk => pe_weak (pe_not (ha.run W tk)) fun σ H Q h => tE_of h fun rho env hh H1 d v R E q p => by
    cases o : asB d with
    | none => rw [o] at p; exact p.elim
    | some k =>
      rw [o] at p
      have e := asB_some o
      subst e
      exact ⟨k, q, PostE.val (a := D.bl (!k)) (b := V.bl (!k)) (Rl := Den _) p R rfl⟩⟩
end

inductive RS where
  | nx (env : DEnv) (h : Hh)
  | rt (d : D) (h : Hh)
  | bk (env : DEnv) (h : Hh)
  | ct (env : DEnv) (h : Hh)
  | er (x : Exn) (env : DEnv) (h : Hh)
  | stuck
abbrev MS := DEnv → Hh → RS
def PostS (G : Gm) (W : WX) (D : Ends) (rho : Rm) (H : Hp) (r : RS) : Prop :=
  match r with
  | .nx env hh => ∀ rho' H' σ', Step rho H rho' H' → Rep G rho' hh H' → EnvD G rho' H' env σ' → D.nx σ' H'
  | .rt d hh => ∀ rho' H' v, Step rho H rho' H' → Rep G rho' hh H' → Den G rho' H' d v → D.rt v H'
  | .bk env hh => ∀ rho' H' σ', Step rho H rho' H' → Rep G rho' hh H' → EnvD G rho' H' env σ' → D.bk σ' H'
  | .ct env hh => ∀ rho' H' σ', Step rho H rho' H' → Rep G rho' hh H' → EnvD G rho' H' env σ' → D.ct σ' H'
  | .er x env hh => ∀ rho' H' σ' c d, Step rho H rho' H' → Rep G rho' hh H' → EnvD G rho' H' env σ' → ExD G rho' H' x c d → W c d σ' H'
  | .stuck => False
theorem PostS.start {G : Gm} {W : WX} {D : Ends} {rho rho' : Rm} {H H' : Hp} {r : RS} (h : PostS G W D rho H r) (S : Step rho H rho' H') : PostS G W D rho' H' r := by
  cases r with
  | nx env hh => exact fun rho2 H2 σ S2 R2 q => h rho2 H2 σ (S.trans S2) R2 q
  | rt d hh => exact fun rho2 H2 σ S2 R2 q => h rho2 H2 σ (S.trans S2) R2 q
  | bk env hh => exact fun rho2 H2 σ S2 R2 q => h rho2 H2 σ (S.trans S2) R2 q
  | ct env hh => exact fun rho2 H2 σ S2 R2 q => h rho2 H2 σ (S.trans S2) R2 q
  | er x env hh => exact fun rho2 H2 σ c d S2 R2 q => h rho2 H2 σ c d (S.trans S2) R2 q
  | stuck => exact h
def TDs (G : Gm) (W : WX) (m : MS) : TS := fun D σ H => ∃ rho env hh, Rep G rho hh H ∧ EnvD G rho H env σ ∧ PostS G W D rho H (m env hh)
structure DS (X : Cx) (st : Stmt) (m : MS) : Prop where
  run : ∀ W, Takes X W → PS X st (TDs (Cx.gm X) W m)
structure DSs (X : Cx) (st : List Stmt) (m : MS) : Prop where
  run : ∀ W, Takes X W → PSs X st (TDs (Cx.gm X) W m)
theorem ps_weak {X : Cx} {st : Stmt} {t t' : TS} (h : PS X st t) (i : ∀ D σ H, t' D σ H → t D σ H) : PS X st t' := ⟨fun pins s σ H D I q => h.run pins s σ H D I (i D σ H q)⟩
theorem pss_weak {X : Cx} {st : List Stmt} {t t' : TS} (h : PSs X st t) (i : ∀ D σ H, t' D σ H → t D σ H) : PSs X st t' := ⟨fun pins s σ H D I q => h.run pins s σ H D I (i D σ H q)⟩

def RS.seq (r : RS) (f : DEnv → Hh → RS) : RS := match r with | .nx env h => f env h | r => r
def sSeq (a b : MS) : MS := fun env h => (a env h).seq b
def sNext : MS := fun env h => .nx env h
def Res.st {α : Type} (r : Res α) (env : DEnv) (f : α → Hh → RS) : RS := match r with
  | .ok a h => f a h
  | .err x h => .er x env h
  | .stuck => .stuck
theorem st_ok {α : Type} (a : α) (h : Hh) (env : DEnv) (f : α → Hh → RS) : (Res.ok a h).st env f = f a h := rfl
def sRet (m : ME) : MS := fun env h => (m env h).st env fun d h1 => .rt d h1
def sIf (t : MT) (a b : MS) : MS := fun env h => (t env h).st env fun k h1 => if k = true then a env h1 else b env h1
section
variable {X : Cx} {st : Stmt} {rest : List Stmt} {e : Expr} {m : ME} {t : MT} {ms ms' : MS} {pos : Pos} {G : Gm} {W : WX} {D : Ends} {σ : L2.St} {H : Hp}
theorem ss_nil : DSs X [] sNext := ⟨fun W _ => pss_weak pss_nil fun D σ H ⟨rho, env, hh, R, E, p⟩ => p rho H σ .refl R E⟩
theorem seq_post {rho : Rm} {r : RS} {f : DEnv → Hh → RS} (p : PostS G W D rho H (r.seq f)) : PostS G W { D with nx := TDs G W f D } rho H r := by
  cases r with
  | nx env hh => exact fun rho' H' σ' S R E => ⟨rho', env, hh, R, E, PostS.start (r := f env hh) p S⟩
  | rt d hh => exact p
  | bk env hh => exact p
  | ct env hh => exact p
  | er x env hh => exact p
  | stuck => exact p
theorem ss_cons (h1 : DS X st ms) (h2 : DSs X rest ms') : DSs X (st :: rest) (sSeq ms ms') :=
  ⟨fun W tk => pss_weak (pss_cons (h1.run W tk) (h2.run W tk)) fun D σ H ⟨rho, env, hh, R, E, p⟩ => ⟨rho, env, hh, R, E, seq_post p⟩⟩
theorem ss_one (h1 : DS X st ms) : DSs X [st] ms := ⟨fun W tk => pss_one (h1.run W tk)⟩
theorem st_of {f : DEnv → MR.D → Hh → RS} {k : V → Hp → Prop} (h : TDs G W (fun env hh => (m env hh).st env (f env)) D σ H)
    (hk : ∀ rho env hh H1 d v, Rep G rho hh H1 → EnvD G rho H1 env σ → Den G rho H1 d v → PostS G W D rho H1 (f env d hh) → k v H1) : TD G W m σ H k := by
  obtain ⟨rho, env, hh, R, E, p⟩ := h
  refine ⟨rho, env, hh, R, E, ?_⟩
  have p : PostS G W D rho H ((m env hh).st env (f env)) := p
  cases e : m env hh with
  | ok d hh1 =>
    rw [e] at p
    exact fun rho1 H1 v S R1 q => hk rho1 env hh1 H1 d v R1 (E.step R S) q (PostS.start (r := f env d hh1) p S)
  | err x hh1 =>
    rw [e] at p
    exact fun rho1 H1 c d S R1 q => p rho1 H1 σ c d S R1 (E.step R S) q
  | stuck => rw [e] at p; exact p
theorem stT_of {f : DEnv → Bool → Hh → RS} {k : Bool → Hp → Prop} (h : TDs G W (fun env hh => (t env hh).st env (f env)) D σ H)
    (hk : ∀ b H1, TDs G W (fun env hh => f env b hh) D σ H1 → k b H1) : TDt G W t σ H k := by
  obtain ⟨rho, env, hh, R, E, p⟩ := h
  refine ⟨rho, env, hh, R, E, ?_⟩
  have p : PostS G W D rho H ((t env hh).st env (f env)) := p
  cases e : t env hh with
  | ok d hh1 =>
    rw [e] at p
    exact fun rho1 H1 v S R1 q => by
      subst q
      exact hk d H1 ⟨rho1, env, hh1, R1, E.step R S, PostS.start (r := f env d hh1) p S⟩
  | err x hh1 =>
    rw [e] at p
    exact fun rho1 H1 c d S R1 q => p rho1 H1 σ c d S R1 (E.step R S) q
  | stuck => rw [e] at p; exact p
theorem ds_ret (h : DE X e m) : DS X (.Return (some e) pos) (sRet m) :=
  ⟨fun W tk => ps_weak (ps_ret (h.run W tk)) fun D σ H q => st_of q fun rho env hh H1 d v R E q p => p rho H1 v .refl R q⟩
theorem ds_if {c : Expr} {a b : List Stmt} {ma mb : MS} (hc : DT X c t) (ha : DSs X a ma) (hb : DSs X b mb) : DS X (.If c a b pos) (sIf t ma mb) :=
  ⟨fun W tk => ps_weak (ps_if (hc.run W tk) (ha.run W tk) (hb.run W tk)) fun D σ H q => stT_of q fun b H1 h => by
    cases b with
    | true => exact h
    | false => exact h⟩
end

abbrev MG := D → DEnv → Hh → Option (DEnv × Hh)
abbrev MGs := List D → DEnv → Hh → Option (DEnv × Hh)
def PostG (G : Gm) (rho : Rm) (H : Hp) (r : Option (DEnv × Hh)) (Q : L2.St → Hp → Prop) : Prop :=
  match r with
  | some (env, hh) => ∀ rho' H' σ', Step rho H rho' H' → Rep G rho' hh H' → EnvD G rho' H' env σ' → Q σ' H'
  | none => False
theorem PostG.start {G : Gm} {rho rho' : Rm} {H H' : Hp} {r : Option (DEnv × Hh)} {Q : L2.St → Hp → Prop} (h : PostG G rho H r Q) (S : Step rho H rho' H') : PostG G rho' H' r Q := by
  cases r with
  | none => exact h
  | some p => exact fun rho2 H2 σ S2 R2 q => h rho2 H2 σ (S.trans S2) R2 q
def TDg (G : Gm) (m : MG) : TG := fun v σ H Q => ∃ rho env hh d, Rep G rho hh H ∧ EnvD G rho H env σ ∧ Den G rho H d v ∧ PostG G rho H (m d env hh) Q
def TDgs (G : Gm) (m : MGs) : TGs := fun vs σ H Q => ∃ rho env hh ds, Rep G rho hh H ∧ EnvD G rho H env σ ∧ Dens G rho H ds vs ∧ PostG G rho H (m ds env hh) Q
structure DG (X : Cx) (tg : Expr) (m : MG) : Prop where
  run : PG X tg (TDg (Cx.gm X) m)
structure DGs (X : Cx) (tgs : List Expr) (m : MGs) : Prop where
  run : PGs X tgs (TDgs (Cx.gm X) m)
theorem pg_weak {X : Cx} {e : Expr} {t t' : TG} (h : PG X e t) (i : ∀ v σ H Q, t' v σ H Q → t v σ H Q) : PG X e t' := ⟨fun pins s σ H v u Q I r q => h.run pins s σ H v u Q I r (i v σ H Q q)⟩
def gName (i : Nat) : MG := fun d env h => some (env.set i (some d), h)
def gTup (n : Nat) (gs : MGs) : MG := fun d env h => match d with
  | .tup ds => if ds.length = n then gs ds env h else none
  | _ => none
theorem EnvD.set {G : Gm} {rho : Rm} {H : Hp} {env : DEnv} {σ : L2.St} {i : Nat} {d : D} {v : V} (E : EnvD G rho H env σ) (q : Den G rho H d v) : EnvD G rho H (env.set i (some d)) (σ.set i (some v)) := by
  refine ⟨by simp [E.1], fun j d' e => ?_⟩
  by_cases hj : i = j
  · subst hj
    have hl : i < env.length := by
      have := (List.getElem?_eq_some_iff.mp e).1
      simpa using this
    rw [List.getElem?_set_self hl] at e
    cases e
    exact ⟨v, List.getElem?_set_self (by rw [← E.1]; exact hl), q⟩
  · rw [List.getElem?_set_ne hj] at e
    obtain ⟨w, e1, e2⟩ := E.2 j d' e
    exact ⟨w, by rw [List.getElem?_set_ne hj]; exact e1, e2⟩
section
variable {X : Cx} {pos : Pos}
def RSof (r : Option (DEnv × Hh)) : RS := match r with | some (env, h) => .nx env h | none => .stuck
def sAsg (m : ME) (g : MG) : MS := fun env h => (m env h).st env fun d h1 => RSof (g d env h1)
theorem postG_of {G : Gm} {W : WX} {D : Ends} {rho : Rm} {H : Hp} {r : Option (DEnv × Hh)} (p : PostS G W D rho H (RSof r)) : PostG G rho H r D.nx := by
  cases r with
  | none => exact p
  | some z => exact p
theorem ds_asg {tg e : Expr} {m : ME} {g : MG} (he : DE X e m) (hg : DG X tg g) (hs : swapsWithSole [tg] e pos.line X.env = pure false := by rfl) (hw : swappedStores [tg] e X.env = pure none := by rfl)
    (h1 : (assignEach [tg] X.env).map (·.2) = [assign tg X.env] := by rfl) : DS X (.Assign [tg] e pos) (sAsg m g) :=
  ⟨fun W tk => ps_weak (ps_asg (he.run W tk) hg.run hs hw h1) fun D σ H q => st_of q fun rho env hh H1 d v R E q p => ⟨rho, env, hh, d, R, E, q, postG_of p⟩⟩
theorem ds_set {i : Nat} {x : Str} {e : Expr} {m : ME} {pos' : Pos} (hN : X.N.Nodup) (he : DE X e m) (hi : X.N[i]? = some x := by rfl) (hx : Loc X.env.scope x := by first | exact Or.inl rfl | exact Or.inr rfl) (hs : swapsWith e (some (.Name x pos')) pos.line X.env = pure false := by rfl)
    (hf : X.fn x = true ∨ X.env.scope.names.lookup x = some .local := by first | exact .inl rfl | exact .inr rfl) : DS X (.Assign [.Name x pos'] e pos) (sAsg m (gName i)) :=
  ⟨fun W tk => ps_weak (ps_set hN hi hx (he.run W tk) hs hf) fun D σ H q => st_of q fun rho env hh H1 d v R E q p => p rho H1 _ .refl R (E.set q)⟩
def sPar (i j : Nat) (ms : MA) : MS := fun env h => (ms env h).st env fun ds h1 => match ds with
  | [d1, d2] => .nx ((env.set i (some d1)).set j (some d2)) h1
  | _ => .stuck
theorem ds_par {i j : Nat} {x y : Str} {a b : Expr} {ms : MA} {px py pt : Pos} {kt k2 pt2} (hc : X.calm = true) (hN : X.N.Nodup) (hi : X.N[i]? = some x) (hj : X.N[j]? = some y) (hij : i ≠ j)
    (hx : X.env.scope.names.lookup x = some .local) (hy : X.env.scope.names.lookup y = some .local) (ha : DA X [a, b] ms)
    (hw : swappedStores [.Tuple [.Name x px, .Name y py] kt pt] (.Tuple [a, b] k2 pt2) X.env = pure (some [x, y]))
    (hs : swapsWithSole [.Tuple [.Name x px, .Name y py] kt pt] (.Tuple [a, b] k2 pt2) pos.line X.env = pure false := by rfl) :
    DS X (.Assign [.Tuple [.Name x px, .Name y py] kt pt] (.Tuple [a, b] k2 pt2) pos) (sPar i j ms) :=
  ⟨fun W tk => ps_weak (ps_par hc hN hi hj hij hx hy (ha.run W tk) hw hs) fun D σ H ⟨rho, env, hh, R, E, p⟩ => by
    refine ⟨rho, env, hh, R, E, ?_⟩
    unfold sPar at p
    cases e : ms env hh with
    | ok ds h1 =>
      rw [e, st_ok] at p
      intro rho1 H1 vs S R1 q
      match ds, p, q with
      | [d1, d2], p, q =>
        simp only [Dens] at q
        obtain ⟨v, r, rfl, q1, w, r', rfl, q2, rfl⟩ := q
        exact ⟨v, w, rfl, p rho1 H1 _ S R1 (((E.step R S).set q1).set q2)⟩
      | [], p, q => exact p.elim
      | [_], p, q => exact p.elim
      | _ :: _ :: _ :: _, p, q => exact p.elim
    | err x h1 =>
      rw [e] at p
      exact fun rho1 H1 c d S R1 q => p rho1 H1 σ c d S R1 (E.step R S) q
    | stuck => rw [e] at p; exact p⟩
end

def startD (N : List Str) (ds : List D) : DEnv := ds.map some ++ List.replicate (N.length - ds.length) none
theorem startD_ok {G : Gm} {rho : Rm} {H : Hp} {N : List Str} {ds : List D} {vs : List V} (q : Dens G rho H ds vs) : EnvD G rho H (startD N ds) (L2.start N vs) := by
  have hl := q.length
  refine ⟨by simp [startD, L2.start, hl], fun i d e => ?_⟩
  unfold startD at e
  unfold L2.start
  by_cases hi : i < ds.length
  · rw [List.getElem?_append_left (by simpa using hi), List.getElem?_map] at e
    cases e2 : ds[i]? with
    | none => rw [e2] at e; cases e
    | some d' =>
      rw [e2] at e
      simp at e
      subst e
      obtain ⟨v, e3, q3⟩ := q.get e2
      exact ⟨v, by rw [List.getElem?_append_left (by simpa [← hl] using hi), List.getElem?_map, e3]; rfl, q3⟩
  · rw [List.getElem?_append_right (by simpa using hi)] at e
    rw [List.getElem?_replicate] at e
    split at e
    · cases e
    · cases e
abbrev MF := List D → Hh → Res D
def runF (n : Nat) (N : List Str) (body : MS) : MF := fun ds h => if ds.length = n then (match body (startD N ds) h with
  | .nx _ h' => .ok .non h'
  | .rt d h' => .ok d h'
  | .er x _ h' => .err x h'
  | _ => .stuck) else .stuck
def spD (G : Gm) (n : Nat) (F : MF) : Sp := fun vs H Q E => vs.length = n ∧ ∃ rho hh ds, Rep G rho hh H ∧ Dens G rho H ds vs ∧ PostE G (Den G) E rho H (F ds hh) Q
def FnD (P : Program) (w : World) (K : PySem.W.Frag) (mg : Str → Option Value) (base : Heap) (k : Nat) (f : Addr) (fd : FuncData) (ps : List Str) (F : MF) : Prop :=
  FnOk P w K mg base (L2.CX P w) k f fd ps (spD ⟨P, w, K⟩ ps.length F)
section
variable {P : Program} {w : World} {K : PySem.W.Frag} {mg : Str → Option Value} {base : Heap}
theorem fn_ok {x qual : Str} {st : Stmt} {f : Addr} {fd : FuncData} {N ps : List Str} {k : Nat} {m : MS} (F : Fun K x qual st f fd) (S : FnScope N ps (defScope st))
    (hbody : ∀ (cdv : Value) (A : Around) (outer : List PySem.Env) (s : Shared) (H : Hp) (E : XK), Room k (A.deeper (envOfC qual (defScope st) s.heap.objs.size f cdv)) →
      DSs (cxOf (L2.CX P w) P w K mg base N qual (defScope st) f cdv A outer s H E) (defBody st) m) : FnD P w K mg base (k + 1) f fd ps (runF ps.length N m) := by
  refine F.okX S (fun vs H Q E h => h.1) fun cdv A outer s H vs Q E hr h => ?_
  obtain ⟨hl, rho, hh, ds, R, q, p⟩ := h
  refine ⟨_, (hbody cdv A outer s H E hr).run (fun c d σ H => E c d H) (takes_of rfl rfl rfl rfl), rho, startD N ds, hh, R, startD_ok q, ?_⟩
  unfold runF at p
  split at p
  · generalize m (startD N ds) hh = r at p
    cases r with
    | nx env hh' => exact fun rho' H' σ' S R' _ => p rho' H' .non S R' rfl
    | rt d hh' => exact fun rho' H' v S R' q' => p rho' H' v S R' q'
    | er x env hh' => exact fun rho' H' σ' c d S R' _ q' => p rho' H' c d S R' q'
    | bk env hh' => exact p.elim
    | ct env hh' => exact p.elim
    | stuck => exact p.elim
  · exact p.elim
theorem FnD.imp {k : Nat} {f : Addr} {fd : FuncData} {ps : List Str} {F F' : MF} (h : FnD P w K mg base k f fd ps F) (hi : ∀ ds hh, F' ds hh = .stuck ∨ F' ds hh = F ds hh) : FnD P w K mg base k f fd ps F' :=
  FnOk.imp h fun vs H Q E ⟨hl, rho, hh, ds, R, q, p⟩ => ⟨hl, rho, hh, ds, R, q, by
    rcases hi ds hh with e | e
    · rw [e] at p; exact p.elim
    · rw [← e]; exact p⟩
noncomputable def pureF (F : MF) : MF := fun ds h => match F ds h with
  | .ok d h' => open Classical in if bel h.length d = true ∧ ∃ g, h' = h ++ g then .ok d h else .stuck
  | .err x h' => .err x h'
  | .stuck => .stuck
theorem FnD.pure {k : Nat} {f : Addr} {fd : FuncData} {ps : List Str} {F : MF} (h : FnD P w K mg base k f fd ps F) : FnD P w K mg base k f fd ps (pureF F) :=
  FnOk.imp h fun vs H Q E ⟨hl, rho, hh, ds, R, q, p⟩ => ⟨hl, rho, hh, ds, R, q, by
    unfold pureF at p
    cases e : F ds hh with
    | ok d hh' =>
      rw [e] at p
      simp only at p
      split at p
      · rename_i hc
        obtain ⟨hb, g, rfl⟩ := hc
        intro rho' H' v S R' q'
        obtain ⟨ex, ee, hex⟩ := S.ext
        have b' : bel rho.at_.length d = true := by rw [R.len]; exact hb
        have h2 : ∀ a, a ∉ rho'.at_ → a ∉ rho'.res → a ∉ rho.res := fun a _ n m => n (S.kept a m)
        exact p rho H' v S.drop (R.drop S ⟨ex, ee⟩ h2 R') (Den.res ⟨ex, ee⟩ h2 d v q' b')
      · exact p.elim
    | err x hh' => rw [e] at p; exact p
    | stuck => rw [e] at p; exact p⟩
end
section
variable {X : Cx} {k : Nat} {f : Addr} {fd : FuncData} {ps : List Str} {F : MF} {x : Str} {p pos : Pos} {e : Expr} {es : List Expr} {ms : MA}
def eCall (F : MF) (ms : MA) : ME := fun env h => (ms env h).bind fun ds h1 => F ds h1
theorem call_of {W : WX} {σ : L2.St} {H : Hp} {Q : VK} (h : TD (Cx.gm X) W (eCall F ms) σ H Q) (hl : ∀ vs H1, (∃ rho ds, Dens (Cx.gm X) rho H1 ds vs ∧ ∃ env h0 h1, ms env h0 = .ok ds h1) → vs.length = ps.length) :
    tCallS (spD (Cx.gm X) ps.length F) (WE W) (TDa (Cx.gm X) W ms) σ H Q := by
  obtain ⟨rho, env, hh, R, E, p⟩ := h
  refine ⟨rho, env, hh, R, E, ?_⟩
  unfold eCall at p
  cases e : ms env hh with
  | ok ds hh1 =>
    rw [e, bind_ok] at p
    exact fun rho1 H1 vs S R1 q => ⟨hl vs H1 ⟨rho1, ds, q, env, hh, hh1, e⟩, rho1, hh1, ds, R1, q, p.start S⟩
  | err x hh1 => rw [e, bind_err] at p; exact p
  | stuck => rw [e, bind_stuck] at p; exact p
theorem de_call {n : Nat} (Fn : FnD X.prog X.w X.K X.mg X.base k f fd ps F) (hr : Room k X.A) (hg : Gl X x) (hm : X.mg x = some (.ref f)) (hk : PySem.W.keepIn X.K (.ref f) = true) (hb : Binds X.K fd ps []) (ha : DAn X (e :: es) n ms) (hn : n = ps.length := by rfl)
    (hdb : (x == ("__debug__" : Str)) = false := by decide) (he : starEach (e :: es) X.env = (false, eval e X.env) :: starEach es X.env := by rfl) (hpl : (backTo pos (starEach es X.env)).any (·.1) = false := by rfl) :
    DE X (.Call (.Name x p) (e :: es) [] pos) (eCall F ms) :=
  ⟨fun W tk => pe_weak (pe_callS (E := WE W) Fn hr hg hm hk hb (passAt tk) (ha.da.run W tk) hdb he hpl) fun σ H Q h => call_of h fun vs H1 ⟨rho, ds, q, env, h0, h1, e⟩ => by rw [← q.length, ha.n _ _ _ _ e, hn]⟩
theorem pe_callS0 {sp : Sp} {CX : CXT} {E : L2.St → XK} (F : FnOk X.prog X.w X.K X.mg X.base CX k f fd ps sp) (hr : Room k X.A) (hg : Gl X x) (hm : X.mg x = some (.ref f)) (hk : PySem.W.keepIn X.K (.ref f) = true) (hb : Binds X.K fd ps []) (hx : ∀ σ, PassesAt CX X σ (E σ))
    (hdb : (x == ("__debug__" : Str)) = false := by decide) : PE X (.Call (.Name x p) [] [] pos) (tCallS sp E tNil) := by
  refine ⟨fun pins s σ H Q I h => ?_⟩
  refine wpAny_Call_Name_kw (ld_glob I hg hm ?_ hdb)
  exact PySem.W.callWith_K0 I.kIn hk (run_fnS (us := []) F hr hb (hx σ) I .nil h)
theorem de_call0 (Fn : FnD X.prog X.w X.K X.mg X.base k f fd ps F) (hr : Room k X.A) (hg : Gl X x) (hm : X.mg x = some (.ref f)) (hk : PySem.W.keepIn X.K (.ref f) = true) (hb : Binds X.K fd ps []) (hn : ps = [] := by rfl)
    (hdb : (x == ("__debug__" : Str)) = false := by decide) : DE X (.Call (.Name x p) [] [] pos) (eCall F aNil) :=
  ⟨fun W tk => pe_weak (pe_callS0 (E := WE W) Fn hr hg hm hk hb (passAt tk) hdb) fun σ H Q ⟨rho, env, hh, R, E, p⟩ => ⟨by rw [hn]; rfl, rho, hh, [], R, rfl, p⟩⟩
end
end MR

namespace MR
open PySem PySem.Spec PyProof.Rows L2

inductive Tg where
  | name (i : Nat)
  | tup (is : List Nat)
def setAll {α : Type} : List Nat → List α → List (Option α) → List (Option α)
  | i :: is, d :: ds, env => setAll is ds (env.set i (some d))
  | _, _, env => env
def bindT (T : Tg) (d : D) (env : DEnv) : Option DEnv := match T with
  | .name i => some (env.set i (some d))
  | .tup is => match d with
    | .tup ds => if ds.length = is.length then some (setAll is ds env) else none
    | .wtp ds => if ds.length = is.length then some (setAll is ds env) else none
    | _ => none
def Tg.slots : Tg → List Nat
  | .name i => [i]
  | .tup is => is
def gSet : List Nat → TGs := fun is vs σ H Q => vs.length = is.length ∧ Q (setAll is vs σ) H
def gT (K : PySem.W.Frag) : Tg → TG
  | .name i => L2.gName i
  | .tup is => L2.gTup K is.length (gSet is)
structure DTg (X : Cx) (tg : Expr) (T : Tg) : Prop where
  run : PG X tg (gT X.K T)
structure DTgs (X : Cx) (tgs : List Expr) (is : List Nat) : Prop where
  run : PGs X tgs (gSet is)
section
variable {X : Cx} {pos : Pos}
theorem dtg_name {i : Nat} {x : Str} (hN : X.N.Nodup) (hi : X.N[i]? = some x := by rfl) (hx : Loc X.env.scope x := by first | exact Or.inl rfl | exact Or.inr rfl) (hf : X.fn x = true ∨ X.env.scope.names.lookup x = some .local := by first | exact .inl rfl | exact .inr rfl) : DTg X (.Name x pos) (.name i) := ⟨pg_name hN hi hx hf⟩
end
section
variable {G : Gm} {rho : Rm} {H : Hp}
theorem EnvD.setAll {is : List Nat} : ∀ {ds : List D} {vs : List V} {env : DEnv} {σ : L2.St}, EnvD G rho H env σ → Dens G rho H ds vs → EnvD G rho H (MR.setAll is ds env) (MR.setAll is vs σ) := by
  induction is with
  | nil => intro ds vs env σ E q; exact E
  | cons i is ih =>
    intro ds vs env σ E q
    cases ds with
    | nil => rw [Dens] at q; subst q; exact E
    | cons d ds =>
      rw [Dens] at q
      obtain ⟨v, r, rfl, q1, q2⟩ := q
      exact ih (E.set q1) q2
theorem wipe_at {σ : L2.St} {j : Nat} : ∀ {vs : List Nat}, (wipe σ vs)[j]? = if j ∈ vs then (if j < σ.length then some none else none) else σ[j]?
  | [] => by simp [wipe]
  | v :: vs => by
    unfold wipe
    have ih := wipe_at (σ := σ) (j := j) (vs := vs)
    by_cases hj : v = j
    · subst hj
      by_cases hl : v < σ.length
      · rw [List.getElem?_set_self (by rw [wipe_length]; exact hl)]; simp [hl]
      · rw [List.getElem?_eq_none (by rw [List.length_set, wipe_length]; omega)]; simp [hl]
    · rw [List.getElem?_set_ne hj, ih]
      have : (j ∈ v :: vs) ↔ j ∈ vs := by simp [Ne.symm hj, fun e => hj (Eq.symm e)]
      simp only [this]
theorem wipe_set {σ : L2.St} {i : Nat} {x : Option V} {vs : List Nat} (h : i ∈ vs) : wipe (σ.set i x) vs = wipe σ vs := by
  apply List.ext_getElem?
  intro j
  rw [wipe_at, wipe_at, List.length_set]
  by_cases hj : j ∈ vs
  · simp [hj]
  · simp only [hj, if_false]
    exact List.getElem?_set_ne fun e => hj (by rw [← e]; exact h)
theorem wipe_setAll {vs : List Nat} {is : List Nat} : ∀ {ws : List V} {σ : L2.St}, (∀ i ∈ is, i ∈ vs) → wipe (MR.setAll is ws σ) vs = wipe σ vs := by
  induction is with
  | nil => intro ws σ h; rfl
  | cons i is ih =>
    intro ws σ h
    cases ws with
    | nil => rfl
    | cons w ws => exact (ih fun j hj => h j (List.mem_cons_of_mem _ hj)).trans (wipe_set (h i List.mem_cons_self))
def wipeE (env : DEnv) : List Nat → DEnv
  | [] => env
  | v :: vs => (wipeE env vs).set v none
theorem EnvD.setN {env : DEnv} {σ : L2.St} {i : Nat} (E : EnvD G rho H env σ) : EnvD G rho H (env.set i none) (σ.set i none) := by
  refine ⟨by simp [E.1], fun j d e => ?_⟩
  by_cases hj : i = j
  · subst hj
    by_cases hl : i < env.length
    · rw [List.getElem?_set_self hl] at e; cases e
    · rw [List.getElem?_eq_none (by rw [List.length_set]; omega)] at e; cases e
  · rw [List.getElem?_set_ne hj] at e ⊢
    exact E.2 j d e
theorem EnvD.wipe {env : DEnv} {σ : L2.St} (E : EnvD G rho H env σ) : ∀ vs : List Nat, EnvD G rho H (wipeE env vs) (L2.wipe σ vs)
  | [] => E
  | v :: vs => (EnvD.wipe E vs).setN
theorem bindT_of {T : Tg} {d : D} {v : V} {env env' : DEnv} {σ : L2.St} {Q : L2.St → Hp → Prop} (E : EnvD G rho H env σ) (q : Den G rho H d v) (h : bindT T d env = some env')
    (hq : ∀ σ', EnvD G rho H env' σ' → (∀ vs, (∀ i ∈ T.slots, i ∈ vs) → L2.wipe σ' vs = L2.wipe σ vs) → Q σ' H) : gT G.K T v σ H Q := by
  cases T with
  | name i =>
    cases h
    exact hq _ (E.set q) fun vs hv => wipe_set (hv i (by simp [Tg.slots]))
  | tup is =>
    unfold bindT at h
    cases d with
    | tup ds =>
      simp only at h
      split at h
      · rename_i hl
        cases h
        rw [Den] at q
        obtain ⟨a, vs, rfl, hs, l, q⟩ := q
        refine ⟨a, vs, rfl, hs.t, by rw [← q.length]; exact hl, by rw [← q.length]; exact hl, ?_⟩
        exact hq _ (E.setAll q) fun ws hv => wipe_setAll hv
      · cases h
    | wtp ds =>
      simp only at h
      split at h
      · rename_i hl
        cases h
        rw [Den] at q
        obtain ⟨a, vs, rfl, hs, l, q⟩ := q
        refine ⟨a, vs, rfl, hs, by rw [← q.length]; exact hl, by rw [← q.length]; exact hl, ?_⟩
        exact hq _ (E.setAll q) fun ws hv => wipe_setAll hv
      · cases h
    | non => cases h
    | bl b => cases h
    | int i => cases h
    | str x => cases h
    | lst xs => cases h
    | ref i => cases h
    | glb u => cases h
    | scr u => cases h
    | dct u w => cases h
end

structure Src where
  items : List D
  live : Option (Nat × List D)
def gOk (g : Option (Nat × List D)) (h : Hh) : Prop := ∀ i ds, g = some (i, ds) → h[i]? = some (.lst ds)
abbrev MI := DEnv → Hh → Res Src
def WalkD (G : Gm) (rho1 : Rm) (H1 : Hp) (src : Src) (J : It) : Prop := src.items.length ≤ sizeLine ∧ ∀ rho hh H, Step rho1 H1 rho H → Rep G rho hh H → gOk src.live hh →
  (∀ i, i < src.items.length → J.go i H) ∧ J.stop src.items.length H ∧ ∀ i d x H', src.items[i]? = some d → J.yld i H x H' → Step rho H rho H' ∧ Rep G rho hh H' ∧ Den G rho H' d x
def TDi (G : Gm) (W : WX) (m : MI) : TI := fun σ H R => ∃ rho env hh, Rep G rho hh H ∧ EnvD G rho H env σ ∧ PostE G (WalkD G) (wAt W σ) rho H (m env hh) R
structure DI (X : Cx) (tg iter : Expr) (m : MI) : Prop where
  run : ∀ W, Takes X W → PI X tg iter (TDi (Cx.gm X) W m)
theorem pi_weak {X : Cx} {tg e : Expr} {t t' : TI} (h : PI X tg e t) (i : ∀ σ H R, t' σ H R → t σ H R) : PI X tg e t' := ⟨fun pins s σ H R I q => h.run pins s σ H R I (i σ H R q)⟩

def loopBack (r : RS) (f : DEnv → Hh → RS) : RS := match r with
  | .nx e h => f e h
  | .ct e h => f e h
  | .bk e h => .nx e h
  | r => r
open Classical in
noncomputable def forL (g : Option (Nat × List D)) (body : D → DEnv → Hh → RS) : List D → DEnv → Hh → RS
  | [], env, h => if gOk g h then .nx env h else .stuck
  | d :: ds, env, h => if gOk g h then loopBack (body d env h) (forL g body ds) else .stuck
def bodyT (T : Tg) (b : MS) : D → DEnv → Hh → RS := fun d env h => match bindT T d env with
  | some env' => b env' h
  | none => .stuck
noncomputable def sFor (mi : MI) (T : Tg) (b : MS) : MS := fun env h => (mi env h).st env fun src h1 => forL src.live (bodyT T b) src.items env h1
section
variable {X : Cx} {G : Gm} {W : WX}
theorem loop_post {De : Ends} {rho : Rm} {H : Hp} {r : RS} {f : DEnv → Hh → RS} {N : L2.St → Hp → Prop} (p : PostS G W De rho H (loopBack r f))
    (hN : ∀ rho' H' σ' env hh, Step rho H rho' H' → Rep G rho' hh H' → EnvD G rho' H' env σ' → PostS G W De rho' H' (f env hh) → N σ' H') :
    PostS G W { De with nx := N, ct := N, bk := De.nx } rho H r := by
  cases r with
  | nx env hh => exact fun rho' H' σ' S R E => hN rho' H' σ' env hh S R E (PostS.start (r := f env hh) p S)
  | rt d hh => exact p
  | bk env hh => exact p
  | ct env hh => exact fun rho' H' σ' S R E => hN rho' H' σ' env hh S R E (PostS.start (r := f env hh) p S)
  | er x env hh => exact p
  | stuck => exact p
theorem ds_for {tg iter : Expr} {body : List Stmt} {mi : MI} {T : Tg} {b : MS} {pos : Pos} (hp : PassesOwn (model X.prog X.w) X.A X.env X.xe) (hc : X.calm = true) (hi : DI X tg iter mi) (hg : DTg X tg T) (hb : DSs X body b)
    (hs : ∀ x, foldedSetIterable iter X.env x = pure x := by intro _; rfl) : DS X (.For tg iter body [] pos) (sFor mi T b) :=
  ⟨fun W tk => ps_weak (ps_for hp hc (hi.run W tk) hg.run (hb.run W tk) hs) fun De σ H ⟨rho, env, hh, R, E, p⟩ => by
    refine ⟨rho, env, hh, R, E, ?_⟩
    unfold sFor at p
    cases e : mi env hh with
    | stuck => rw [e] at p; exact p
    | err x h1 =>
      rw [e] at p
      exact fun rho1 H1 c d S R1 q => p rho1 H1 σ c d S R1 (E.step R S) q
    | ok src h1 =>
      rw [e, st_ok] at p
      intro rho1 H1 J S1 R1 wk
      have E1 := E.step R S1
      have p1 := PostS.start p S1
      refine ⟨fun i m σ H => m = src.items.length - i ∧ i ≤ src.items.length ∧ ∃ rho env hh, Rep (Cx.gm X) rho hh H ∧ EnvD (Cx.gm X) rho H env σ ∧ Step rho1 H1 rho H ∧ PostS (Cx.gm X) W De rho H (forL src.live (bodyT T b) (src.items.drop i) env hh),
        ⟨_, rfl, Nat.zero_le _, rho1, env, h1, R1, E1, .refl, by rw [List.drop_zero]; exact p1⟩, ?_⟩
      rintro i m σ2 H2 ⟨rfl, hi, rho2, env2, hh2, R2, E2, S2, p2⟩
      obtain ⟨wl, wk⟩ := wk
      by_cases hlt : i < src.items.length
      · have ed : src.items.drop i = src.items[i] :: src.items.drop (i + 1) := List.drop_eq_getElem_cons hlt
        rw [ed] at p2
        unfold forL at p2
        split at p2
        · rename_i hg2
          obtain ⟨w1, w2, w3⟩ := wk rho2 hh2 H2 S2 R2 hg2
          refine .inr ⟨w1 i hlt, fun σ' H' => ∃ rho env hh, Rep (Cx.gm X) rho hh H' ∧ EnvD (Cx.gm X) rho H' env σ' ∧ Step rho1 H1 rho H' ∧ PostS (Cx.gm X) W De rho H' (forL src.live (bodyT T b) (src.items.drop (i + 1)) env hh),
            fun σ' H' q => ⟨src.items.length - (i + 1), by omega, rfl, hlt, q⟩, fun x H3 y => ?_⟩
          obtain ⟨S3, R3, q3⟩ := w3 i _ x H3 (List.getElem?_eq_getElem hlt) y
          have E3 := E2.step R2 S3
          have p3 := PostS.start p2 S3
          unfold bodyT at p3
          cases eb : bindT T src.items[i] env2 with
          | none => rw [eb] at p3; exact p3.elim
          | some env3 =>
            rw [eb] at p3
            refine bindT_of (G := Cx.gm X) E3 q3 eb fun σ4 E4 _ => ⟨rho2, env3, hh2, R3, E4, ?_⟩
            exact loop_post p3 fun rho' H' σ' env' hh' S' R' E' p' => ⟨rho', env', hh', R', E', S2.trans (S3.trans S'), p'⟩
        · exact p2.elim
      · have ei : i = src.items.length := by omega
        subst ei
        rw [List.drop_length] at p2
        unfold forL at p2
        split at p2
        · rename_i hg2
          obtain ⟨w1, w2, w3⟩ := wk rho2 hh2 H2 S2 R2 hg2
          exact .inl ⟨w2, p2 rho2 H2 σ2 .refl R2 E2⟩
        · exact p2.elim⟩

open Classical in
end
end MR

namespace MR
open PySem PySem.Spec PyProof.Rows L2

structure DTs (X : Cx) (ifs : List Expr) (m : MT) : Prop where
  run : ∀ W, Takes X W → PTs X ifs (TDt (Cx.gm X) W m)
theorem dts_nil {X : Cx} : DTs X [] (fun _ h => .ok true h) := ⟨fun W _ => ⟨fun pins s σ H Q I ⟨rho, env, hh, R, E, p⟩ => pts_nil.run pins s σ H Q I (p.val R rfl)⟩⟩
open Classical in
noncomputable def compL (g : Option (Nat × List D)) (T : Tg) (t : MT) (e : ME) (env : DEnv) : List D → Hh → Res (List D)
  | [], h => if gOk g h then .ok [] h else .stuck
  | d :: ds, h => if gOk g h then (match bindT T d env with
    | some env' => (t env' h).bind fun k h1 => if k = true then (e env' h1).bind fun y h2 => (compL g T t e env ds h2).bind fun ys h3 => .ok (y :: ys) h3 else compL g T t e env ds h1
    | none => .stuck) else .stuck
def noErr {α : Type} (r : Res α) : Res α := match r with
  | .ok a h => .ok a h
  | _ => .stuck
noncomputable def aComp (mi : MI) (T : Tg) (t : MT) (e : ME) (vs : List Nat) : MA := fun env h => (mi env h).bind fun src h1 => noErr (compL src.live T t e (wipeE env vs) src.items h1)

abbrev WF : WX := fun _ _ _ _ => False
section
variable {G : Gm} {rho : Rm} {H H' : Hp}
mutual
theorem den_same (ht : ∀ a vs, SqT G.K H a vs → SqT G.K H' a vs) (hl : ∀ a o, H a = some o → a ∉ rho.at_ → a ∉ rho.res → H' a = some o) (hf : ∀ a o u, H a = some (.frz o u) → H' a = some (.frz o u)) : ∀ (d : D) (v : V), Den G rho H d v → Den G rho H' d v
  | .non, _, h => h
  | .bl _, _, h => h
  | .int _, _, h => h
  | .str _, _, h => h
  | .tup ds, v, h => by
    rw [Den] at h ⊢
    obtain ⟨a, vs, e, q, l, ds'⟩ := h
    refine ⟨a, vs, e, ?_, l, dens_same ht hl hf ds vs ds'⟩
    rcases q with ⟨o, q, d⟩ | q
    · exact .inl ⟨o, hf a o _ q, d⟩
    · exact .inr q
  | .wtp ds, v, h => by
    rw [Den] at h ⊢
    obtain ⟨a, vs, e, q, l, ds'⟩ := h
    exact ⟨a, vs, e, ht a vs q, l, dens_same ht hl hf ds vs ds'⟩
  | .lst ds, v, h => by
    rw [Den] at h ⊢
    obtain ⟨a, vs, e, q, n, n2, l, ds'⟩ := h
    exact ⟨a, vs, e, hl a _ q n n2, n, n2, l, dens_same ht hl hf ds vs ds'⟩
  | .ref i, v, h => h
  | .glb _, _, h => h
  | .scr ns, v, h => by
    rw [Den] at h ⊢
    obtain ⟨a, e, q, l⟩ := h
    refine ⟨a, e, ?_, l⟩
    rcases q with ⟨o, q⟩ | q
    · exact .inl ⟨o, hf a o _ q⟩
    · exact .inr q
  | .dct ks ds, v, h => by
    rw [Den] at h ⊢
    obtain ⟨a, xs, es, us, e, q, n, n2, l1, l2, k1, k2, k3, k4, k5, d1, d2⟩ := h
    exact ⟨a, xs, es, us, e, hl a _ q n n2, n, n2, l1, l2, k1, k2, k3, k4, k5, dens_same ht hl hf ks _ d1, dens_same ht hl hf ds us d2⟩
theorem dens_same (ht : ∀ a vs, SqT G.K H a vs → SqT G.K H' a vs) (hl : ∀ a o, H a = some o → a ∉ rho.at_ → a ∉ rho.res → H' a = some o) (hf : ∀ a o u, H a = some (.frz o u) → H' a = some (.frz o u)) : ∀ (ds : List D) (vs : List V), Dens G rho H ds vs → Dens G rho H' ds vs
  | [], _, h => h
  | d :: ds, vs, h => by
    rw [Dens] at h ⊢
    obtain ⟨v, r, e, a, b⟩ := h
    exact ⟨v, r, e, den_same ht hl hf d v a, dens_same ht hl hf ds r b⟩
end
theorem putR {p : Addr} {xs ys : List V} (hp : H p = some (.lst xs)) (hr : p ∈ rho.res) : (∀ a vs, SqT G.K H a vs → SqT G.K (upd H p (.lst ys)) a vs) ∧ (∀ a o, H a = some o → a ∉ rho.at_ → a ∉ rho.res → (upd H p (.lst ys)) a = some o) ∧ (∀ a o u, H a = some (.frz o u) → (upd H p (.lst ys)) a = some (.frz o u)) := by
  refine ⟨fun a vs h => ?_, fun a vs h n n2 => ?_, fun a o u h => ?_⟩
  · rcases h with (h | ⟨o, h⟩) | h
    · exact .inl (.inl (by rw [upd_ne (ne_of h hp (by intro z; cases z))]; exact h))
    · exact .inl (.inr ⟨o, by rw [upd_ne (ne_of h hp (by intro z; cases z))]; exact h⟩)
    · exact .inr h
  · have ne : a ≠ p := fun e => n2 (by rw [e]; exact hr)
    rw [upd_ne ne]; exact h
  · rw [upd_ne (ne_of h hp (by intro z; cases z))]; exact h
theorem Rep.putR {hh : Hh} (R : Rep G rho hh H) {p : Addr} {xs ys : List V} (hp : H p = some (.lst xs)) (hr : p ∈ rho.res) (ha : p ∉ rho.at_) : Rep G rho hh (upd H p (.lst ys)) := by
  obtain ⟨ht, hl, hf⟩ := MR.putR (G := G) (ys := ys) hp hr
  refine ⟨R.nd, fun a m => ?_, R.len, fun i a o e1 e2 => ?_⟩
  · by_cases e : a = p
    · subst e; exact ⟨_, upd_same⟩
    · obtain ⟨o, q⟩ := R.hd a m
      exact ⟨o, by rw [upd_ne e]; exact q⟩
  · have ne : a ≠ p := fun e => ha (by rw [← e]; exact List.mem_of_getElem? e1)
    have x := R.ob i a o e1 e2
    cases o with
    | lst ds => obtain ⟨vs, e, l, q⟩ := x; exact ⟨vs, by rw [upd_ne ne]; exact e, l, dens_same ht hl hf ds vs q⟩
    | dK kvs => obtain ⟨vs, e, l, q⟩ := x; exact ⟨vs, by rw [upd_ne ne]; exact e, l, Paired.mapP q fun p q r => ⟨r.1, den_same ht hl hf _ _ r.2⟩⟩
    | dN kvs =>
      obtain ⟨xs, l0, l1, es, e, q, r⟩ := x
      exact ⟨xs, l0, l1, es, by rw [upd_ne ne]; exact e, Paired.mapP q fun p q r => ⟨r.1, den_same ht hl hf _ _ r.2.1, let ⟨v, a, b⟩ := r.2.2; ⟨v, a, den_same ht hl hf _ _ b⟩⟩, r⟩
    | ins C fs =>
      obtain ⟨c, dx, fvs, g, e, o, q⟩ := x
      have nd : dx ≠ p := ne_of o hp (by intro z; cases z)
      exact ⟨c, dx, fvs, g, by rw [upd_ne ne]; exact e, by rw [upd_ne nd]; exact o, Paired.mapP q fun p q r => ⟨r.1, den_same ht hl hf _ _ r.2⟩⟩
    | exc x => obtain ⟨c, d, q, e⟩ := x; exact ⟨c, d, q.put (.inr hr), by rw [upd_ne ne]; exact e⟩
theorem EnvD.putR {env : DEnv} {σ : L2.St} (E : EnvD G rho H env σ) {p : Addr} {xs ys : List V} (hp : H p = some (.lst xs)) (hr : p ∈ rho.res) : EnvD G rho (upd H p (.lst ys)) env σ := by
  obtain ⟨ht, hl, hf⟩ := MR.putR (G := G) (ys := ys) hp hr
  exact ⟨E.1, fun i d e => let ⟨v, e1, e2⟩ := E.2 i d e; ⟨v, e1, den_same ht hl hf _ _ e2⟩⟩
end

section
variable {X : Cx}
def Fin (G : Gm) (rho1 : Rm) (H1 : Hp) (L : Addr) (Q : VK) (acc : List D) (r : Res (List D)) : Prop :=
  match r with
  | .ok ys hh' => ∀ rho' H' vs, Step rho1 H1 rho' H' → Rep G rho' hh' H' → H' L = some (.lst vs) → L ∈ rho'.res → L ∉ rho'.at_ → vs.length ≤ sizeLine → Dens G rho' H' (acc ++ ys) vs → Q (.ref L) H'
  | _ => False
theorem lc_of {G : Gm} {W : WX} {mi : MI} {T : Tg} {t : MT} {e : ME} {vs : List Nat} {σ : L2.St} {H : Hp} {Q : VK} (hT : ∀ i ∈ T.slots, i ∈ vs) (h : TDl G W (aComp mi T t e vs) σ H Q) :
    tLc (TDi G W mi) (gT G.K T) (TDt G WF t) (TD G WF e) vs σ H Q := by
  obtain ⟨rho, env, hh, R, E, p⟩ := h
  refine ⟨rho, env, hh, R, E, ?_⟩
  unfold aComp at p
  cases em : mi env hh with
  | stuck => rw [em] at p; exact p.elim
  | err x h1 =>
    rw [em] at p
    exact p
  | ok src h1 =>
    rw [em, bind_ok] at p
    intro rho1 H1 J S1 R1 wk L hL
    have E1 := (E.step R S1).wipe vs
    -- the list is laid, apart
    have hLa : L ∉ rho1.at_ := fun hm => by
      obtain ⟨u, e, _⟩ := R1.mut hm
      rw [hL] at e; cases e
    obtain ⟨S2, R2, _, _⟩ := new_list (ds := []) (vs := []) (Step.refl (rho := rho1) (H := H1)) R1 rfl hL
    have E2 := E1.step R1 S2
    have fin : Fin G rho1 H1 L Q [] (compL src.live T t e (wipeE env vs) src.items h1) := by
      cases ec : compL src.live T t e (wipeE env vs) src.items h1 with
      | ok ys h2 =>
        rw [ec] at p
        exact fun rho' H' ws S' R' hl hr ha hz q => p rho' H' L ws (S1.trans S') R' hl hr ha (S1.back hL) hz q
      | err x h2 => rw [ec] at p; exact p
      | stuck => rw [ec] at p; exact p
    obtain ⟨wl, wk⟩ := wk
    refine ⟨fun i m H => m = src.items.length - i ∧ i ≤ src.items.length ∧ ∃ rho hh acc av, Step rho1 H1 rho H ∧ Rep G rho hh H ∧ EnvD G rho H (wipeE env vs) (wipe σ vs) ∧ H L = some (.lst av) ∧ L ∈ rho.res ∧ L ∉ rho.at_ ∧ av.length ≤ i ∧ Dens G rho H acc av ∧
        Fin G rho1 H1 L Q acc (compL src.live T t e (wipeE env vs) (src.items.drop i) hh),
      ⟨_, rfl, Nat.zero_le _, rho1.hold L, h1, [], [], S2, R2, E2, upd_same, List.mem_cons_self, hLa, Nat.le_refl _, rfl, by rw [List.drop_zero]; exact fin⟩, ?_⟩
    rintro i m H3 ⟨rfl, hi, rho3, hh3, acc, av, S3, R3, E3, h3, hr3, ha3, hz3, q3, f3⟩
    by_cases hlt : i < src.items.length
    · have ed : src.items.drop i = src.items[i] :: src.items.drop (i + 1) := List.drop_eq_getElem_cons hlt
      rw [ed] at f3
      unfold compL at f3
      split at f3
      · rename_i hg3
        obtain ⟨w1, w2, w3⟩ := wk rho3 hh3 H3 S3 R3 hg3
        refine .inr ⟨w1 i hlt, fun H' => ∃ rho hh acc av, Step rho1 H1 rho H' ∧ Rep G rho hh H' ∧ EnvD G rho H' (wipeE env vs) (wipe σ vs) ∧ H' L = some (.lst av) ∧ L ∈ rho.res ∧ L ∉ rho.at_ ∧ av.length ≤ i + 1 ∧ Dens G rho H' acc av ∧
            Fin G rho1 H1 L Q acc (compL src.live T t e (wipeE env vs) (src.items.drop (i + 1)) hh),
          fun H' q => ⟨src.items.length - (i + 1), by omega, rfl, hlt, q⟩, fun x H4 y => ?_⟩
        obtain ⟨S4, R4, q4⟩ := w3 i _ x H4 (List.getElem?_eq_getElem hlt) y
        have E4 := E3.step R3 S4
        cases eb : bindT T src.items[i] (wipeE env vs) with
        | none => rw [eb] at f3; exact f3.elim
        | some env5 =>
          rw [eb] at f3
          refine bindT_of E4 q4 eb fun σ5 E5 hw => ⟨by rw [hw vs hT, show wipe (wipe σ vs) vs = wipe σ vs from by
            apply List.ext_getElem?
            intro j
            rw [wipe_at, wipe_length]
            by_cases hj : j ∈ vs
            · simp [hj, wipe_at]
            · simp [hj]], rho3, env5, hh3, R4, E5, ?_⟩
          simp only at f3
          cases et : t env5 hh3 with
          | stuck => rw [et] at f3; exact f3.elim
          | err x2 h5 => rw [et] at f3; exact f3.elim
          | ok k h5 =>
            rw [et, bind_ok] at f3
            intro rho6 H6 k' S6 R6 ek
            subst ek
            have S16 := S3.trans (S4.trans S6)
            have L4 := S4.keep L _ h3 ha3
            have L6 := S6.keep L _ L4 ha3
            have r6 := S6.kept L hr3
            have a6 : L ∉ rho6.at_ := S6.out L4 ha3
            have q6 := Dens.step R4 S6 _ _ (Dens.step R3 S4 _ _ q3)
            have E6 := (E3.step R3 S4).step R4 S6
            cases k with
            | false =>
              simp only [Bool.false_eq_true, if_false] at f3 ⊢
              exact ⟨rho6, h5, acc, av, S16, R6, E6, L6, r6, a6, Nat.le_succ_of_le hz3, q6, f3⟩
            | true =>
              simp only [if_true] at f3 ⊢
              refine ⟨rho6, env5, h5, R6, E5.step R4 S6, ?_⟩
              cases ee : e env5 h5 with
              | stuck => rw [ee] at f3; exact f3.elim
              | err x2 h7 => rw [ee] at f3; exact f3.elim
              | ok y2 h7 =>
                rw [ee, bind_ok] at f3
                intro rho8 H8 yv S8 R8 q8
                have L8 := S8.keep L _ L6 a6
                have r8 := S8.kept L r6
                have a8 : L ∉ rho8.at_ := S8.out L6 a6
                refine ⟨av, L8, by omega, rho8, h7, acc ++ [y2], av ++ [yv], (S16.trans S8).since hL, R8.putR L8 r8 a8, (E6.step R6 S8).putR L8 r8, upd_same, r8, a8, by simp; omega, ?_, ?_⟩
                · obtain ⟨ht, hl, hf⟩ := putR (G := G) (ys := av ++ [yv]) L8 r8
                  exact dens_same ht hl hf _ _ ((Dens.step R6 S8 _ _ q6).append ⟨yv, [], rfl, q8, rfl⟩)
                · cases ec : compL src.live T t e (wipeE env vs) (src.items.drop (i + 1)) h7 with
                  | stuck => rw [ec] at f3; exact f3.elim
                  | err x2 h9 => rw [ec] at f3; exact f3.elim
                  | ok ys h9 =>
                    rw [ec, bind_ok] at f3
                    intro rho' H' ws a b c d e' f g
                    exact f3 rho' H' ws a b c d e' f (by rw [List.append_assoc] at g; exact g)
      · exact f3.elim
    · have ei : i = src.items.length := by omega
      subst ei
      rw [List.drop_length] at f3
      unfold compL at f3
      split at f3
      · rename_i hg3
        obtain ⟨w1, w2, w3⟩ := wk rho3 hh3 H3 S3 R3 hg3
        exact .inl ⟨w2, f3 rho3 H3 av S3 R3 h3 hr3 ha3 (by omega) (by rw [List.append_nil]; exact q3)⟩
      · exact f3.elim
variable {elt tg iter : Expr} {ifs : List Expr} {scope : Scope} {own : List (Str × Nat)} {pos : Pos} {mi : MI} {T : Tg} {t : MT} {e : ME}
theorem dl_comp (hc : X.calm = true) (hN : X.N.Nodup) (hi : DI X tg iter mi) (ok : BlkOk X.N X.env.scope scope own)
    (hg : ∀ (s : Shared) (H : Hp) (C : Addr) (cl : List (Str × Addr)) (fp : List Addr), DTg (X.blk s H scope (compEnvC scope cl C X.env) fp) tg T) (ht : ∀ (s : Shared) (H : Hp) (C : Addr) (cl : List (Str × Addr)) (fp : List Addr), DTs (X.blk s H scope (compEnvC scope cl C X.env) fp) ifs t)
    (he : ∀ (s : Shared) (H : Hp) (C : Addr) (cl : List (Str × Addr)) (fp : List Addr), DE (X.blk s H scope (compEnvC scope cl C X.env) fp) elt e) (hT : ∀ i ∈ T.slots, i ∈ own.map (·.2) := by decide) (hs : ∀ x, foldedSetIterable iter X.env x = pure x := by intro _; rfl) :
    DL X (.ListComp elt [⟨tg, iter, ifs, 0⟩] scope pos) (aComp mi T t e (own.map (·.2))) :=
  ⟨fun W tk => pe_weak (pe_lc hc hN (hi.run W tk) ok (fun s H C cl fp => (hg s H C cl fp).run) (fun s H C cl fp => (ht s H C cl fp).run WF takes0) (fun s H C cl fp => (he s H C cl fp).run WF takes0) hs) fun σ H Q h => lc_of hT h⟩
variable {i : Nat} {y : Str} {py spos : Pos}
end
end MR

set_option maxHeartbeats 1000000
namespace MR
open PySem PySem.Spec PyProof.Rows L2

structure SeqK (P : Program) (w : World) (K : PySem.W.Frag) (Sq : Hp → Addr → List V → Prop) (IsIt : Heap → Addr → Addr → Nat → Prop) (IsSq : Heap → Addr → Array Value → Prop) (io : Addr → Obj) : Prop where
  beg : ∀ a items, Begins (.ref a) (io a) (fun h => IsSq h a items)
  it0 : ∀ (h : Heap) it a, h.get? it = some (io a) → IsIt h it a 0
  at_ : ∀ (h h' : Heap) it a i, IsIt h it a i → (∀ o, h.get? it = some o → h'.get? it = some o) → IsIt h' it a i
  obj : ∀ (h : Heap) it a i, IsIt h it a i → ∃ o, h.get? it = some o ∧ ∀ v, o.data ≠ .cell v
  draws : ∀ (A : Around) it a (items : Array Value), A.handled = none → a ≠ it → Draws P w A it [it, a] items.size (fun i v => items[i]? = some v) (fun i h => IsIt h it a i ∧ IsSq h a items)
  inv : ∀ (X : Cx) pins σ H s a xs, X.prog = P → X.w = w → X.K = K → Inv X pins σ H s → Sq H a xs → ∃ its : List Value, Vals xs its ∧ IsSq s.heap a its.toArray ∧ a < s.heap.objs.size
  inj : ∀ (X : Cx) pins σ H s a xs ys, X.K = K → Inv X pins σ H s → Sq H a xs → Sq H a ys → xs = ys
end MR

namespace MR
open PySem PySem.Spec PyProof.Rows L2

def srcOf (d : D) (h : Hh) : Option Src := match d with
  | .tup ds => some ⟨ds, none⟩
  | .lst ds => some ⟨ds, none⟩
  | .scr ns => some ⟨ns.map D.int, none⟩
  | .ref i => match h[i]? with
    | some (.lst ds) => some ⟨ds, some (i, ds)⟩
    | _ => none
  | .str x => if x.cps.size ≤ sizeLine then some ⟨x.cps.toList.map fun c => .str ⟨#[c]⟩, none⟩ else none
  | _ => none
def seqOf (d : D) (h : Hh) : Option Src := match d with
  | .str _ => none
  | d => srcOf d h

section
variable {G : Gm} {rho : Rm} {H : Hp} {hh : Hh}
def SeqAt (G : Gm) (rho1 : Rm) (H1 : Hp) (src : Src) (a : Addr) (Sq : Hp → Addr → List V → Prop) : Prop :=
  src.items.length ≤ sizeLine ∧ ∀ rho hh H, Step rho1 H1 rho H → Rep G rho hh H → gOk src.live hh → ∃ vs, Sq H a vs ∧ Dens G rho H src.items vs
theorem SeqAt.here {src : Src} {a : Addr} {Sq : Hp → Addr → List V → Prop} (x : SeqAt G rho H src a Sq) (R : Rep G rho hh H) (g : gOk src.live hh) : ∃ vs, Sq H a vs ∧ Dens G rho H src.items vs := x.2 rho hh H .refl R g
theorem srcOf_live {d : D} {src : Src} (h : srcOf d hh = some src) : gOk src.live hh := by
  intro i ds e
  cases d with
  | wtp ds => cases h
  | tup ds => cases h; cases e
  | lst ds => cases h; cases e
  | scr ns => cases h; cases e
  | ref j =>
    have h : (match hh[j]? with
      | some (O.lst ds) => some (⟨ds, some (j, ds)⟩ : Src)
      | _ => none) = some src := h
    split at h
    · rename_i ds2 e2
      cases h
      cases e
      exact e2
    · cases h
  | str x =>
    have h : (if x.cps.size ≤ sizeLine then some (⟨x.cps.toList.map fun c => .str ⟨#[c]⟩, none⟩ : Src) else none) = some src := h
    split at h
    · cases h; cases e
    · cases h
  | non => cases h
  | bl b => cases h
  | int i => cases h
  | glb u => cases h
  | dct u w => cases h
theorem dens_ints (ns : List Int) : Dens G rho H (ns.map D.int) (ns.map V.int) := by
  induction ns with
  | nil => rfl
  | cons n ns ih => exact ⟨.int n, ns.map V.int, rfl, rfl, ih⟩
theorem seqAt_of {d : D} {v : V} {src : Src} (R : Rep G rho hh H) (q : Den G rho H d v) (h : seqOf d hh = some src) : ∃ a, v = .ref a ∧ (SeqAt G rho H src a (SqL G.K) ∨ SeqAt G rho H src a (SqT G.K)) := by
  cases d with
  | tup ds =>
    cases h
    rw [Den] at q
    obtain ⟨a, vs, rfl, hs, l, q⟩ := q
    have e := q.length
    exact ⟨a, rfl, .inr ⟨by show ds.length ≤ sizeLine; omega, fun rho2 hh2 H2 S R2 _ => ⟨vs, sqT_step R S hs.t, Dens.step R S _ _ q⟩⟩⟩
  | wtp ds => cases h
  | lst ds =>
    cases h
    rw [Den] at q
    obtain ⟨a, vs, rfl, hs, n, n2, l, q⟩ := q
    have e := q.length
    exact ⟨a, rfl, .inl ⟨by show ds.length ≤ sizeLine; omega, fun rho2 hh2 H2 S R2 _ => ⟨vs, .inl (.inl (S.keep a _ hs n)), Dens.step R S _ _ q⟩⟩⟩
  | scr ns =>
    cases h
    have q0 := q
    rw [Den] at q
    obtain ⟨a, rfl, hs, l⟩ := q
    refine ⟨a, rfl, .inl ⟨by simpa using l, fun rho2 hh2 H2 S R2 _ => ⟨ns.map V.int, ?_, ?_⟩⟩⟩
    · have q2 := Den.step R S _ _ q0
      rw [Den] at q2
      obtain ⟨a2, e2, hs2, _⟩ := q2
      cases e2
      rcases hs2 with ⟨o, hs2⟩ | hs2
      · exact .inl (.inr ⟨o, hs2⟩)
      · exact .inr hs2
    · exact dens_ints ns
  | ref i =>
    have h : (match hh[i]? with
      | some (O.lst ds) => some (⟨ds, some (i, ds)⟩ : Src)
      | _ => none) = some src := h
    split at h
    · rename_i ds e
      cases h
      rw [Den] at q
      obtain ⟨a, e1, rfl⟩ := q
      obtain ⟨vs, e2, l, q⟩ := R.ob i a _ e1 e
      have el := q.length
      refine ⟨a, rfl, .inl ⟨by show ds.length ≤ sizeLine; omega, fun rho2 hh2 H2 S R2 g => ?_⟩⟩
      obtain ⟨vs2, e3, l2, q2⟩ := R2.ob i a _ (S.get e1) (g i ds rfl)
      exact ⟨vs2, SqL.of e3, q2⟩
    · cases h
  | non => cases h
  | bl b => cases h
  | int i => cases h
  | str x => cases h
  | glb u => cases h
  | dct u w => cases h
theorem walkD_seq {src : Src} {a : Addr} {Sq : Hp → Addr → List V → Prop} {J : It} (x : SeqAt G rho H src a Sq) (hw : ∀ xs, Walk J xs.length (fun H => Sq H a xs) (YAt xs)) : WalkD G rho H src J := by
  refine ⟨x.1, fun rho2 hh2 H2 S R2 g => ?_⟩
  obtain ⟨vs, hs, q⟩ := x.2 rho2 hh2 H2 S R2 g
  have w := hw vs
  have e := q.length
  refine ⟨fun i hi => w.goes i H2 (by omega) hs, by rw [e]; exact w.stops H2 hs, fun i d y H' hd hy => ?_⟩
  have hi : i < vs.length := by have := (List.getElem?_eq_some_iff.mp hd).1; omega
  obtain ⟨e1, e2⟩ := w.yields i H2 y H' hi hs hy
  subst e1
  obtain ⟨v, e3, q3⟩ := q.get hd
  rw [e3] at e2; cases e2
  exact ⟨.refl, R2, q3⟩
end

def iSeq (K : PySem.W.Frag) (tl : TE) : TI := fun σ H R => tl σ H fun x H1 => (∃ a, x = .ref a ∧ ((∃ xs, SqL K H1 a xs) ∧ R (Itl K a) H1 ∨ (∃ xs, SqT K H1 a xs) ∧ R (Itt K a) H1)) ∨ ∃ z, x = .str z ∧ R (Its z) H1
section
variable {X : Cx} {tg : Expr}
theorem pi_seq {l : Expr} {tl : TE} (hl : PE X l tl) : PI X tg l (iSeq X.K tl) := by
  refine ⟨fun pins s σ H R I h => ?_⟩
  refine thn (hl.run pins s σ H _ I h) fun v s1 ⟨x, H1, I1, r1, q1⟩ => ?_
  rcases q1 with ⟨a, e, q1⟩ | ⟨z, e, q1⟩
  · subst e
    cases r1
    rcases q1 with ⟨⟨xs, hq⟩, q⟩ | ⟨⟨xs, hq⟩, q⟩
    · obtain ⟨its, rv, p, hz⟩ := I1.list hq
      refine wpAny_pyIter_list p.isList ?_
      refine ⟨s1.heap.objs.size, [s1.heap.objs.size], _, _, H1, rfl, I1.kept (t' := s1.toks) fun b o e => Heap.get?_push_of_some _ e, turn_list a _, ⟨_, Heap.get?_push_size _ rfl, rfl, rfl⟩, fun b hb => ?_, q⟩
      have e : b = s1.heap.objs.size := by simpa using hb
      subst e
      exact I1.fpOk (Nat.le_refl _) (I1.hok.fresh (Nat.le_refl _))
    · obtain ⟨its, rv, p, hz⟩ := I1.tuple hq
      refine wpAny_pyIter_tuple (show s1.heap.IsTuple a its.toArray from p) ?_
      refine ⟨s1.heap.objs.size, [s1.heap.objs.size], _, _, H1, rfl, I1.kept (t' := s1.toks) fun b o e => Heap.get?_push_of_some _ e, turn_tuple a _, ⟨_, Heap.get?_push_size _ rfl, rfl, rfl⟩, fun b hb => ?_, q⟩
      have e : b = s1.heap.objs.size := by simpa using hb
      subst e
      exact I1.fpOk (Nat.le_refl _) (I1.hok.fresh (Nat.le_refl _))
  · subst e
    obtain ⟨t, rfl⟩ := r1
    cases ha : z.cps.all (· < 128)
    · exact wpAny_pyIter_wide ha (pi_one (tk := s1.toks) I1 _ (turn_str _ z t "str_iterator" (.inr rfl)) ⟨_, Heap.get?_push_size _ rfl, rfl, rfl⟩ q1)
    · exact wpAny_pyIter_ascii ha (pi_one (tk := s1.toks) I1 _ (turn_str _ z t "str_ascii_iterator" (.inl rfl)) ⟨_, Heap.get?_push_size _ rfl, rfl, rfl⟩ q1)
def iOf (m : ME) : MI := fun env h => (m env h).bind fun d h1 => lift (srcOf d h1) h1
theorem di_seq {l : Expr} {m : ME} (h : DE X l m) : DI X tg l (iOf m) :=
  ⟨fun W tk => pi_weak (pi_seq (h.run W tk)) fun σ H R q => tE_of (Rl := WalkD (Cx.gm X)) q fun rho env hh H1 d v Rp E qd p => by
    obtain ⟨src, es, pp⟩ := lift_post p
    clear p
    cases d with
    | str x =>
      have es : (if x.cps.size ≤ sizeLine then some (⟨x.cps.toList.map fun c => .str ⟨#[c]⟩, none⟩ : Src) else none) = some src := es
      split at es
      · rename_i hx
        cases es
        refine .inr ⟨x, qd, pp rho H1 _ .refl Rp ⟨by simpa using hx, fun rho2 hh2 H2 S R2 _ => ?_⟩⟩
        have w := walk_str (z := x)
        refine ⟨fun i hi => w.goes i H2 (by simpa using hi) True.intro, by simpa using w.stops H2 True.intro, fun i d y H' hd hy => ?_⟩
        have hi : i < x.cps.size := by have := (List.getElem?_eq_some_iff.mp hd).1; simpa using this
        obtain ⟨e1, c, ec, e2⟩ := w.yields i H2 y H' hi True.intro hy
        subst e1
        have ed : d = .str ⟨#[c]⟩ := by
          simp only [List.getElem?_map] at hd
          have : x.cps.toList[i]? = some c := by simpa using ec
          rw [this] at hd; exact (Option.some.inj hd).symm
        subst ed
        exact ⟨.refl, R2, e2⟩
      · cases es
    | tup ds =>
      obtain ⟨a, rfl, sq⟩ := seqAt_of Rp qd (src := src) es
      refine .inl ⟨a, rfl, ?_⟩
      rcases sq with sq | sq
      · obtain ⟨vs, h1, _⟩ := sq.here Rp (srcOf_live es)
        exact .inl ⟨⟨vs, h1⟩, pp rho H1 _ .refl Rp (walkD_seq sq fun xs => walk_list)⟩
      · obtain ⟨vs, h1, _⟩ := sq.here Rp (srcOf_live es)
        exact .inr ⟨⟨vs, h1⟩, pp rho H1 _ .refl Rp (walkD_seq sq fun xs => walk_tup)⟩
    | lst ds =>
      obtain ⟨a, rfl, sq⟩ := seqAt_of Rp qd (src := src) es
      refine .inl ⟨a, rfl, ?_⟩
      rcases sq with sq | sq
      · obtain ⟨vs, h1, _⟩ := sq.here Rp (srcOf_live es)
        exact .inl ⟨⟨vs, h1⟩, pp rho H1 _ .refl Rp (walkD_seq sq fun xs => walk_list)⟩
      · obtain ⟨vs, h1, _⟩ := sq.here Rp (srcOf_live es)
        exact .inr ⟨⟨vs, h1⟩, pp rho H1 _ .refl Rp (walkD_seq sq fun xs => walk_tup)⟩
    | scr ds =>
      obtain ⟨a, rfl, sq⟩ := seqAt_of Rp qd (src := src) es
      refine .inl ⟨a, rfl, ?_⟩
      rcases sq with sq | sq
      · obtain ⟨vs, h1, _⟩ := sq.here Rp (srcOf_live es)
        exact .inl ⟨⟨vs, h1⟩, pp rho H1 _ .refl Rp (walkD_seq sq fun xs => walk_list)⟩
      · obtain ⟨vs, h1, _⟩ := sq.here Rp (srcOf_live es)
        exact .inr ⟨⟨vs, h1⟩, pp rho H1 _ .refl Rp (walkD_seq sq fun xs => walk_tup)⟩
    | ref i =>
      obtain ⟨a, rfl, sq⟩ := seqAt_of Rp qd (src := src) es
      refine .inl ⟨a, rfl, ?_⟩
      rcases sq with sq | sq
      · obtain ⟨vs, h1, _⟩ := sq.here Rp (srcOf_live es)
        exact .inl ⟨⟨vs, h1⟩, pp rho H1 _ .refl Rp (walkD_seq sq fun xs => walk_list)⟩
      · obtain ⟨vs, h1, _⟩ := sq.here Rp (srcOf_live es)
        exact .inr ⟨⟨vs, h1⟩, pp rho H1 _ .refl Rp (walkD_seq sq fun xs => walk_tup)⟩
    | wtp ds => cases es
    | non => cases es
    | bl b => cases es
    | int i => cases es
    | glb u => cases es
    | dct u w => cases es⟩

def rangeD (lo hi : Int) : List D := (List.range (hi - lo).toNat).map fun i : Nat => D.int (lo + (i : Int))
def rng1 (ds : List D) (_ : Hh) : Option Src := match ds with
  | [.int j] => if -1000000 ≤ j ∧ j ≤ 1000000 then some ⟨rangeD 0 j, none⟩ else none
  | _ => none
def iA (f : List D → Hh → Option Src) (ms : MA) : MI := fun env h => (ms env h).bind fun ds h1 => lift (f ds h1) h1
theorem walkD_range {G : Gm} {rho : Rm} {H : Hp} {lo : Int} {n : Nat} {hi : Int} (hn : n = (hi - lo).toNat) (hz : n ≤ sizeLine) : WalkD G rho H ⟨rangeD lo hi, none⟩ (Itr lo n) := by
  subst hn
  refine ⟨by simpa [rangeD] using hz, fun rho2 hh2 H2 S R2 _ => ?_⟩
  have w := walk_range (lo := lo) (n := (hi - lo).toNat)
  refine ⟨fun i h => w.goes i H2 (by simpa [rangeD] using h) True.intro, by simpa [rangeD] using w.stops H2 True.intro, fun i d y H' hd hy => ?_⟩
  have hi : i < (hi - lo).toNat := by have := (List.getElem?_eq_some_iff.mp hd).1; simpa [rangeD] using this
  obtain ⟨e1, e2⟩ := w.yields i H2 y H' hi True.intro hy
  subst e1 e2
  have ed : d = .int (lo + i) := by
    unfold rangeD at hd
    rw [List.getElem?_map, List.getElem?_range hi] at hd
    exact (Option.some.inj hd).symm
  subst ed
  exact ⟨.refl, R2, rfl⟩
theorem di_range1 {a : Expr} {ms : MA} {p pos : Pos} (hg : Gl X "range") (hm : X.mg "range" = none) (ha : DA X [a] ms) (hs : starEach [a] X.env = [(false, eval a X.env)] := by rfl) : DI X tg (.Call (.Name "range" p) [a] [] pos) (iA rng1 ms) :=
  ⟨fun W tk => pi_weak (pi_range1 hg hm (ha.run W tk) hs) fun σ H R q => tA_of (Rl := WalkD (Cx.gm X)) q fun rho env hh H1 ds vs Rp E qd p => by
    obtain ⟨src, es, p⟩ := lift_post p
    unfold rng1 at es
    split at es
    · rename_i j
      split at es
      · rename_i hj
        cases es
        rw [Dens] at qd
        obtain ⟨v, r, rfl, hv, hr⟩ := qd
        rw [Dens] at hr
        subst hr
        exact ⟨j, by rw [show v = .int j from hv], by omega, by omega, p rho H1 _ .refl Rp (walkD_range (by simp) (by rw [sizeLine_eq]; omega))⟩
      · cases es
    · cases es⟩
end
end MR

namespace MR
open PySem PySem.Spec PyProof.Rows L2

theorem OpR.imp {X : Cx} {f : Value → Value → Sem Value} {r r' : R2} (h : OpR X f r) (i : ∀ x y H Q, r' x y H Q → r x y H Q) : OpR X f r' := fun pins s σ H x y v u Q I rx ry q => h pins s σ H x y v u Q I rx ry (i x y H Q q)
theorem CallR.or {X : Cx} {f : Value} {r r' : List V → Hp → VK → Prop} (h : CallR X f r) (h' : CallR X f r') : CallR X f (fun xs H Q => r xs H Q ∨ r' xs H Q) := fun pins s σ H xs us Q I rx q => by
  rcases q with q | q
  · exact h pins s σ H xs us Q I rx q
  · exact h' pins s σ H xs us Q I rx q

mutual
def toPy : D → Option PyData
  | .non => some PyData.none
  | .bl b => some (PyData.bool b)
  | .int i => some (PyData.int i)
  | .str x => some (PyData.str x)
  | .tup ds => (toPys ds).map PyData.tuple
  | .lst ds => (toPys ds).map PyData.list
  | .ref _ => none
  | .glb _ => none
  | .scr _ => none
  | .wtp _ => none
  | .dct _ _ => none
def toPys : List D → Option (List PyData)
  | [] => some []
  | d :: ds => match toPy d, toPys ds with
    | some p, some ps => some (p :: ps)
    | _, _ => none
end
def deref (d : D) (h : Hh) : D := match d with
  | .ref i => match h[i]? with
    | some (.lst ds) => .lst ds
    | _ => .ref i
  | d => d
def pyOf (d : D) (h : Hh) : Option PyData := match toPy (deref d h) with
  | some p => if SeqAt.shaped p = true then some p else none
  | none => none
section
variable {G : Gm} {rho : Rm} {H : Hp} {hh : Hh}
mutual
theorem dp_of : ∀ (d : D) (v : V) (p : PyData), Den G rho H d v → toPy d = some p → Dp G.K H v p
  | .non, v, p, h, e => by cases e; rw [show v = .non from h]; exact .non
  | .bl b, v, p, h, e => by cases e; rw [show v = .bl b from h]; exact .bl b
  | .int i, v, p, h, e => by cases e; rw [show v = .int i from h]; exact .int i
  | .str x, v, p, h, e => by cases e; rw [show v = .str x from h]; exact .str x
  | .tup ds, v, p, h, e => by
    rw [Den] at h
    obtain ⟨a, vs, rfl, q, l, ds'⟩ := h
    rw [toPy] at e
    obtain ⟨ps, e1, rfl⟩ := Option.map_eq_some_iff.mp e
    exact .tup q.t (dps_of ds vs ps ds' e1)
  | .wtp ds, v, p, h, e => by rw [toPy] at e; cases e
  | .lst ds, v, p, h, e => by
    rw [Den] at h
    obtain ⟨a, vs, rfl, q, _, _, l, ds'⟩ := h
    rw [toPy] at e
    obtain ⟨ps, e1, rfl⟩ := Option.map_eq_some_iff.mp e
    exact .lst (SqL.of q) (dps_of ds vs ps ds' e1)
  | .ref i, v, p, h, e => by rw [toPy] at e; cases e
  | .glb i, v, p, h, e => by rw [toPy] at e; cases e
  | .scr i, v, p, h, e => by rw [toPy] at e; cases e
  | .dct i j, v, p, h, e => by rw [toPy] at e; cases e
theorem dps_of : ∀ (ds : List D) (vs : List V) (ps : List PyData), Dens G rho H ds vs → toPys ds = some ps → DpAll G.K H vs ps
  | [], vs, ps, h, e => by
    rw [Dens] at h; subst h
    rw [toPys] at e; cases e
    exact .nil
  | d :: ds, vs, ps, h, e => by
    rw [Dens] at h
    obtain ⟨v, r, rfl, a, b⟩ := h
    rw [toPys] at e
    cases e1 : toPy d with
    | none => rw [e1] at e; cases e
    | some p =>
      cases e2 : toPys ds with
      | none => rw [e1, e2] at e; cases e
      | some qs =>
        rw [e1, e2] at e; cases e
        exact .cons (dp_of d v p a e1) (dps_of ds r qs b e2)
end
theorem dp_deref {d : D} {v : V} {p : PyData} (R : Rep G rho hh H) (h : Den G rho H d v) (e : toPy (deref d hh) = some p) : Dp G.K H v p := by
  cases d with
  | ref i =>
    have e : toPy (match hh[i]? with
      | some (O.lst ds) => D.lst ds
      | _ => D.ref i) = some p := e
    split at e
    · rename_i ds e1
      rw [Den] at h
      obtain ⟨a, e2, rfl⟩ := h
      obtain ⟨vs, e3, l, q⟩ := R.ob i a _ e2 e1
      rw [toPy] at e
      obtain ⟨ps, e4, rfl⟩ := Option.map_eq_some_iff.mp e
      exact .lst (SqL.of e3) (dps_of ds vs ps q e4)
    · rw [toPy] at e; cases e
  | non => exact dp_of _ _ _ h e
  | bl b => exact dp_of _ _ _ h e
  | int b => exact dp_of _ _ _ h e
  | str b => exact dp_of _ _ _ h e
  | tup b => exact dp_of _ _ _ h e
  | lst b => exact dp_of _ _ _ h e
  | glb b => exact dp_of _ _ _ h e
  | scr b => exact dp_of _ _ _ h e
  | wtp b => exact dp_of _ _ _ h e
  | dct b c => exact dp_of _ _ _ h e
theorem pyOf_dp {d : D} {v : V} {p : PyData} (R : Rep G rho hh H) (h : Den G rho H d v) (e : pyOf d hh = some p) : Dp G.K H v p ∧ SeqAt.shaped p = true := by
  unfold pyOf at e
  split at e
  · rename_i q e1
    split at e
    · rename_i hs
      cases e
      exact ⟨dp_deref R h e1, hs⟩
    · cases e
  · cases e
end
def eqO : Op2 := fun a b h => match pyOf a h, pyOf b h with
  | some p, some q => some (.bl (PyData.eqv p q))
  | _, _ => none
def neO : Op2 := fun a b h => match pyOf a h, pyOf b h with
  | some p, some q => some (.bl (!PyData.eqv p q))
  | _, _ => none
section
variable {G : Gm}
theorem rz_eq : Rz2 G (rEqD G.K) eqO := fun rho hh H d1 d2 v1 v2 d Q R q1 q2 e k => by
  unfold eqO at e
  split at e
  · rename_i p q e1 e2
    cases e
    obtain ⟨a, b⟩ := pyOf_dp R q1 e1
    obtain ⟨a2, b2⟩ := pyOf_dp R q2 e2
    exact ⟨p, q, a, a2, b, b2, k _ H .refl R rfl⟩
  · cases e
theorem rz_ne : Rz2 G (rNeD G.K) neO := fun rho hh H d1 d2 v1 v2 d Q R q1 q2 e k => by
  unfold neO at e
  split at e
  · rename_i p q e1 e2
    cases e
    obtain ⟨a, b⟩ := pyOf_dp R q1 e1
    obtain ⟨a2, b2⟩ := pyOf_dp R q2 e2
    exact ⟨p, q, a, a2, b, b2, k _ H .refl R rfl⟩
  · cases e
def rInDT (K : PySem.W.Frag) (neg : Bool) : R2 := fun x y H Q => ∃ d ds, Dp K H x d ∧ (Dp K H y (.list ds) ∧ SeqAt.shaped (.list ds) = true ∨ Dp K H y (.tuple ds) ∧ SeqAt.shaped (.tuple ds) = true) ∧ SeqAt.shaped d = true ∧ Q (.bl (if neg then !(ds.any fun z => PyData.eqv z d) else ds.any fun z => PyData.eqv z d)) H
theorem op_inDT {X : Cx} (hu : X.A.units + 65 < cLine) : OpR X (compareOp .In) (rInDT X.K false) := by
  intro pins s σ H x y v u Q I rx ry h
  obtain ⟨d, ds, hd, he, sd, q⟩ := h
  obtain ⟨as, r1⟩ := Dp.reads I d x v hd rx
  rcases he with ⟨he, se⟩ | ⟨he, se⟩
  · obtain ⟨bs, r2⟩ := Dp.reads I (.list ds) y u he ry
    exact SeqAt.in_list_reads r2 r1 (SeqAt.canLay_of_shaped se) (SeqAt.canLay_of_shaped sd) (room_in_shaped sd hu) ⟨.bl _, H, I, rfl, q⟩
  · obtain ⟨bs, r2⟩ := Dp.reads I (.tuple ds) y u he ry
    exact SeqAt.in_tuple_reads r2 r1 (SeqAt.canLay_of_shaped se) (SeqAt.canLay_of_shaped sd) (room_in_shaped sd hu) ⟨.bl _, H, I, rfl, q⟩
def inO (neg : Bool) : Op2 := fun a b h => match pyOf a h, pyOf b h with
  | some d, some (.list ds) => some (.bl (if neg then !(ds.any fun z => PyData.eqv z d) else ds.any fun z => PyData.eqv z d))
  | some d, some (.tuple ds) => some (.bl (if neg then !(ds.any fun z => PyData.eqv z d) else ds.any fun z => PyData.eqv z d))
  | _, _ => none
theorem rz_in (neg : Bool) : Rz2 G (rInDT G.K neg) (inO neg) := fun rho hh H d1 d2 v1 v2 d Q R q1 q2 e k => by
  unfold inO at e
  split at e
  · rename_i p ds e1 e2
    cases e
    obtain ⟨a, b⟩ := pyOf_dp R q1 e1
    obtain ⟨a2, b2⟩ := pyOf_dp R q2 e2
    exact ⟨p, ds, a, .inl ⟨a2, b2⟩, b, k _ H .refl R rfl⟩
  · rename_i p ds e1 e2
    cases e
    obtain ⟨a, b⟩ := pyOf_dp R q1 e1
    obtain ⟨a2, b2⟩ := pyOf_dp R q2 e2
    exact ⟨p, ds, a, .inr ⟨a2, b2⟩, b, k _ H .refl R rfl⟩
  · cases e

def isNO (neg : Bool) : Op2 := fun a b _ => match b with
  | .non => match a with
    | .non => some (.bl (!neg))
    | .glb _ => none
    | _ => some (.bl neg)
  | _ => none
theorem den_non {rho : Rm} {H : Hp} {d : D} {v : V} (q : Den G rho H d v) (hn : d ≠ .non) (hg : ∀ u, d ≠ .glb u) : v ≠ .non := by
  intro e
  subst e
  cases d with
  | non => exact hn rfl
  | bl b => cases q
  | int b => cases q
  | str b => cases q
  | tup b => rw [Den] at q; obtain ⟨a, vs, e, _⟩ := q; cases e
  | wtp b => rw [Den] at q; obtain ⟨a, vs, e, _⟩ := q; cases e
  | lst b => rw [Den] at q; obtain ⟨a, vs, e, _⟩ := q; cases e
  | ref b => rw [Den] at q; obtain ⟨a, _, e⟩ := q; cases e
  | glb b => exact hg b rfl
  | scr b => rw [Den] at q; obtain ⟨a, e, _⟩ := q; cases e
  | dct b c => rw [Den] at q; obtain ⟨a, xs, es, us, e, _⟩ := q; cases e
theorem rz_isN : Rz2 G (fun x y H Q => y = .non ∧ Q (.bl (decide (x = .non))) H) (isNO false) := fun rho hh H d1 d2 v1 v2 d Q R q1 q2 e k => by
  unfold isNO at e
  split at e
  · refine ⟨q2, ?_⟩
    split at e
    · cases e
      rw [show v1 = .non from q1]
      exact k _ H .refl R rfl
    · cases e
    · rename_i hn hg
      cases e
      rw [decide_eq_false (den_non q1 hn hg)]
      exact k _ H .refl R rfl
  · cases e
def i2 (g : Int → Int → Option D) : Op2 := fun a b _ => match a, b with
  | .int i, .int j => g i j
  | _, _ => none
theorem rz_i2 {C : Int → Int → Prop} {g : Int → Int → V} {f : Int → Int → Option D} (h : ∀ i j d, f i j = some d → C i j ∧ ∀ rho H, Den G rho H d (g i j)) : Rz2 G (rI C g) (i2 f) := fun rho hh H d1 d2 v1 v2 d Q R q1 q2 e k => by
  unfold i2 at e
  split at e
  · rename_i i j
    obtain ⟨c, z⟩ := h i j d e
    exact ⟨i, j, q1, q2, c, k _ H .refl R (z rho H)⟩
  · cases e
theorem rz_i20 {g : Int → Int → V} {f : Int → Int → Option D} (h : ∀ i j d, f i j = some d → ∀ rho H, Den G rho H d (g i j)) : Rz2 G (rI0 g) (i2 f) := fun rho hh H d1 d2 v1 v2 d Q R q1 q2 e k => by
  unfold i2 at e
  split at e
  · rename_i i j
    exact ⟨i, j, q1, q2, k _ H .refl R (h i j d e rho H)⟩
  · cases e
def subO : Op2 := i2 fun i j => some (.int (i - j))
def ltO : Op2 := i2 fun i j => some (.bl (decide (i < j)))
def leO : Op2 := i2 fun i j => some (.bl (decide (i ≤ j)))
def gtO : Op2 := i2 fun i j => some (.bl (decide (j < i)))
def modO : Op2 := i2 fun i j => if 0 < j then some (.int (i % j)) else none
def fdivO : Op2 := i2 fun i j => if 0 < j ∧ j < 1073741824 then some (.int (i / j)) else none
def powO : Op2 := i2 fun i j => if 0 ≤ j ∧ j ≤ 1000000 ∧ i.natAbs < 18446744073709551616 then some (.int (i ^ j.toNat)) else none
theorem rz_sub : Rz2 G (rI0 fun i j => .int (i - j)) subO := rz_i20 fun i j d e => by cases e; intro rho H; rfl
theorem rz_lt : Rz2 G (rI0 fun i j => .bl (decide (i < j))) ltO := rz_i20 fun i j d e => by cases e; intro rho H; rfl
theorem rz_le : Rz2 G (rI0 fun i j => .bl (decide (i ≤ j))) leO := rz_i20 fun i j d e => by cases e; intro rho H; rfl
theorem rz_gt : Rz2 G (rI0 fun i j => .bl (decide (j < i))) gtO := rz_i20 fun i j d e => by cases e; intro rho H; rfl
theorem rz_mod : Rz2 G (rI (fun _ j => 0 < j) fun i j => .int (i % j)) modO := rz_i2 fun i j d e => by
  split at e
  · cases e; exact ⟨by assumption, fun _ _ => rfl⟩
  · cases e
theorem rz_fdiv : Rz2 G (rI CDiv fun i j => .int (i / j)) fdivO := rz_i2 fun i j d e => by
  split at e
  · rename_i h
    cases e; exact ⟨h, fun _ _ => rfl⟩
  · cases e
theorem rz_pow : Rz2 G (rI CPow fun i j => .int (i ^ j.toNat)) powO := rz_i2 fun i j d e => by
  split at e
  · rename_i h
    cases e; exact ⟨⟨h.1, h.2.1, by have := h.2.2; omega⟩, fun _ _ => rfl⟩
  · cases e

def seqL (d : D) (h : Hh) : Option (List D) := match d with
  | .lst ds => some ds
  | .ref i => match h[i]? with
    | some (.lst ds) => some ds
    | _ => none
  | _ => none
theorem seqL_of {rho : Rm} {hh : Hh} {H : Hp} {d : D} {v : V} {ds : List D} (R : Rep G rho hh H) (q : Den G rho H d v) (e : seqL d hh = some ds) : ∃ a vs, v = .ref a ∧ H a = some (.lst vs) ∧ vs.length ≤ sizeLine ∧ Dens G rho H ds vs := by
  cases d with
  | lst es =>
    cases e
    rw [Den] at q
    obtain ⟨a, vs, rfl, h, _, _, l, q⟩ := q
    exact ⟨a, vs, rfl, h, l, q⟩
  | ref i =>
    have e : (match hh[i]? with
      | some (O.lst ds) => some ds
      | _ => none) = some ds := e
    split at e
    · rename_i es e1
      cases e
      rw [Den] at q
      obtain ⟨a, e2, rfl⟩ := q
      obtain ⟨vs, e3, l, q⟩ := R.ob i a _ e2 e1
      exact ⟨a, vs, rfl, e3, l, q⟩
    · cases e
  | non => cases e
  | bl b => cases e
  | int b => cases e
  | str b => cases e
  | tup b => cases e
  | wtp b => cases e
  | glb b => cases e
  | scr b => cases e
  | dct b c => cases e
def addO : Op2 := fun a b h => match a, b with
  | .int i, .int j => some (.int (i + j))
  | .str x, .str y => if x.length + y.length ≤ sizeLine then some (.str (x ++ y)) else none
  | .tup xs, .tup ys => if xs.length + ys.length ≤ sizeLine then some (.tup (xs ++ ys)) else none
  | a, b => match seqL a h, seqL b h with
    | some xs, some ys => if xs.length + ys.length ≤ sizeLine then some (.lst (xs ++ ys)) else none
    | _, _ => none
def rCatF (K : PySem.W.Frag) : R2 := fun x y H Q => ∃ a b xs ys, x = .ref a ∧ y = .ref b ∧ SqT K H a xs ∧ SqT K H b ys ∧ xs.length + ys.length ≤ sizeLine ∧
  (xs = [] → Q (.ref b) H) ∧ (xs ≠ [] → ys = [] → Q (.ref a) H) ∧ (xs ≠ [] → ys ≠ [] → NewT H (xs ++ ys) Q)
theorem op_catF {X : Cx} : OpR X (binaryOp .Add) (rCatF X.K) := by
  intro pins s σ H x y v u Q I rx ry h
  obtain ⟨a, b, xs, ys, rfl, rfl, ha, hb, hz, q0, q1, q2⟩ := h
  by_cases hx : xs = []
  · exact op_catA pins s σ H _ _ v u Q I rx ry ⟨a, b, xs, ys, rfl, rfl, ha, hb, hz, q0, q1, fun z => absurd hx z⟩
  · cases rx
    cases ry
    obtain ⟨its, r1, p1, _⟩ := I.tuple ha
    obtain ⟨its2, r2, p2, _⟩ := I.tuple hb
    refine HT.cat_tup p1 p2 (fun z => hx (r1.nil_iff.mp z)) (fun z => ⟨.ref a, H, I, rfl, q1 hx (r2.nil_iff.mp z)⟩) (fun z => ?_) (by rw [← r1.length, ← r2.length]; exact hz)
    exact inv_newT I (r1.append r2) (by rw [List.length_append]; exact hz) (q2 hx fun w => z (r2.nil_iff.mpr w))
def rAddA (K : PySem.W.Frag) : R2 := fun x y H Q => rI0 (fun i j => .int (i + j)) x y H Q ∨ ((∃ i j, x = .str i ∧ y = .str j ∧ i.length + j.length ≤ sizeLine ∧ Q (.str (i ++ j)) H) ∨ (rCatF K x y H Q ∨ rCat x y H Q))
theorem op_addA {X : Cx} : OpR X (binaryOp .Add) (rAddA X.K) := op_add.or (op_add_str.or (op_catF.or op_cat))
theorem den_lst_new {rho : Rm} {hh : Hh} {H : Hp} {ds : List D} {vs : List V} {p : Addr} (R : Rep G rho hh H) (q : Dens G rho H ds vs) (l : vs.length ≤ sizeLine) (hp : H p = none) : Den G rho (upd H p (.lst vs)) (.lst ds) (.ref p) := by
  rw [Den]
  refine ⟨p, vs, rfl, upd_same, fun hm => ?_, fun hm => ?_, l, Dens.step R (.laid hp) _ _ q⟩
  · obtain ⟨u, e, _⟩ := R.mut hm
    rw [hp] at e; cases e
  · obtain ⟨o, e⟩ := R.hd p hm
    rw [hp] at e; cases e
theorem dens_nil {rho : Rm} {H : Hp} {ds : List D} (q : Dens G rho H ds []) : ds = [] := List.length_eq_zero_iff.mp q.length
theorem rz_add : Rz2 G (rAddA G.K) addO := fun rho hh H d1 d2 v1 v2 d Q R q1 q2 e k => by
  unfold addO at e
  split at e
  · rename_i i j
    cases e
    exact .inl ⟨i, j, q1, q2, k _ H .refl R rfl⟩
  · rename_i x y
    split at e
    · rename_i hl
      cases e
      exact .inr (.inl ⟨x, y, q1, q2, hl, k _ H .refl R rfl⟩)
    · cases e
  · rename_i xs ys
    split at e
    · rename_i hl
      cases e
      have q1' := q1
      have q2' := q2
      rw [Den] at q1 q2
      obtain ⟨a, vs, rfl, h1, l1, z1⟩ := q1
      obtain ⟨b, ws, rfl, h2, l2, z2⟩ := q2
      have e1 := z1.length
      have e2 := z2.length
      refine .inr (.inr (.inl ⟨a, b, vs, ws, rfl, rfl, h1.t, h2.t, by omega, fun hv => ?_, fun hv hw => ?_, fun hv hw p o hp ho => ?_⟩))
      · subst hv
        rw [dens_nil z1] at k
        exact k _ H .refl R q2'
      · subst hw
        rw [dens_nil z2, List.append_nil] at k
        exact k _ H .refl R q1'
      · exact k _ _ (.laid hp) (R.laid hp) (Den.tup_new ho R (z1.append z2) (by rw [List.length_append]; omega) hp)
    · cases e
  · split at e
    · rename_i xs ys e1 e2
      split at e
      · rename_i hl
        cases e
        obtain ⟨a, vs, rfl, h1, l1, z1⟩ := seqL_of R q1 e1
        obtain ⟨b, ws, rfl, h2, l2, z2⟩ := seqL_of R q2 e2
        have n1 := z1.length
        have n2 := z2.length
        exact .inr (.inr (.inr ⟨a, b, vs, ws, rfl, rfl, h1, h2, by omega, fun p hp => k _ _ (.laid hp) (R.laid hp) (den_lst_new R (z1.append z2) (by rw [List.length_append]; omega) hp)⟩))
      · cases e
    · cases e

def ixO : Op2 := fun a b h => match b with
  | .int i => match a with
    | .tup ds => atI ds i
    | .scr ns => atI (ns.map D.int) i
    | .str x => if x.length ≤ sizeLine then (atI x.cps.toList i).map fun c => .str ⟨#[c]⟩ else none
    | a => match seqL a h with
      | some ds => atI ds i
      | none => none
  | _ => none
theorem atI_of {rho : Rm} {H : Hp} {ds : List D} {vs : List V} {i : Int} {d : D} (q : Dens G rho H ds vs) (e : atI ds i = some d) : ∃ v, atI vs i = some v ∧ Den G rho H d v := by
  have hl := q.length
  unfold atI at e ⊢
  rw [← hl]
  cases h : ixN ds.length i with
  | none => rw [h] at e; cases e
  | some j =>
    rw [h] at e
    exact q.get e
theorem rz_ix : Rz2 G (rIx G.K) ixO := fun rho hh H d1 d2 v1 v2 d Q R q1 q2 e k => by
  unfold ixO at e
  split at e
  · rename_i i
    split at e
    · rename_i ds
      rw [Den] at q1
      obtain ⟨a, vs, rfl, h1, l1, z1⟩ := q1
      obtain ⟨v, e1, e2⟩ := atI_of z1 e
      exact .inr (.inl ⟨a, vs, i, v, rfl, q2, h1.t, e1, k _ H .refl R e2⟩)
    · rename_i ns
      rw [Den] at q1
      obtain ⟨a, rfl, hs, l⟩ := q1
      obtain ⟨v, e1, e2⟩ := atI_of (dens_ints (G := G) (rho := rho) (H := H) ns) e
      refine .inl ⟨a, ns.map V.int, i, v, rfl, q2, ?_, e1, k _ H .refl R e2⟩
      rcases hs with ⟨o, hs⟩ | hs
      · exact .inl (.inr ⟨o, hs⟩)
      · exact .inr hs
    · rename_i x
      split at e
      · rename_i hl
        obtain ⟨c, e1, rfl⟩ := Option.map_eq_some_iff.mp e
        exact .inr (.inr ⟨x, i, c, q1, q2, hl, e1, k _ H .refl R rfl⟩)
      · cases e
    · split at e
      · rename_i ds es
        obtain ⟨a, vs, rfl, h1, l1, z1⟩ := seqL_of R q1 es
        obtain ⟨v, e1, e2⟩ := atI_of z1 e
        exact .inl ⟨a, vs, i, v, rfl, q2, SqL.of h1, e1, k _ H .refl R e2⟩
      · cases e
  · cases e
end
end MR

namespace MR
open PySem PySem.Spec PyProof.Rows L2

def mulO : Op2 := i2 fun i j => if ((-18446744073709551616 < i ∧ i < 18446744073709551616) ∨ (-18446744073709551616 < j ∧ j < 18446744073709551616)) ∨ i.natAbs.log2 + j.natAbs.log2 < 1000000 then some (.int (i * j)) else none
def rMulA : R2 := fun x y H Q => rI CMul (fun i j => .int (i * j)) x y H Q ∨ rI CMulW (fun i j => .int (i * j)) x y H Q
theorem op_mulA {X : Cx} : OpR X (binaryOp .Mult) rMulA := op_mul.or op_mulW
section
variable {G : Gm}
theorem rz_mul : Rz2 G rMulA mulO := fun rho hh H d1 d2 v1 v2 d Q R q1 q2 e k => by
  unfold mulO i2 at e
  split at e
  · rename_i i j
    dsimp only at e
    split at e
    · rename_i h
      cases e
      rcases h with h | h
      · exact .inl ⟨i, j, q1, q2, by unfold CMul; omega, k _ H .refl R rfl⟩
      · exact .inr ⟨i, j, q1, q2, h, k _ H .refl R rfl⟩
    · cases e
  · cases e
end
def eNeg (m : ME) : ME := fun env h => (m env h).bind fun d h1 => lift (match d with | .int i => some (.int (-i)) | _ => none) h1
theorem de_neg {X : Cx} {e : Expr} {m : ME} {pos : Pos} (h : DE X e m) : DE X (.UnaryOp .USub e pos) (eNeg m) :=
  ⟨fun W tk => pe_weak (pe_un un_neg (h.run W tk)) fun σ H Q q => tE_of q fun rho env hh H1 d v R E qd p => by
    obtain ⟨a, e, p⟩ := lift_post p
    cases d with
    | int i => cases e; exact ⟨i, qd, PostE.val (a := D.int (-i)) (b := V.int (-i)) (Rl := Den _) p R rfl⟩
    | non => cases e
    | bl b => cases e
    | str b => cases e
    | tup b => cases e
    | wtp b => cases e
    | lst b => cases e
    | ref b => cases e
    | glb b => cases e
    | scr b => cases e
    | dct b c => cases e⟩

def eChain (f g : Op2) (a b c : ME) : ME := fun env h => (a env h).bind fun x h1 => (b env h1).bind fun y h2 => (lift (f x y h2) h2).bind fun z h3 => (lift (asB z) h3).bind fun k h4 => if k = true then (c env h4).bind fun u h5 => lift (g y u h5) h5 else .ok (.bl false) h4
section
variable {X : Cx} {a b c : Expr} {ma mb mc : ME} {pos : Pos}
theorem tChain_of {G : Gm} {W : WX} {r r' : R2} {f g : Op2} {σ : L2.St} {H : Hp} {Q : VK} (z : Rz2 G r f) (z' : Rz2 G r' g) (h : TD G W (eChain f g ma mb mc) σ H Q) : tChain r r' (TD G W ma) (TD G W mb) (TD G W mc) σ H Q := by
  refine tE_of (f := fun env x h1 => (mb env h1).bind fun y h2 => (lift (f x y h2) h2).bind fun z h3 => (lift (asB z) h3).bind fun k h4 => if k = true then (mc env h4).bind fun u h5 => lift (g y u h5) h5 else .ok (.bl false) h4) h fun rho env hh H1 x vx R E qx p => ?_
  refine tE2_of (f := fun env x y h2 => (lift (f x y h2) h2).bind fun z h3 => (lift (asB z) h3).bind fun k h4 => if k = true then (mc env h4).bind fun u h5 => lift (g y u h5) h5 else .ok (.bl false) h4) ⟨rho, env, hh, R, E, qx, p⟩ fun rho env hh H2 y vy R E qx qy p => ?_
  cases e1 : f x y hh with
  | none => rw [e1] at p; exact p.elim
  | some zz =>
    rw [e1] at p
    cases e2 : asB zz with
    | none => rw [show (lift (some zz) hh).bind (fun z h3 => (lift (asB z) h3).bind fun k h4 => if k = true then (mc env h4).bind fun u h5 => lift (g y u h5) h5 else .ok (.bl false) h4) = (lift (asB zz) hh).bind fun k h4 => if k = true then (mc env h4).bind fun u h5 => lift (g y u h5) h5 else .ok (.bl false) h4 from rfl, e2] at p; exact p.elim
    | some k =>
      rw [show (lift (some zz) hh).bind (fun z h3 => (lift (asB z) h3).bind fun k h4 => if k = true then (mc env h4).bind fun u h5 => lift (g y u h5) h5 else .ok (.bl false) h4) = (lift (asB zz) hh).bind fun k h4 => if k = true then (mc env h4).bind fun u h5 => lift (g y u h5) h5 else .ok (.bl false) h4 from rfl, e2] at p
      have ez := asB_some e2
      subst ez
      refine z rho hh H2 x y vx vy _ _ R qx qy e1 fun v3 H3 S3 R3 q3 => ⟨k, q3, ?_⟩
      have p := p.start S3
      have E3 := E.step R S3
      have qy3 := Den.step R S3 _ _ qy
      cases k with
      | true =>
        refine tE2_of (d1 := y) (v1 := vy) (f := fun env y u h5 => lift (g y u h5) h5) ⟨rho, env, hh, R3, E3, qy3, p⟩ fun rho env hh H4 u vu R E qy qu p => ?_
        obtain ⟨dd, e4, p⟩ := lift_post p
        exact z' rho hh H4 y u vy vu dd Q R qy qu e4 fun w H' S' R' q' => p rho H' w S' R' q'
      | false => exact PostE.val (a := D.bl false) (b := V.bl false) (Rl := Den G) p R3 rfl
theorem de_chain {op op' : CmpOp} {r r' : R2} {f g : Op2} (ho : OpR X (compareOp op) r) (ho' : OpR X (compareOp op') r') (z : Rz2 (Cx.gm X) r f) (z' : Rz2 (Cx.gm X) r' g) (ha : DE X a ma) (hb : DE X b mb) (hc : DE X c mc)
    (hm : lastMarks [op, op'] [b, c] = false := by with_unfolding_all rfl) : DE X (.Compare a [op, op'] [b, c] pos) (eChain f g ma mb mc) :=
  ⟨fun W tk => pe_weak (pe_chain ho ho' (ha.run W tk) (hb.run W tk) (hc.run W tk) hm) fun σ H Q q => tChain_of z z' q⟩
end

def cutG {α : Type} (xs : List α) (lo hi : Option Int) : List α := (xs.drop (HT.sIx xs.length 0 lo)).take (HT.sIx xs.length xs.length hi - HT.sIx xs.length 0 lo)
section
variable {G : Gm} {rho : Rm} {H : Hp}
theorem Dens.take : ∀ {ds : List D} {vs : List V} (n : Nat), Dens G rho H ds vs → Dens G rho H (ds.take n) (vs.take n)
  | [], vs, n, h => by rw [Dens] at h; subst h; simp [Dens]
  | d :: ds, vs, 0, h => by simp [Dens]
  | d :: ds, vs, n + 1, h => by
    rw [Dens] at h
    obtain ⟨v, r, rfl, a, b⟩ := h
    exact ⟨v, r.take n, rfl, a, Dens.take n b⟩
theorem Dens.drop : ∀ {ds : List D} {vs : List V} (n : Nat), Dens G rho H ds vs → Dens G rho H (ds.drop n) (vs.drop n)
  | [], vs, n, h => by rw [Dens] at h; subst h; simp [Dens]
  | d :: ds, vs, 0, h => h
  | d :: ds, vs, n + 1, h => by
    rw [Dens] at h
    obtain ⟨v, r, rfl, a, b⟩ := h
    exact Dens.drop n b
theorem Dens.cut {ds : List D} {vs : List V} (lo hi : Option Int) (h : Dens G rho H ds vs) : Dens G rho H (cutG ds lo hi) (cutV vs lo hi) := by
  unfold cutG cutV
  rw [h.length]
  exact (h.drop _).take _
end
def sliceO (d : D) (lo hi : Option Int) (h : Hh) : Option D := match d with
  | .tup ds => some (.tup (cutG ds lo hi))
  | .str x => if x.length ≤ sizeLine then some (.str (cutS x lo hi)) else none
  | d => (seqL d h).map fun ds => .lst (cutG ds lo hi)
def rSlF (K : PySem.W.Frag) : V → Option Int → Option Int → Hp → VK → Prop := fun x lo hi H Q => ∃ a xs, x = .ref a ∧ SqT K H a xs ∧
  (HT.sIx xs.length 0 lo = 0 ∧ HT.sIx xs.length xs.length hi = xs.length → Q (.ref a) H) ∧ (¬ (HT.sIx xs.length 0 lo = 0 ∧ HT.sIx xs.length xs.length hi = xs.length) → NewT H (cutV xs lo hi) Q)
theorem sl_tupF {X : Cx} : SlR X (rSlF X.K) := by
  intro pins s σ H x v vl vu lo hi sl Q I rx hs pl pu h
  obtain ⟨a, xs, rfl, hx, q1, q2⟩ := h
  by_cases hw : HT.sIx xs.length 0 lo = 0 ∧ HT.sIx xs.length xs.length hi = xs.length
  · exact sl_tupA pins s σ H _ v vl vu lo hi sl Q I rx hs pl pu ⟨a, xs, rfl, hx, q1, fun z => absurd hw z⟩
  · cases rx
    obtain ⟨its, r, ht, hz⟩ := I.tuple hx
    have hlen : its.toArray.size = xs.length := by rw [List.size_toArray]; exact r.length.symm
    refine ⟨"tuple", _, PyProof.Rows.slot_tuple_getitem.lookup, ht.typeIs, ?_⟩
    refine HT.getItem_tuple_cut ht hs pl pu (by rw [hlen]; exact hw) ?_ (by rw [hlen]; exact hz)
    rw [hlen]
    exact inv_newT I ((r.drop (HT.sIx xs.length 0 lo)).take (HT.sIx xs.length xs.length hi - HT.sIx xs.length 0 lo)) (Nat.le_trans (cutV_length xs lo hi) hz) (q2 hw)
def rSlAny (K : PySem.W.Frag) : V → Option Int → Option Int → Hp → VK → Prop := fun x lo hi H Q => rSlF K x lo hi H Q ∨ (rSlL K x lo hi H Q ∨ rSlS x lo hi H Q)
theorem sl_any {X : Cx} : SlR X (rSlAny X.K) := sl_tupF.or (sl_list.or sl_str)
theorem cutV_len (vs : List V) (lo hi : Option Int) : (cutV vs lo hi).length ≤ vs.length := cutV_length vs lo hi
theorem sl_of {G : Gm} {rho : Rm} {hh : Hh} {H : Hp} {d e : D} {v : V} {lo hi : Option Int} {Q : VK} (R : Rep G rho hh H) (q : Den G rho H d v) (h : sliceO d lo hi hh = some e)
    (k : ∀ w H', Step rho H rho H' → Rep G rho hh H' → Den G rho H' e w → Q w H') : rSlAny G.K v lo hi H Q := by
  unfold sliceO at h
  split at h
  · rename_i ds
    cases h
    have q0 := q
    rw [Den] at q
    obtain ⟨a, vs, rfl, hs, l, z⟩ := q
    refine .inl ⟨a, vs, rfl, hs.t, fun hw => ?_, fun hw p o hp ho => ?_⟩
    · have ec : cutG ds lo hi = ds := by
        unfold cutG
        rw [z.length, hw.1, hw.2, List.drop_zero, Nat.sub_zero, ← z.length, List.take_length]
      rw [ec] at k
      exact k _ H .refl R q0
    · exact k _ _ (.laid hp) (R.laid hp) (Den.tup_new ho R (z.cut lo hi) (Nat.le_trans (cutV_len vs lo hi) l) hp)
  · rename_i x
    split at h
    · rename_i hl
      cases h
      exact .inr (.inr ⟨x, q, hl, k _ H .refl R rfl⟩)
    · cases h
  · obtain ⟨ds, e1, rfl⟩ := Option.map_eq_some_iff.mp h
    obtain ⟨a, vs, rfl, hs, l, z⟩ := seqL_of R q e1
    exact .inr (.inl ⟨a, vs, rfl, SqL.of hs, fun p hp => k _ _ (.laid hp) (R.laid hp) (den_lst_new R (z.cut lo hi) (Nat.le_trans (cutV_len vs lo hi) l) hp)⟩)
abbrev MO := DEnv → Hh → Res (Option Int)
def TDo (G : Gm) (W : WX) (m : MO) : TO := fun σ H Q => ∃ rho env hh, Rep G rho hh H ∧ EnvD G rho H env σ ∧ PostE G (fun _ _ a b => a = b) (wAt W σ) rho H (m env hh) Q
structure DO (X : Cx) (e : Option Expr) (m : MO) : Prop where
  run : ∀ W, Takes X W → PO X e (TDo (Cx.gm X) W m)
def oNone : MO := fun _ h => .ok none h
def asI (d : D) : Option Int := match d with | .int i => some i | _ => none
def oSome (m : ME) : MO := fun env h => (m env h).bind fun d h1 => lift ((asI d).map some) h1
theorem po_weak {X : Cx} {e : Option Expr} {t t' : TO} (h : PO X e t) (i : ∀ σ H Q, t' σ H Q → t σ H Q) : PO X e t' := ⟨fun pins s σ H Q I q => h.run pins s σ H Q I (i σ H Q q)⟩
section
variable {X : Cx} {e : Expr} {m : ME} {pos p2 : Pos}
theorem do_none : DO X none oNone := ⟨fun W _ => po_weak po_none fun σ H Q ⟨rho, env, hh, R, E, p⟩ => p.val R rfl⟩
theorem do_some (h : DE X e m) : DO X (some e) (oSome m) := ⟨fun W tk => po_weak (po_some (h.run W tk)) fun σ H Q q => by
  refine tE_of (Rl := fun _ _ a b => a = b) q fun rho env hh H1 d v R E qd p => ?_
  obtain ⟨a, e, p⟩ := lift_post p
  obtain ⟨i, e1, rfl⟩ := Option.map_eq_some_iff.mp e
  cases d with
  | int j => cases e1; exact ⟨_, qd, p.val R rfl⟩
  | non => cases e1
  | bl b => cases e1
  | str b => cases e1
  | tup b => cases e1
  | wtp b => cases e1
  | lst b => cases e1
  | ref b => cases e1
  | glb b => cases e1
  | scr b => cases e1
  | dct b c => cases e1⟩
def eSlice (m : ME) (lo hi : MO) : ME := fun env h => (m env h).bind fun d h1 => (lo env h1).bind fun l h2 => (hi env h2).bind fun u h3 => lift (sliceO d l u h3) h3
theorem tO_of {G : Gm} {W : WX} {mo : MO} {f : DEnv → D → Option Int → Hh → Res D} {σ : L2.St} {H : Hp} {Q : VK} {v1 : V} {d1 : D} {k : Option Int → Hp → Prop}
    (h : ∃ rho env hh, Rep G rho hh H ∧ EnvD G rho H env σ ∧ Den G rho H d1 v1 ∧ PostE G (Den G) (wAt W σ) rho H ((mo env hh).bind (f env d1)) Q)
    (hk : ∀ rho env hh H1 o, Rep G rho hh H1 → EnvD G rho H1 env σ → Den G rho H1 d1 v1 → PostE G (Den G) (wAt W σ) rho H1 (f env d1 o hh) Q → k o H1) : TDo G W mo σ H k := by
  obtain ⟨rho, env, hh, R, E, q1, p⟩ := h
  refine ⟨rho, env, hh, R, E, ?_⟩
  cases e : mo env hh with
  | ok d hh1 =>
    rw [e, bind_ok] at p
    exact fun rho1 H1 v S R1 q => by
      subst q
      exact hk rho1 env hh1 H1 d R1 (E.step R S) (Den.step R S _ _ q1) (p.start S)
  | err x hh1 => rw [e, bind_err] at p; exact p
  | stuck => rw [e, bind_stuck] at p; exact p
theorem de_slice {lo hi : Option Expr} {ml mh : MO} (h : DE X e m) (hl : DO X lo ml) (hu : DO X hi mh) : DE X (.Subscript e (.Slice lo hi none p2) pos) (eSlice m ml mh) :=
  ⟨fun W tk => pe_weak (pe_slice sl_any (h.run W tk) (hl.run W tk) (hu.run W tk)) fun σ H Q q => by
    refine tE_of (f := fun env d h1 => (ml env h1).bind fun l h2 => (mh env h2).bind fun u h3 => lift (sliceO d l u h3) h3) q fun rho env hh H1 d v R E qd p => ?_
    refine tO_of (d1 := d) (f := fun env d l h2 => (mh env h2).bind fun u h3 => lift (sliceO d l u h3) h3) ⟨rho, env, hh, R, E, qd, p⟩ fun rho env hh H2 l R E qd p => ?_
    refine tO_of (d1 := d) (f := fun env d u h3 => lift (sliceO d l u h3) h3) ⟨rho, env, hh, R, E, qd, p⟩ fun rho env hh H3 u R E qd p => ?_
    obtain ⟨a, e, p⟩ := lift_post p
    exact sl_of R qd e fun w H' S' R' q' => p rho H' w S' R' q'⟩
end

def lenO : OpN := fun ds h => match ds with
  | [.str x] => if x.length ≤ sizeLine then some (.int x.length) else none
  | [.ref i] => match h[i]? with
    | some (.lst xs) => some (.int xs.length)
    | some (.dK kvs) => some (.int kvs.length)
    | _ => none
  | [.tup xs] => some (.int xs.length)
  | [.lst xs] => some (.int xs.length)
  | [.scr ns] => some (.int ns.length)
  | _ => none
def rLenA (X : Cx) : List V → Hp → VK → Prop := fun xs H Q => (∃ p ys, xs = [.ref p] ∧ (SqL X.K H p ys ∨ SqT X.K H p ys) ∧ Q (.int ys.length) H) ∨ ((∃ z, xs = [.str z] ∧ z.length ≤ sizeLine ∧ Q (.int z.length) H) ∨ (∃ a kvs, xs = [V.ref a] ∧ H a = some (.dK kvs) ∧ Q (.int kvs.length) H))
theorem call_lenA {X : Cx} : CallR X (.builtin "len") (rLenA X) := call_len_seq.or (call_len_str.or call_lenD)
theorem dens_one {G : Gm} {rho : Rm} {H : Hp} {d : D} {vs : List V} (q : Dens G rho H [d] vs) : ∃ v, vs = [v] ∧ Den G rho H d v := by
  simp only [Dens] at q
  obtain ⟨v, r, rfl, h, rfl⟩ := q
  exact ⟨v, rfl, h⟩
theorem dens_two {G : Gm} {rho : Rm} {H : Hp} {d e : D} {vs : List V} (q : Dens G rho H [d, e] vs) : ∃ v w, vs = [v, w] ∧ Den G rho H d v ∧ Den G rho H e w := by
  simp only [Dens] at q
  obtain ⟨v, r, rfl, h, w, r2, rfl, h2, rfl⟩ := q
  exact ⟨v, w, rfl, h, h2⟩
theorem rz_len {X : Cx} : RzN (Cx.gm X) (rLenA X) lenO := fun rho hh H ds vs d Q R q e k => by
  unfold lenO at e
  split at e
  · rename_i x
    split at e
    · rename_i hl
      cases e
      obtain ⟨v, rfl, h⟩ := dens_one q
      exact .inr (.inl ⟨x, by rw [show v = .str x from h], hl, k _ H .refl R rfl⟩)
    · cases e
  · rename_i i
    obtain ⟨v, rfl, h⟩ := dens_one q
    rw [Den] at h
    obtain ⟨a, e1, rfl⟩ := h
    split at e
    · rename_i xs e2
      cases e
      obtain ⟨ws, e3, l, z⟩ := R.ob i a _ e1 e2
      rw [z.length] at k
      exact .inl ⟨a, ws, rfl, .inl (SqL.of e3), k _ H .refl R rfl⟩
    · rename_i kvs e2
      cases e
      obtain ⟨fvs, e3, l, z⟩ := R.ob i a _ e1 e2
      rw [Paired.length z] at k
      exact .inr (.inr ⟨a, fvs, rfl, e3, k _ H .refl R rfl⟩)
    · cases e
  · rename_i xs
    cases e
    obtain ⟨v, rfl, h⟩ := dens_one q
    rw [Den] at h
    obtain ⟨a, ws, rfl, h1, l, z⟩ := h
    rw [z.length] at k
    exact .inl ⟨a, ws, rfl, .inr h1.t, k _ H .refl R rfl⟩
  · rename_i xs
    cases e
    obtain ⟨v, rfl, h⟩ := dens_one q
    rw [Den] at h
    obtain ⟨a, ws, rfl, h1, _, _, l, z⟩ := h
    rw [z.length] at k
    exact .inl ⟨a, ws, rfl, .inl (SqL.of h1), k _ H .refl R rfl⟩
  · rename_i ns
    cases e
    obtain ⟨v, rfl, h⟩ := dens_one q
    rw [Den] at h
    obtain ⟨a, rfl, hs, l⟩ := h
    refine .inl ⟨a, ns.map V.int, rfl, .inl ?_, by rw [List.length_map]; exact k _ H .refl R rfl⟩
    rcases hs with ⟨o, hs⟩ | hs
    · exact .inl (.inr ⟨o, hs⟩)
    · exact .inr hs
  · cases e

def tyName (d : D) (h : Hh) : Option String := match d with
  | .non => some "NoneType"
  | .bl _ => some "bool"
  | .int _ => some "int"
  | .str _ => some "str"
  | .tup _ => some "tuple"
  | .wtp _ => none
  | .lst _ => some "list"
  | .scr _ => some "list"
  | .ref i => match h[i]? with
    | some (.lst _) => some "list"
    | some (.dK _) => some "dict"
    | some (.dN _) => some "dict"
    | _ => none
  | .glb _ => none
  | .dct _ _ => some "dict"
def isiO : OpN := fun ds h => match ds with
  | [d, .glb (.ty T)] => (tyName d h).bind fun t => (kitB t T).map D.bl
  | _ => none
def rIsiA (K : PySem.W.Frag) : List V → Hp → VK → Prop := fun xs H Q => rIsi K xs H Q ∨ ∃ (a : Addr) (es : DEs) (c : V) (u : Value) (b : Bool), xs = [.ref a, c] ∧ ClsV c u ∧ H a = some (.ext (dictRaw a es)) ∧ PySem.W.kitOne K (.type "dict") u = some b ∧ Q (.bl b) H
theorem call_isiA {X : Cx} : CallR X (.builtin "isinstance") (rIsiA X.K) := by
  intro pins s σ H xs us Q I r h
  rcases h with h | h
  · exact call_isi pins s σ H xs us Q I r h
  · obtain ⟨a, es, c, u, b, rfl, k, ha, e, q⟩ := h
    obtain ⟨u1, u2, rfl, r1, r2⟩ := vals2 r
    have e2 := k.eq r2
    subst e2
    cases (show u1 = Value.ref a from r1)
    obtain ⟨⟨o, h1, h2, h3⟩, _, _⟩ := I.hok a _ ha
    exact PySem.W.kia_one PySem.W.kitx_dict I.kIn ⟨o, h1, h2.1⟩ e (fun z => nomatch z) fun tk => ⟨.bl b, H, I.tok tk, rfl, q⟩
theorem rz_isi {X : Cx} : RzN (Cx.gm X) (rIsiA X.K) isiO := fun rho hh H ds vs d Q R q e k => by
  unfold isiO at e
  split at e
  · rename_i x T
    obtain ⟨t, e1, e⟩ := Option.bind_eq_some_iff.mp e
    obtain ⟨b, e2, rfl⟩ := Option.map_eq_some_iff.mp e
    obtain ⟨v, w, rfl, h, hw⟩ := dens_two q
    rw [show w = .ty T from hw]
    have fin : Q (.bl b) H := k _ H .refl R rfl
    have via : TyX X.K H v (.type t) → rIsiA X.K [v, .ty T] H Q := fun ty => .inl ⟨v, .ty T, .type t, .type T, b, rfl, .ty T, ty, kit_ty e2, fin⟩
    clear e
    unfold tyName at e1
    split at e1
    · cases e1; rw [show v = .non from h] at via ⊢; exact via (.base .non)
    · rename_i y; cases e1; rw [show v = .bl y from h] at via ⊢; exact via (.base (.bl y))
    · rename_i y; cases e1; rw [show v = .int y from h] at via ⊢; exact via (.base (.int y))
    · rename_i y; cases e1; rw [show v = .str y from h] at via ⊢; exact via (.base (.str y))
    · cases e1
      rw [Den] at h
      obtain ⟨a, ws, rfl, h1, l, z⟩ := h
      rcases h1.t with (h1 | ⟨o, h1⟩) | ⟨o, its, n, h1, h2, _⟩
      · exact via (.base (.tup h1))
      · exact via (.fTuple h1)
      · exact via (.kTuple h1 h2)
    · cases e1
    · cases e1
      rw [Den] at h
      obtain ⟨a, ws, rfl, h1, _, _, l, z⟩ := h
      exact via (.base (.lst h1))
    · cases e1
      rw [Den] at h
      obtain ⟨a, rfl, hs, l⟩ := h
      rcases hs with ⟨o, hs⟩ | ⟨o, its, n, h1, h2, _⟩
      · exact via (.base (.frz hs))
      · exact via (.kList h1 h2)
    · rw [Den] at h
      obtain ⟨a, e3, rfl⟩ := h
      split at e1
      · rename_i e4
        cases e1
        obtain ⟨ws, e5, _⟩ := R.ob _ a _ e3 e4
        exact via (.base (.lst e5))
      · rename_i e4
        cases e1
        obtain ⟨ws, e5, _⟩ := R.ob _ a _ e3 e4
        exact via (.base (.dK e5))
      · rename_i e4
        cases e1
        obtain ⟨ws, _, _, es, e5, _⟩ := R.ob _ a _ e3 e4
        exact .inr ⟨a, es, .ty T, .type T, b, rfl, .ty T, e5, kit_ty e2, fin⟩
      · cases e1
    · cases e1
    · cases e1
      rw [Den] at h
      obtain ⟨a, xs, es, us, rfl, e5, _⟩ := h
      exact .inr ⟨a, es, .ty T, .type T, b, rfl, .ty T, e5, kit_ty e2, fin⟩
  · cases e

section
variable {G : Gm} {rho : Rm} {H : Hp} {hh : Hh}
def max2O : OpN := fun ds _ => match ds with
  | [.int i, .int j] => some (.int (if j > i then j else i))
  | _ => none
def min2O : OpN := fun ds _ => match ds with
  | [.int i, .int j] => some (.int (if j < i then j else i))
  | _ => none
theorem rz_max2 : RzN G (fun xs H Q => ∃ i j, xs = [.int i, .int j] ∧ Q (.int (if j > i then j else i)) H) max2O := fun rho hh H ds vs d Q R q e k => by
  unfold max2O at e
  split at e
  · rename_i i j
    cases e
    obtain ⟨v, w, rfl, h, hw⟩ := dens_two q
    exact ⟨i, j, by rw [show v = .int i from h, show w = .int j from hw], k _ H .refl R rfl⟩
  · cases e
theorem rz_min2 : RzN G (fun xs H Q => ∃ i j, xs = [.int i, .int j] ∧ Q (.int (if j < i then j else i)) H) min2O := fun rho hh H ds vs d Q R q e k => by
  unfold min2O at e
  split at e
  · rename_i i j
    cases e
    obtain ⟨v, w, rfl, h, hw⟩ := dens_two q
    exact ⟨i, j, by rw [show v = .int i from h, show w = .int j from hw], k _ H .refl R rfl⟩
  · cases e
end
end MR

namespace MR
open PySem PySem.Spec PyProof.Rows L2

abbrev OpM := D → List D → Hh → Option (D × Hh)
structure RzM (G : Gm) (T : String) (r : V → List V → Hp → VK → Prop) (ok : D → Hh → Bool) (f : OpM) : Prop where
  ty : ∀ rho hh H d v, Rep G rho hh H → Den G rho H d v → ok d hh = true → tyV G.K T v H
  run : ∀ rho hh H d ds v vs d' hh' (Q : VK), Rep G rho hh H → Den G rho H d v → Dens G rho H ds vs → f d ds hh = some (d', hh') →
    (∀ w rho' H', Step rho H rho' H' → Rep G rho' hh' H' → Den G rho' H' d' w → Q w H') → r v vs H Q
section
variable {X : Cx} {o e : Expr} {es : List Expr} {m : ME} {ms : MA} {name : Str} {apos cpos : Pos} {T id : String} {r : V → List V → Hp → VK → Prop} {ok : D → Hh → Bool} {f : OpM}
end

section
variable {G : Gm} {rho : Rm} {H : Hp} {hh : Hh}
end
theorem Dens.dropLast {G : Gm} {rho : Rm} {H : Hp} {ds : List D} {vs : List V} (h : Dens G rho H ds vs) : Dens G rho H ds.dropLast vs.dropLast := by
  rw [List.dropLast_eq_take, List.dropLast_eq_take, h.length]; exact h.take _
abbrev OpS := D → D → D → Hh → Option Hh
def RzS (G : Gm) (t : TSet) (f : OpS) : Prop := ∀ rho hh H o i d vo vi v hh' (Q : Hp → Prop), Rep G rho hh H → Den G rho H o vo → Den G rho H i vi → Den G rho H d v → f o i d hh = some hh' →
  (∀ H', Step rho H rho H' → Rep G rho hh' H' → Q H') → t vo vi v H Q
def gSubD (mo mi : ME) (f : OpS) : MG := fun d env h => match mo env h with
  | .ok o h1 => match mi env h1 with
    | .ok i h2 => (f o i d h2).map fun h3 => (env, h3)
    | _ => none
  | _ => none
section
variable {X : Cx} {o i : Expr} {mo mi : ME} {t : TSet} {f : OpS} {pos : Pos}
theorem dg_sub (ho : DE X.nox o mo) (hi : DE X.nox i mi) (hs : PSet X t) (z : RzS (Cx.gm X) t f)
    (ha : ∀ v, assign (.Subscript o i pos) X.env v = (do
      let ov ← holding [v] (eval o X.env)
      let iv ← holding [v, ov] (eval i X.env)
      standAt pos
      holding [v, ov, iv] (setItem ov iv v)
      release [v, ov, iv] []) := by intro _; rfl) : DG X (.Subscript o i pos) (gSubD mo mi f) :=
  ⟨pg_weak (pg_sub (PE.nox (ho.run WF takes0)) (PE.nox (hi.run WF takes0)) hs ha) fun v σ H Q ⟨rho, env, hh, d, R, E, q, p⟩ => by
    unfold gSubD at p
    refine ⟨rho, env, hh, R, E, ?_⟩
    show PostE (Cx.gm X) (Den (Cx.gm X)) _ rho H (mo env hh) _
    cases e1 : mo env hh with
    | stuck => rw [e1] at p; exact p.elim
    | err x h1 => rw [e1] at p; exact p.elim
    | ok od h1 =>
      rw [e1] at p
      intro rho1 H1 ov S1 R1 q1
      refine ⟨rho1, env, h1, R1, E.step R S1, ?_⟩
      show PostE (Cx.gm X) (Den (Cx.gm X)) _ rho1 H1 (mi env h1) _
      simp only at p
      cases e2 : mi env h1 with
      | stuck => rw [e2] at p; exact p.elim
      | err x h1 => rw [e2] at p; exact p.elim
      | ok id h2 =>
        rw [e2] at p
        intro rho2 H2 iv S2 R2 q2
        simp only at p
        cases e3 : f od id d h2 with
        | none => rw [e3] at p; exact p.elim
        | some hh' =>
          rw [e3] at p
          have S12 := S1.trans S2
          exact z rho2 h2 H2 od id d ov iv v hh' _ R2 (Den.step R1 S2 _ _ q1) q2 (Den.step R S12 _ _ q) e3 fun H' S' R' => p rho2 H' σ (S12.trans S') R' (E.step R (S12.trans S'))⟩
end
def setO : OpS := fun o i d h => match o with
  | .ref j => match h[j]? with
    | some (.lst xs) => match i with
      | .int k => (ixN xs.length k).map fun n => h.set j (.lst (xs.set n d))
      | _ => none
    | _ => none
  | _ => none
theorem Dens.set {G : Gm} {rho : Rm} {H : Hp} {d : D} {v : V} (q : Den G rho H d v) : ∀ {ds : List D} {vs : List V} (n : Nat), Dens G rho H ds vs → Dens G rho H (ds.set n d) (vs.set n v)
  | [], vs, n, h => by rw [Dens] at h; subst h; simp [Dens]
  | x :: ds, vs, 0, h => by
    rw [Dens] at h
    obtain ⟨w, r, rfl, a, b⟩ := h
    exact ⟨v, r, rfl, q, b⟩
  | x :: ds, vs, n + 1, h => by
    rw [Dens] at h
    obtain ⟨w, r, rfl, a, b⟩ := h
    exact ⟨w, r.set n v, rfl, a, Dens.set q n b⟩
theorem rz_set {G : Gm} : RzS G rSetL setO := fun rho hh H o i d vo vi v hh' Q R qo qi qd e k => by
  unfold setO at e
  split at e
  · rename_i j
    split at e
    · rename_i xs ex
      split at e
      · rename_i n
        obtain ⟨m, e1, rfl⟩ := Option.map_eq_some_iff.mp e
        rw [Den] at qo
        obtain ⟨a, e2, rfl⟩ := qo
        obtain ⟨ws, e3, l, z⟩ := R.ob j a _ e2 ex
        have S : Step rho H rho (upd H a (.lst (ws.set m v))) := .put (List.mem_of_getElem? e2)
        refine ⟨a, ws, n, m, rfl, qi, e3, by rw [← z.length]; exact e1, k _ S (R.put e2 ⟨_, upd_same, by simpa using l, Dens.step R S _ _ (z.set qd m)⟩)⟩
      · cases e
    · cases e
  · cases e

end MR

namespace MR
open PySem PySem.Spec PyProof.Rows L2

section
variable {G : Gm} {rho : Rm} {H : Hp} {hh : Hh}
theorem putH {p : Addr} {o o2 : HO} (hp : H p = some o) (mu : Mut (some o)) (hr : p ∈ rho.res) : (∀ a vs, SqT G.K H a vs → SqT G.K (upd H p o2) a vs) ∧ (∀ a o, H a = some o → a ∉ rho.at_ → a ∉ rho.res → (upd H p o2) a = some o) ∧ (∀ a o u, H a = some (.frz o u) → (upd H p o2) a = some (.frz o u)) := by
  have nt : ∀ a u, H a = some u → ¬ Mut (some u) → a ≠ p := fun a u e n z => by
    subst z
    rw [hp] at e; cases e
    exact n mu
  refine ⟨fun a vs h => ?_, fun a vs h n n2 => ?_, fun a o u h => ?_⟩
  · rcases h with (h | ⟨o, h⟩) | h
    · exact .inl (.inl (by rw [upd_ne (nt _ _ h fun z => z)]; exact h))
    · exact .inl (.inr ⟨o, by rw [upd_ne (nt _ _ h fun z => z)]; exact h⟩)
    · exact .inr h
  · rw [upd_ne fun e => n2 (by rw [e]; exact hr)]; exact h
  · rw [upd_ne (nt _ _ h fun z => z)]; exact h
theorem Rep.putH (R : Rep G rho hh H) {p : Addr} {o o2 : HO} (hp : H p = some o) (mu : Mut (some o)) (hr : p ∈ rho.res) (ha : p ∉ rho.at_) : Rep G rho hh (upd H p o2) := by
  obtain ⟨ht, hl, hf⟩ := MR.putH (G := G) (o2 := o2) hp mu hr
  refine ⟨R.nd, fun a m => ?_, R.len, fun i a ob e1 e2 => ?_⟩
  · by_cases e : a = p
    · subst e; exact ⟨_, upd_same⟩
    · obtain ⟨o, q⟩ := R.hd a m
      exact ⟨o, by rw [upd_ne e]; exact q⟩
  · have ne : a ≠ p := fun e => ha (by rw [← e]; exact List.mem_of_getElem? e1)
    have x := R.ob i a ob e1 e2
    cases ob with
    | lst ds => obtain ⟨vs, e, l, q⟩ := x; exact ⟨vs, by rw [upd_ne ne]; exact e, l, dens_same ht hl hf ds vs q⟩
    | dK kvs => obtain ⟨vs, e, l, q⟩ := x; exact ⟨vs, by rw [upd_ne ne]; exact e, l, Paired.mapP q fun p q r => ⟨r.1, den_same ht hl hf _ _ r.2⟩⟩
    | dN kvs =>
      obtain ⟨xs, l0, l1, es, e, q, r⟩ := x
      exact ⟨xs, l0, l1, es, by rw [upd_ne ne]; exact e, Paired.mapP q fun p q r => ⟨r.1, den_same ht hl hf _ _ r.2.1, let ⟨v, a, b⟩ := r.2.2; ⟨v, a, den_same ht hl hf _ _ b⟩⟩, r⟩
    | ins C fs =>
      obtain ⟨c, dx, fvs, g, e, o', q⟩ := x
      have nd : dx ≠ p := fun z => by
        subst z
        rw [hp] at o'; cases o'; exact mu
      exact ⟨c, dx, fvs, g, by rw [upd_ne ne]; exact e, by rw [upd_ne nd]; exact o', Paired.mapP q fun p q r => ⟨r.1, den_same ht hl hf _ _ r.2⟩⟩
    | exc x => obtain ⟨c, d, q, e⟩ := x; exact ⟨c, d, q.put (.inr hr), by rw [upd_ne ne]; exact e⟩
theorem new_held (R : Rep G rho hh H) {p : Addr} {o : HO} (hp : H p = none) : Step rho H (rho.hold p) (upd H p o) ∧ Rep G (rho.hold p) hh (upd H p o) ∧ p ∉ rho.at_ := by
  refine ⟨.laidR hp, ?_, fun hm => ?_⟩
  · exact ⟨R.nd, fun a m => by
      rcases List.mem_cons.mp m with e | m
      · rw [e]; exact ⟨_, upd_same⟩
      · obtain ⟨o', e⟩ := R.hd a m
        exact ⟨o', by rw [upd_ne (ne_of_none e hp)]; exact e⟩, R.len, fun i a o' e1 e2 => (R.ob i a o' e1 e2).step R (.laidR hp) (fun u q => by rw [upd_ne (ne_of_none q hp)]; exact q) fun dx q => by rw [upd_ne (ne_of_none q hp)]; exact q⟩
  · obtain ⟨u, e, _⟩ := R.mut hm
    rw [hp] at e; cases e
end

section
variable {κ : Type} [DecidableEq κ] {α : Type}
def getG (kvs : List (κ × α)) (k : κ) : Option α := (kvs.find? fun kv => decide (kv.1 = k)).map (·.2)
def putG (kvs : List (κ × α)) (k : κ) (v : α) : List (κ × α) :=
  if (kvs.any fun kv => decide (kv.1 = k)) = true then kvs.map (fun kv => if kv.1 = k then (kv.1, v) else kv) else kvs ++ [(k, v)]
def dropG (kvs : List (κ × α)) (k : κ) : List (κ × α) := kvs.filter fun kv => decide (kv.1 ≠ k)
def mergeG (kvs more : List (κ × α)) : List (κ × α) := more.foldl (fun acc kv => putG acc kv.1 kv.2) kvs
end
def keyD (d : D) : Option Key := match d with
  | .int i => some (.inl i)
  | .str x => some (.inr x)
  | _ => none
abbrev KD (G : Gm) (rho : Rm) (H : Hp) : List (Key × D) → List (Key × V) → Prop := Paired fun (p : Key × D) (q : Key × V) => p.1 = q.1 ∧ Den G rho H p.2 q.2
section
variable {G : Gm} {rho rho' : Rm} {H H' : Hp} {hh : Hh}
theorem KD.step (R : Rep G rho hh H) (S : Step rho H rho' H') {a : List (Key × D)} {b : List (Key × V)} (h : KD G rho H a b) : KD G rho' H' a b := Paired.mapP h fun p q r => ⟨r.1, Den.step R S _ _ r.2⟩
theorem KD.get {a : List (Key × D)} {b : List (Key × V)} (h : KD G rho H a b) {k : Key} {d : D} (e : getG a k = some d) : ∃ v, valV b k = some v ∧ Den G rho H d v := by
  induction h with
  | nil => cases e
  | @cons p q ps qs r t ih =>
    unfold getG at e
    rw [List.find?_cons] at e
    by_cases hk : p.1 = k
    · simp only [hk, decide_true, Option.map_some, Option.some.injEq] at e
      subst e
      exact ⟨q.2, valV_pos (r.1.symm.trans hk), r.2⟩
    · simp only [hk, decide_false] at e
      obtain ⟨v, e1, e2⟩ := ih e
      exact ⟨v, by rw [valV_neg (fun z => hk (r.1.trans z))]; exact e1, e2⟩
theorem KD.any {a : List (Key × D)} {b : List (Key × V)} (h : KD G rho H a b) (k : Key) : (a.any fun kv => decide (kv.1 = k)) = (b.any fun kv => decide (kv.1 = k)) := by
  induction h with
  | nil => rfl
  | @cons p q ps qs r t ih => simp only [List.any_cons, ih, r.1]
theorem KD.none {a : List (Key × D)} {b : List (Key × V)} (h : KD G rho H a b) {k : Key} (e : getG a k = none) : valV b k = none := by
  induction h with
  | nil => rfl
  | @cons p q ps qs r t ih =>
    unfold getG at e
    rw [List.find?_cons] at e
    by_cases hk : p.1 = k
    · simp [hk] at e
    · simp only [hk, decide_false] at e
      rw [valV_neg (fun z => hk (r.1.trans z))]
      exact ih e
theorem KD.append {a a2 : List (Key × D)} {b b2 : List (Key × V)} (h : KD G rho H a b) (h2 : KD G rho H a2 b2) : KD G rho H (a ++ a2) (b ++ b2) := by
  induction h with
  | nil => exact h2
  | cons r t ih => exact .cons r ih
theorem KD.put {a : List (Key × D)} {b : List (Key × V)} (h : KD G rho H a b) (k : Key) {d : D} {v : V} (q : Den G rho H d v) : KD G rho H (putG a k d) (putK b k v) := by
  unfold putG putK
  rw [← h.any k]
  split
  · rename_i hany
    clear hany
    induction h with
    | nil => exact .nil
    | @cons p q' ps qs r t ih =>
      rw [List.map_cons, List.map_cons]
      refine .cons ?_ ih
      by_cases hk : p.1 = k
      · rw [if_pos hk, if_pos (r.1.symm.trans hk)]
        exact ⟨r.1, q⟩
      · rw [if_neg hk, if_neg (fun z => hk (r.1.trans z))]
        exact r
  · exact h.append (.cons ⟨rfl, q⟩ .nil)
theorem KD.drop {a : List (Key × D)} {b : List (Key × V)} (h : KD G rho H a b) (k : Key) : KD G rho H (dropG a k) (dropK b k) := by
  unfold dropG dropK
  induction h with
  | nil => exact .nil
  | @cons p q ps qs r t ih =>
    rw [List.filter_cons, List.filter_cons, ← r.1]
    split
    · exact .cons r ih
    · exact ih
theorem KD.merge {more : List (Key × D)} {rs : List (Key × V)} (h : KD G rho H more rs) : ∀ {a : List (Key × D)} {b : List (Key × V)}, KD G rho H a b → KD G rho H (mergeG a more) (mergeK b rs) := by
  unfold mergeG mergeK
  induction h with
  | nil => intro a b q; exact q
  | @cons p q ps qs r t ih =>
    intro a b z
    rw [List.foldl_cons, List.foldl_cons, ← r.1]
    exact ih (z.put p.1 r.2)
theorem keyD_of {d : D} {k : Key} {v : V} (h : keyD d = some k) (q : Den G rho H d v) : v = kV k := by
  cases d with
  | int i => cases h; exact q
  | str x => cases h; exact q
  | non => cases h
  | bl b => cases h
  | tup b => cases h
  | wtp b => cases h
  | lst b => cases h
  | ref b => cases h
  | glb b => cases h
  | scr b => cases h
  | dct a b => cases h
end
def aPairs : List (ME × ME) → DEnv → Hh → Res (List (D × D))
  | [], _, h => .ok [] h
  | (a, b) :: r, env, h => (a env h).bind fun x h1 => (b env h1).bind fun y h2 => (aPairs r env h2).bind fun ps h3 => .ok ((x, y) :: ps) h3
def keyDs : List (D × D) → Option (List (Key × D))
  | [] => some []
  | (a, b) :: r => match keyD a, keyDs r with
    | some k, some ks => some ((k, b) :: ks)
    | _, _ => none
def eDisp (prs : List (ME × ME)) : ME := fun env h => (aPairs prs env h).bind fun ps h1 => match keyDs ps with
  | some kvs => if kvs.length ≤ 15 then .ok (.ref h1.length) (h1 ++ [.dK (mergeG [] kvs)]) else .stuck
  | none => .stuck
abbrev PD (G : Gm) (rho : Rm) (H : Hp) : List (D × D) → List (V × V) → Prop := Paired fun p q => Den G rho H p.1 q.1 ∧ Den G rho H p.2 q.2
section
variable {G : Gm} {W : WX} {σ : L2.St} {env : DEnv}
theorem pairs_of : ∀ (prs : List (ME × ME)) (rho : Rm) (hh : Hh) (H : Hp) (k : List (V × V) → Hp → Prop), Rep G rho hh H → EnvD G rho H env σ → PostE G (PD G) (wAt W σ) rho H (aPairs prs env hh) k →
    tPairs (prs.map fun p => (TD G W p.1, TD G W p.2)) σ H k
  | [], rho, hh, H, k, R, E, p => p rho H [] .refl R .nil
  | (a, b) :: r, rho, hh, H, k, R, E, p => by
    refine ⟨rho, env, hh, R, E, ?_⟩
    have p : PostE G (PD G) (wAt W σ) rho H ((a env hh).bind fun x h1 => (b env h1).bind fun y h2 => (aPairs r env h2).bind fun ps h3 => .ok ((x, y) :: ps) h3) k := p
    show PostE G (Den G) (wAt W σ) rho H (a env hh) _
    cases e1 : a env hh with
    | stuck => rw [e1] at p; exact p
    | err x h1 => rw [e1] at p; exact p
    | ok x h1 =>
      rw [e1, bind_ok] at p
      intro rho1 H1 vx S1 R1 q1
      refine ⟨rho1, env, h1, R1, E.step R S1, ?_⟩
      have p := p.start S1
      show PostE G (Den G) (wAt W σ) rho1 H1 (b env h1) _
      cases e2 : b env h1 with
      | stuck => rw [e2] at p; exact p
      | err x h1 => rw [e2] at p; exact p
      | ok y h2 =>
        rw [e2, bind_ok] at p
        intro rho2 H2 vy S2 R2 q2
        have p := p.start S2
        refine pairs_of r rho2 h2 H2 _ R2 ((E.step R S1).step R1 S2) ?_
        cases e3 : aPairs r env h2 with
        | stuck => rw [e3] at p; exact p
        | err x h1 => rw [e3] at p; exact p
        | ok ps h3 =>
          rw [e3, bind_ok] at p
          intro rho3 H3 vps S3 R3 q3
          exact p rho3 H3 ((vx, vy) :: vps) S3 R3 (.cons ⟨Den.step R2 S3 _ _ (Den.step R1 S2 _ _ q1), Den.step R2 S3 _ _ q2⟩ q3)
theorem keyDs_of {rho : Rm} {H : Hp} : ∀ {ps : List (D × D)} {kvs : List (Key × D)} {vps : List (V × V)}, PD G rho H ps vps → keyDs ps = some kvs → ∃ ws : List (Key × V), vps = ws.map (fun kv => (kV kv.1, kv.2)) ∧ KD G rho H kvs ws
  | [], kvs, vps, h, e => by
    cases h; cases e
    exact ⟨[], rfl, .nil⟩
  | (a, b) :: r, kvs, vps, h, e => by
    cases h with
    | @cons p q ps qs h1 h2 =>
      rw [keyDs] at e
      split at e
      · rename_i k ks e1 e2
        cases e
        obtain ⟨ws, rfl, z⟩ := keyDs_of h2 e2
        obtain ⟨q1, q2⟩ := q
        have eq : q1 = kV k := keyD_of e1 h1.1
        subst eq
        exact ⟨(k, q2) :: ws, rfl, .cons ⟨rfl, h1.2⟩ z⟩
      · cases e
end
structure DPs (X : Cx) (pos : Pos) (keys : List (Option Expr)) (values : List Expr) (prs : List (ME × ME)) : Prop where
  run : ∀ W, Takes X W → PPs X pos keys values (prs.map fun p => (TD (Cx.gm X) W p.1, TD (Cx.gm X) W p.2))
section
variable {X : Cx} {pos : Pos} {keys : List (Option Expr)} {values : List Expr} {prs : List (ME × ME)} {k v : Expr} {mk mv : ME}
theorem dps_nil : DPs X pos [] [] [] := ⟨fun W _ => pps_nil⟩
theorem dps_cons (hk : DE X k mk) (hv : DE X v mv) (hr : DPs X pos keys values prs) : DPs X pos (some k :: keys) (v :: values) ((mk, mv) :: prs) := ⟨fun W tk => pps_cons (hk.run W tk) (hv.run W tk) (hr.run W tk)⟩
theorem de_disp (h : DPs X pos keys values prs) (hall : keys.all (·.isSome) = true := by rfl) (hl : keys.length = values.length := by rfl) (h0 : keys ≠ [] := by intro z; cases z) (h15 : keys.length ≤ 15 := by decide) : DE X (.Dict keys values pos) (eDisp prs) :=
  ⟨fun W tk => pe_weak (pe_disp (h.run W tk) hall hl h0 h15) fun σ H Q ⟨rho, env, hh, R, E, p⟩ pp hp => by
    obtain ⟨S0, R0, na⟩ := new_held (o := .dK []) R hp
    refine pairs_of prs (rho.hold pp) hh _ _ R0 (E.step R S0) ?_
    unfold eDisp at p
    cases e1 : aPairs prs env hh with
    | stuck => rw [e1] at p; exact p
    | err x h1 => rw [e1] at p; exact p.start S0
    | ok ps h1 =>
      rw [e1, bind_ok] at p
      intro rho1 H1 vps S1 R1 q1
      have hk : H1 pp = some (.dK []) := S1.keep pp _ upd_same na
      have hr : pp ∈ rho1.res := S1.kept pp List.mem_cons_self
      have ha : pp ∉ rho1.at_ := S1.out upd_same na
      refine ⟨hk, ?_⟩
      cases e2 : keyDs ps with
      | none => rw [e2] at p; exact p.elim
      | some kvs =>
        rw [e2] at p
        simp only at p
        split at p
        · rename_i hz
          obtain ⟨ws, rfl, z⟩ := keyDs_of q1 e2
          have hlen := Paired.length z
          refine ⟨ws, rfl, by omega, ?_⟩
          have S2 : Step rho H rho1 (upd H1 pp (.dK (mergeK [] ws))) := (S0.trans S1).since hp
          have R2 := R1.putH (o2 := .dK (mergeK [] ws)) hk True.intro hr ha
          obtain ⟨ht, hl, hf⟩ := putH (G := Cx.gm X) (o2 := .dK (mergeK [] ws)) hk True.intro hr
          have z2 : KD (Cx.gm X) rho1 (upd H1 pp (.dK (mergeK [] ws))) kvs ws := Paired.mapP z fun p q r => ⟨r.1, den_same ht hl hf _ _ r.2⟩
          have hm : (mergeK [] ws).length ≤ sizeLine := by
            have a := length_mergeK ws []
            rw [List.length_nil] at a
            rw [sizeLine_eq]; omega
          refine p _ _ _ (S2.turn hp) (R2.turn hr ha ⟨_, upd_same, hm, z2.merge .nil⟩) ?_
          rw [Den]
          exact ⟨pp, by rw [← R2.len]; show (rho1.at_ ++ [pp])[_]? = _; rw [List.getElem?_append_right (Nat.le_refl _)]; simp, rfl⟩
        · exact p.elim⟩
end

def ixDO : Op2 := fun a b h => match a with
  | .ref i => match h[i]? with
    | some (.dK kvs) => match keyD b with
      | some k => getG kvs k
      | none => none
    | _ => none
  | _ => none
def rIxD : R2 := fun x y H Q => ∃ a kvs k v, x = .ref a ∧ H a = some (.dK kvs) ∧ y = kV k ∧ valV kvs k = some v ∧ Q v H
theorem ix_dict {X : Cx} (hu : X.A.units + 1 < cLine) : IxR X rIxD := by
  intro value slice pins s σ H x y v u Q I rx ry h hs
  obtain ⟨a, kvs, k, z, rfl, ha, rfl, hv, q⟩ := h
  cases rx
  have g : DGet H a (kV k) (some z) := by rw [← hv]; exact .k ha
  exact tail_any (dict_typeIs I g) PySem.F.slot_dict_getitem.lookup (d_getItem hu I g ry fun w' s' I' r' => ⟨z, H, I', r', q⟩) hs
theorem rz_ixD {G : Gm} : Rz2 G rIxD ixDO := fun rho hh H d1 d2 v1 v2 d Q R q1 q2 e k => by
  unfold ixDO at e
  split at e
  · rename_i i
    split at e
    · rename_i kvs e1
      split at e
      · rename_i key e2
        rw [Den] at q1
        obtain ⟨a, e3, rfl⟩ := q1
        obtain ⟨fvs, e4, l, z⟩ := R.ob i a _ e3 e1
        obtain ⟨v, e5, qv⟩ := KD.get z e
        exact ⟨a, fvs, key, v, rfl, e4, keyD_of e2 q2, e5, k _ H .refl R qv⟩
      · cases e
    · cases e
  · cases e
def ixA : Op2 := fun a b h => match ixO a b h with
  | some d => some d
  | none => ixDO a b h
theorem rz_ixA {G : Gm} : Rz2 G (fun x y H Q => rIx G.K x y H Q ∨ rIxD x y H Q) ixA := fun rho hh H d1 d2 v1 v2 d Q R q1 q2 e k => by
  unfold ixA at e
  split at e
  · rename_i d' e1
    cases e
    exact .inl (rz_ix rho hh H d1 d2 v1 v2 d Q R q1 q2 e1 k)
  · exact .inr (rz_ixD rho hh H d1 d2 v1 v2 d Q R q1 q2 e k)
theorem de_ixA {X : Cx} {a b : Expr} {ma mb : ME} {pos : Pos} (hu : X.A.units + 1 < cLine) (ha : DE X a ma) (hb : DE X b mb) (hs : PlainIx b := by intro _ _; rfl) : DE X (.Subscript a b pos) (eOp2 ixA ma mb) := de_ix (ix_seq.or (ix_dict hu)) rz_ixA ha hb hs
end MR

namespace MR
open PySem PySem.Spec PyProof.Rows L2

theorem hu65 {k : Nat} {A : Around} (r : Room k A) : A.units + 65 < cLine := by have := r.un; omega

section
variable {P : Program} {w : World} {K : PySem.W.Frag} {mg : Str → Option Value} {base : Heap}
noncomputable def dropF (F : MF) : MF := fun ds h => match F ds h with
  | .ok d h' => open Classical in if bel h.length d = true ∧ h.length ≤ h'.length ∧ ∀ (i : Nat) o, i < h.length → h'[i]? = some o → h[i]? = some o ∨ O.bel h.length o then .ok d (h'.take h.length) else .stuck
  | .err x h' => .err x h'
  | .stuck => .stuck
theorem dropF_of {F : MF} {ds : List D} {h h' : Hh} {d : D} (e : F ds h = .ok d h') (b : bel h.length d = true) (hl : h.length ≤ h'.length) (ho : ∀ (i : Nat) o, i < h.length → h'[i]? = some o → h[i]? = some o ∨ O.bel h.length o) :
    dropF F ds h = .ok d (h'.take h.length) := by
  unfold dropF
  rw [e]
  exact if_pos ⟨b, hl, ho⟩
theorem FnD.drop {k : Nat} {f : Addr} {fd : FuncData} {ps : List Str} {F : MF} (h : FnD P w K mg base k f fd ps F) : FnD P w K mg base k f fd ps (dropF F) :=
  FnOk.imp h fun vs H Q E ⟨hl, rho, hh, ds, R, q, p⟩ => ⟨hl, rho, hh, ds, R, q, by
    unfold dropF at p
    cases e : F ds hh with
    | ok d hh' =>
      rw [e] at p
      simp only at p
      split at p
      · rename_i hc
        obtain ⟨hb, hle, ho⟩ := hc
        intro rho' H' v S R' q'
        obtain ⟨ex, ee, hex⟩ := S.ext
        have b' : bel rho.at_.length d = true := by rw [R.len]; exact hb
        have h2 : ∀ a, a ∉ rho'.at_ → a ∉ rho'.res → a ∉ rho.res := fun a _ n m => n (S.kept a m)
        refine p rho H' v S.drop ⟨R.nd, fun a m => let ⟨o', e⟩ := R.hd a m; S.there a o' e, by rw [List.length_take, R.len]; omega, fun i a o e1 e2 => ?_⟩ (Den.res ⟨ex, ee⟩ h2 d v q' b')
        have hi : i < hh.length := by rw [← R.len]; exact (List.getElem?_eq_some_iff.mp e1).1
        have e3 : hh'[i]? = some o := by
          rw [List.getElem?_take] at e2
          simpa [hi] using e2
        refine (R'.ob i a o (S.get e1) e3).res ⟨ex, ee⟩ h2 ?_
        rcases ho i o hi e3 with z | z
        · exact (R.ob i a o e1 z).bel
        · rw [R.len]; exact z
      · exact p.elim
    | err x hh' => rw [e] at p; exact p
    | stuck => rw [e] at p; exact p⟩
end

structure Fd (K : PySem.W.Frag) (mg : Str → Option Value) (x : Str) (st : Stmt) (ps : List Str) where
  f : Addr
  fd : FuncData
  F : Fun K x x st f fd
  g : mg x = some (.ref f)
  b : Binds K fd ps []
  r : ∀ (s : Shared) (us : List Value), us.length = ps.length → BindsTo s fd ⟨us, []⟩ (ps.zip us)
def mkFd {K : PySem.W.Frag} {h : Heap} {mg : Str → Option Value} (X : K.In h) (G : h.Ns mainGlobals mg) {x : Str} {st : Stmt} {ps : List Str} {f : Addr} {oc : Value} {od an : Option Addr} {osl : Array (Option Value)} {kV doc pm cdv ct : Value}
    (a : PySem.W.nsIn K mainGlobals x = some (some (.ref f))) (l : K.lookup f = some ⟨oc, od, .func (PySem.W.fnOf x x (defArgs st) (defBody st) (defScope st) .none kV doc pm an cdv ct), osl⟩) (c : PySem.W.codeIn K cdv x = true) (k : PySem.W.keepIn K (.ref f) = true)
    (hb : ∀ (kV doc pm : Value) (an : Option Addr) (cdv ct : Value) (us : List Value), us.length = ps.length → bindArgs (PySem.W.fnOf x x (defArgs st) (defBody st) (defScope st) .none kV doc pm an cdv ct) ⟨us, []⟩ = pure (ps.zip us)) : Fd K mg x st ps :=
  ⟨f, _, fun_mk l c k, PySem.W.mg_of X G a, (fun_mk l c k).binds hb, fun s us hl => .of_eq (hb _ _ _ _ _ _ us hl)⟩
structure FdA (K : PySem.W.Frag) (mg : Str → Option Value) (y x : Str) (st : Stmt) (ps : List Str) where
  f : Addr
  fd : FuncData
  F : Fun K x x st f fd
  g : mg y = some (.ref f)
  b : Binds K fd ps []
  r : ∀ (s : Shared) (us : List Value), us.length = ps.length → BindsTo s fd ⟨us, []⟩ (ps.zip us)
structure Cn (P : Program) (w : World) (K : PySem.W.Frag) (mg : Str → Option Value) (x : Str) (d : D) where
  v : V
  u : Value
  g : mg x = some u
  r : RelV v u
  q : ∀ rho H, Den ⟨P, w, K⟩ rho H d v
def mkInt {P : Program} {w : World} {K : PySem.W.Frag} {h : Heap} {mg : Str → Option Value} (X : K.In h) (G : h.Ns mainGlobals mg) {x : Str} {i : Int} {t : Tok} (a : PySem.W.nsIn K mainGlobals x = some (some (.int i t))) : Cn P w K mg x (.int i) :=
  ⟨.int i, .int i t, PySem.W.mg_of X G a, ⟨t, rfl⟩, fun _ _ => rfl⟩
theorem strs_dens {G : Gm} {rho : Rm} {H : Hp} : ∀ (xs : List Str), Dens G rho H (xs.map D.str) (xs.map V.str)
  | [] => rfl
  | x :: xs => ⟨.str x, xs.map V.str, rfl, rfl, strs_dens xs⟩
theorem strs_vals : ∀ (xs : List (Str × Tok)), Vals (xs.map fun p => V.str p.1) (xs.map fun p => Value.str p.1 p.2)
  | [] => .nil
  | x :: xs => .cons ⟨x.2, rfl⟩ (strs_vals xs)
def mkTupS {P : Program} {w : World} {K : PySem.W.Frag} {h : Heap} {mg : Str → Option Value} (X : K.In h) (G : h.Ns mainGlobals mg) {x : Str} {xs : List Str} {us : List Value} {f : Addr} {n : Nat} {sl : Array (Option Value)}
    (a : PySem.W.nsIn K mainGlobals x = some (some (.ref f))) (l : K.lookup f = some ⟨.type "tuple", none, .seq us.toArray n, sl⟩) (r : Vals (xs.map V.str) us) (hz : us.length ≤ sizeLine) : Cn P w K mg x (.tup (xs.map D.str)) :=
  ⟨.ref f, .ref f, PySem.W.mg_of X G a, rfl, fun rho H => by
    rw [Den]
    exact ⟨f, xs.map V.str, rfl, .inr ⟨_, us.toArray, n, l, rfl, rfl, rfl, by simpa using hz, by simpa using r⟩, by rw [r.length]; exact hz, strs_dens xs⟩⟩
theorem de_cn {X : Cx} {x : Str} {d : D} {pos : Pos} (hg : Gl X x) (c : Cn X.prog X.w X.K X.mg x d) (hd : (x == ("__debug__" : Str)) = false := by decide) : DE X (.Name x pos) (eC d) := de_glbD hg c.g c.r c.q hd

theorem sp_law {P : Program} {w : World} {K : PySem.W.Frag} {F : MF} {n : Nat} (hn : n ≤ sizeLine) (h : ∀ ns : List Int, ns.length ≤ n → ∃ h', F [.scr ns] [] = .ok (.bl true) h') (H : Hp) (a : Addr) (ns : List Int) (hl : ns.length ≤ n) (hO : Only H) (hS : SqL K H a (ns.map V.int)) :
    spD ⟨P, w, K⟩ 1 F [.ref a] H (fun v _ => v = .bl true) fun _ _ _ => False := by
  obtain ⟨h', e⟩ := h ns hl
  refine ⟨rfl, ⟨[], []⟩, [], [.scr ns], ⟨List.nodup_nil, (fun a h => absurd h (by simp)), rfl, (fun i a o e => by simp at e)⟩, ⟨.ref a, [], rfl, ?_, rfl⟩, ?_⟩
  · rw [Den]
    refine ⟨a, rfl, ?_, Nat.le_trans hl hn⟩
    rcases hS with (hS | hS) | hS
    · rcases hO a with z | ⟨o, xs, z⟩
      · rw [hS] at z; cases z
      · rw [hS] at z; cases z
    · exact .inl hS
    · exact .inr hS
  · rw [e]
    intro rho' H' v S R q
    exact q
theorem cx_law {P : Program} {w : World} {H : Hp} {s : Shared} {e : Value} {s' : Shared} (h : L2.CX P w [] H s (fun _ _ _ => False) e s') : False := by
  obtain ⟨_, _, _, _, _, _, _, _, _, _, _, _, z⟩ := h
  exact z
end MR

namespace MR
open PySem PySem.Spec PyProof.Rows L2

section
variable {X : Cx}
theorem de_tyN {x : Str} {T : String} {pos : Pos} (hg : Gl X x) (hm : X.mg x = none) (hv : bootBuiltins x = some (.type T)) (hn : x ≠ "__name__" := by decide) (hd : (x == ("__debug__" : Str)) = false := by decide) : DE X (.Name x pos) (eC (.glb (.ty T))) :=
  de_bltn hg hm hv rfl hn hd
end

def seqA (d : D) (h : Hh) : Option (List D) := match d with
  | .tup xs => some xs
  | .scr ns => some (ns.map D.int)
  | d => seqL d h
theorem seqA_of {G : Gm} {rho : Rm} {hh : Hh} {H : Hp} {d : D} {v : V} {ds : List D} (R : Rep G rho hh H) (q : Den G rho H d v) (e : seqA d hh = some ds) :
    ∃ a vs, v = .ref a ∧ (SqL G.K H a vs ∨ SqT G.K H a vs) ∧ vs.length ≤ sizeLine ∧ Dens G rho H ds vs := by
  unfold seqA at e
  split at e
  · rename_i xs
    cases e
    rw [Den] at q
    obtain ⟨a, ws, rfl, h1, l, z⟩ := q
    exact ⟨a, ws, rfl, .inr h1.t, by rw [← z.length]; have := z.length; omega, z⟩
  · rename_i ns
    cases e
    rw [Den] at q
    obtain ⟨a, rfl, hs, l⟩ := q
    refine ⟨a, ns.map V.int, rfl, .inl ?_, by simpa using l, dens_ints ns⟩
    rcases hs with ⟨o, hs⟩ | hs
    · exact .inl (.inr ⟨o, hs⟩)
    · exact .inr hs
  · obtain ⟨a, vs, rfl, h1, l, z⟩ := seqL_of R q e
    exact ⟨a, vs, rfl, .inl (SqL.of h1), l, z⟩
def aSeq (m : ME) : MA := fun env h => (m env h).bind fun d h1 => lift (seqA d h1) h1
section
variable {X : Cx} {e : Expr} {m : ME} {pos p : Pos} {x : Str}
theorem dl_list1 (hg : Gl X x) (hm : X.mg x = none) (hv : bootBuiltins x = some (.type "list")) (ha : DE X e m)
    (hn : x ≠ "__name__" := by decide) (hdb : (x == ("__debug__" : Str)) = false := by decide) (he : starEach [e] X.env = (false, eval e X.env) :: starEach [] X.env := by rfl) (hpl : (backTo pos (starEach [] X.env)).any (·.1) = false := by rfl) :
    DL X (.Call (.Name x p) [e] [] pos) (aSeq m) :=
  ⟨fun W tk => pe_weak (pe_callTy call_list_of hg hm hv ((da_cons ha da_nil he).run W tk) hn hdb he hpl) fun σ H Q hq => by
    obtain ⟨rho, env, hh, R, E, p⟩ := hq
    refine ⟨rho, env, hh, R, E, ?_⟩
    unfold aSeq at p
    unfold aCons aNil
    cases e1 : m env hh with
    | stuck => rw [e1] at p; exact p
    | err z h1 => rw [e1] at p; exact p
    | ok d h1 =>
      rw [e1, bind_ok] at p
      rw [bind_ok, bind_ok]
      intro rho1 H1 vs S1 R1 q1
      obtain ⟨v, rfl, qv⟩ := dens_one q1
      cases e2 : seqA d h1 with
      | none => rw [e2] at p; exact p.elim
      | some ds =>
        rw [e2] at p
        obtain ⟨a, ws, rfl, hs, l, z⟩ := seqA_of R1 qv e2
        refine ⟨a, ws, rfl, hs, fun pp hp => ?_⟩
        obtain ⟨a, b, c, d⟩ := new_list S1 R1 z hp
        exact p _ _ pp ws a b upd_same List.mem_cons_self c (S1.back hp) l d⟩
end

end MR

namespace MR
open PySem PySem.Spec PyProof.Rows L2

section
variable {α β : Type}
@[simp] theorem ev_bind_ok (a : α) (h : Hh) (f : α → Hh → Res β) : (Res.ok a h).bind f = f a h := rfl
@[simp] theorem ev_bind_err (x : Exn) (h : Hh) (f : α → Hh → Res β) : (Res.err x h).bind f = .err x h := rfl
@[simp] theorem ev_bind_stuck (f : α → Hh → Res β) : (Res.stuck : Res α).bind f = .stuck := rfl
@[simp] theorem ev_lift_some (a : α) (h : Hh) : lift (some a) h = .ok a h := rfl
@[simp] theorem ev_lift_none (h : Hh) : lift (none : Option α) h = .stuck := rfl
@[simp] theorem ev_st_ok (a : α) (h : Hh) (env : DEnv) (f : α → Hh → RS) : (Res.ok a h).st env f = f a h := rfl
@[simp] theorem ev_st_err (x : Exn) (h : Hh) (env : DEnv) (f : α → Hh → RS) : (Res.err x h).st env f = .er x env h := rfl
@[simp] theorem ev_seq_nx (env : DEnv) (h : Hh) (f : DEnv → Hh → RS) : (RS.nx env h).seq f = f env h := rfl
@[simp] theorem ev_seq_rt (d : D) (h : Hh) (f : DEnv → Hh → RS) : (RS.rt d h).seq f = .rt d h := rfl
@[simp] theorem ev_seq_bk (env : DEnv) (h : Hh) (f : DEnv → Hh → RS) : (RS.bk env h).seq f = .bk env h := rfl
@[simp] theorem ev_seq_ct (env : DEnv) (h : Hh) (f : DEnv → Hh → RS) : (RS.ct env h).seq f = .ct env h := rfl
@[simp] theorem ev_seq_er (x : Exn) (env : DEnv) (h : Hh) (f : DEnv → Hh → RS) : (RS.er x env h).seq f = .er x env h := rfl
@[simp] theorem ev_lb_nx (env : DEnv) (h : Hh) (f : DEnv → Hh → RS) : loopBack (.nx env h) f = f env h := rfl
@[simp] theorem ev_lb_ct (env : DEnv) (h : Hh) (f : DEnv → Hh → RS) : loopBack (.ct env h) f = f env h := rfl
@[simp] theorem ev_lb_bk (env : DEnv) (h : Hh) (f : DEnv → Hh → RS) : loopBack (.bk env h) f = .nx env h := rfl
@[simp] theorem ev_lb_rt (d : D) (h : Hh) (f : DEnv → Hh → RS) : loopBack (.rt d h) f = .rt d h := rfl
@[simp] theorem ev_RSof (env : DEnv) (h : Hh) : RSof (some (env, h)) = .nx env h := rfl
@[simp] theorem ev_noErr (a : α) (h : Hh) : noErr (.ok a h) = .ok a h := rfl
end

def slotR (o : Option (Option D)) (h : Hh) : Res D := match o with
  | some (some d) => .ok d h
  | _ => .stuck
@[simp] theorem ev_slotR (d : D) (h : Hh) : slotR (some (some d)) h = .ok d h := rfl
@[simp] theorem ev_slot (i : Nat) (env : DEnv) (h : Hh) : eSlot i env h = slotR env[i]? h := rfl
@[simp] theorem ev_c (d : D) (env : DEnv) (h : Hh) : eC d env h = .ok d h := rfl
def k_op2 (f : Op2) (b : ME) (env : DEnv) : D → Hh → Res D := fun x h1 => (b env h1).bind fun y h2 => lift (f x y h2) h2
def k_op2' (f : Op2) (x : D) : D → Hh → Res D := fun y h2 => lift (f x y h2) h2
@[simp] theorem ev_op2 (f : Op2) (a b : ME) (env : DEnv) (h : Hh) : eOp2 f a b env h = (a env h).bind (k_op2 f b env) := rfl
@[simp] theorem ev_k_op2 (f : Op2) (b : ME) (env : DEnv) (x : D) (h : Hh) : k_op2 f b env x h = (b env h).bind (k_op2' f x) := rfl
@[simp] theorem ev_k_op2' (f : Op2) (x y : D) (h : Hh) : k_op2' f x y h = lift (f x y h) h := rfl
def k_opN (f : OpN) : List D → Hh → Res D := fun xs h1 => lift (f xs h1) h1
@[simp] theorem ev_opN (f : OpN) (as : MA) (env : DEnv) (h : Hh) : eOpN f as env h = (as env h).bind (k_opN f) := rfl
@[simp] theorem ev_k_opN (f : OpN) (xs : List D) (h : Hh) : k_opN f xs h = lift (f xs h) h := rfl
@[simp] theorem ev_nil (env : DEnv) (h : Hh) : aNil env h = .ok [] h := rfl
def k_cons (as : MA) (env : DEnv) : D → Hh → Res (List D) := fun x h1 => (as env h1).bind fun xs h2 => .ok (x :: xs) h2
def k_cons' (x : D) : List D → Hh → Res (List D) := fun xs h2 => .ok (x :: xs) h2
@[simp] theorem ev_cons (a : ME) (as : MA) (env : DEnv) (h : Hh) : aCons a as env h = (a env h).bind (k_cons as env) := rfl
@[simp] theorem ev_k_cons (as : MA) (env : DEnv) (x : D) (h : Hh) : k_cons as env x h = (as env h).bind (k_cons' x) := rfl
@[simp] theorem ev_k_cons' (x : D) (xs : List D) (h : Hh) : k_cons' x xs h = .ok (x :: xs) h := rfl
def k_tup : List D → Hh → Res D := fun xs h1 => .ok (.tup xs) h1
@[simp] theorem ev_tup (ms : MA) (env : DEnv) (h : Hh) : eTup ms env h = (ms env h).bind k_tup := rfl
@[simp] theorem ev_k_tup (xs : List D) (h : Hh) : k_tup xs h = .ok (.tup xs) h := rfl
def k_frz : List D → Hh → Res D := fun xs h1 => .ok (.lst xs) h1
@[simp] theorem ev_frz (ms : MA) (env : DEnv) (h : Hh) : eFrz ms env h = (ms env h).bind k_frz := rfl
@[simp] theorem ev_k_frz (xs : List D) (h : Hh) : k_frz xs h = .ok (.lst xs) h := rfl
def k_new : List D → Hh → Res D := fun xs h1 => .ok (.ref h1.length) (h1 ++ [.lst xs])
@[simp] theorem ev_new (ms : MA) (env : DEnv) (h : Hh) : eNew ms env h = (ms env h).bind k_new := rfl
@[simp] theorem ev_k_new (xs : List D) (h : Hh) : k_new xs h = .ok (.ref h.length) (h ++ [.lst xs]) := rfl
def k_seqM : D → Hh → Res (List D) := fun d h1 => lift (seqA d h1) h1
@[simp] theorem ev_seqM (m : ME) (env : DEnv) (h : Hh) : aSeq m env h = (m env h).bind k_seqM := rfl
@[simp] theorem ev_k_seqM (d : D) (h : Hh) : k_seqM d h = lift (seqA d h) h := rfl
@[simp] theorem ev_seqAT (xs : List D) (h : Hh) : seqA (.tup xs) h = some xs := rfl
@[simp] theorem ev_seqAL (xs : List D) (h : Hh) : seqA (.lst xs) h = some xs := rfl
def k_tE : D → Hh → Res Bool := fun d h1 => lift (asB d) h1
@[simp] theorem ev_tE (m : ME) (env : DEnv) (h : Hh) : tE m env h = (m env h).bind k_tE := rfl
@[simp] theorem ev_k_tE (d : D) (h : Hh) : k_tE d h = lift (asB d) h := rfl
@[simp] theorem ev_asB (b : Bool) : asB (.bl b) = some b := rfl
def k_tAnd (b : MT) (env : DEnv) : Bool → Hh → Res Bool := fun k h1 => if k = true then b env h1 else .ok false h1
@[simp] theorem ev_tAnd (a b : MT) (env : DEnv) (h : Hh) : tAnd a b env h = (a env h).bind (k_tAnd b env) := rfl
@[simp] theorem ev_k_tAnd1 (b : MT) (env : DEnv) (h : Hh) : k_tAnd b env true h = b env h := rfl
@[simp] theorem ev_k_tAnd0 (b : MT) (env : DEnv) (h : Hh) : k_tAnd b env false h = .ok false h := rfl
def k_tOr (b : MT) (env : DEnv) : Bool → Hh → Res Bool := fun k h1 => if k = true then .ok true h1 else b env h1
@[simp] theorem ev_tOr (a b : MT) (env : DEnv) (h : Hh) : tOr a b env h = (a env h).bind (k_tOr b env) := rfl
@[simp] theorem ev_k_tOr1 (b : MT) (env : DEnv) (h : Hh) : k_tOr b env true h = .ok true h := rfl
@[simp] theorem ev_k_tOr0 (b : MT) (env : DEnv) (h : Hh) : k_tOr b env false h = b env h := rfl
def k_tNot : Bool → Hh → Res Bool := fun k h1 => .ok (!k) h1
@[simp] theorem ev_tNot (a : MT) (env : DEnv) (h : Hh) : tNot a env h = (a env h).bind k_tNot := rfl
@[simp] theorem ev_k_tNot (k : Bool) (h : Hh) : k_tNot k h = .ok (!k) h := rfl
def k_eAnd (b : ME) (env : DEnv) : D → Hh → Res D := fun d h1 => (lift (asB d) h1).bind fun k h2 => if k = true then b env h2 else .ok (.bl false) h2
@[simp] theorem ev_eAnd (a b : ME) (env : DEnv) (h : Hh) : eAnd a b env h = (a env h).bind (k_eAnd b env) := rfl
@[simp] theorem ev_k_eAnd1 (b : ME) (env : DEnv) (h : Hh) : k_eAnd b env (.bl true) h = b env h := rfl
@[simp] theorem ev_k_eAnd0 (b : ME) (env : DEnv) (h : Hh) : k_eAnd b env (.bl false) h = .ok (.bl false) h := rfl
def k_eOr (b : ME) (env : DEnv) : D → Hh → Res D := fun d h1 => (lift (asB d) h1).bind fun k h2 => if k = true then .ok (.bl true) h2 else b env h2
@[simp] theorem ev_eOr (a b : ME) (env : DEnv) (h : Hh) : eOr a b env h = (a env h).bind (k_eOr b env) := rfl
@[simp] theorem ev_k_eOr1 (b : ME) (env : DEnv) (h : Hh) : k_eOr b env (.bl true) h = .ok (.bl true) h := rfl
@[simp] theorem ev_k_eOr0 (b : ME) (env : DEnv) (h : Hh) : k_eOr b env (.bl false) h = b env h := rfl
def k_eNot : D → Hh → Res D := fun d h1 => (lift (asB d) h1).bind fun k h2 => .ok (.bl (!k)) h2
@[simp] theorem ev_eNot (a : ME) (env : DEnv) (h : Hh) : eNot a env h = (a env h).bind k_eNot := rfl
@[simp] theorem ev_k_eNot (k : Bool) (h : Hh) : k_eNot (.bl k) h = .ok (.bl (!k)) h := rfl
def k_neg : D → Hh → Res D := fun d h1 => lift (match d with | .int i => some (.int (-i)) | _ => none) h1
@[simp] theorem ev_neg (m : ME) (env : DEnv) (h : Hh) : eNeg m env h = (m env h).bind k_neg := rfl
@[simp] theorem ev_k_neg (i : Int) (h : Hh) : k_neg (.int i) h = .ok (.int (-i)) h := rfl
def k_ch1 (f g : Op2) (b c : ME) (env : DEnv) : D → Hh → Res D := fun x h1 => (b env h1).bind fun y h2 => (lift (f x y h2) h2).bind fun z h3 => (lift (asB z) h3).bind fun k h4 => if k = true then (c env h4).bind fun u h5 => lift (g y u h5) h5 else .ok (.bl false) h4
def k_ch2 (f g : Op2) (c : ME) (env : DEnv) (x : D) : D → Hh → Res D := fun y h2 => (lift (f x y h2) h2).bind fun z h3 => (lift (asB z) h3).bind fun k h4 => if k = true then (c env h4).bind fun u h5 => lift (g y u h5) h5 else .ok (.bl false) h4
def k_ch3 (g : Op2) (c : ME) (env : DEnv) (y : D) : D → Hh → Res D := fun z h3 => (lift (asB z) h3).bind fun k h4 => if k = true then (c env h4).bind fun u h5 => lift (g y u h5) h5 else .ok (.bl false) h4
@[simp] theorem ev_chain (f g : Op2) (a b c : ME) (env : DEnv) (h : Hh) : eChain f g a b c env h = (a env h).bind (k_ch1 f g b c env) := rfl
@[simp] theorem ev_k_ch1 (f g : Op2) (b c : ME) (env : DEnv) (x : D) (h : Hh) : k_ch1 f g b c env x h = (b env h).bind (k_ch2 f g c env x) := rfl
@[simp] theorem ev_k_ch2 (f g : Op2) (c : ME) (env : DEnv) (x y : D) (h : Hh) : k_ch2 f g c env x y h = (lift (f x y h) h).bind (k_ch3 g c env y) := rfl
@[simp] theorem ev_k_ch31 (g : Op2) (c : ME) (env : DEnv) (y : D) (h : Hh) : k_ch3 g c env y (.bl true) h = (c env h).bind (k_op2' g y) := rfl
@[simp] theorem ev_k_ch30 (g : Op2) (c : ME) (env : DEnv) (y : D) (h : Hh) : k_ch3 g c env y (.bl false) h = .ok (.bl false) h := rfl
def k_sl1 (lo hi : MO) (env : DEnv) : D → Hh → Res D := fun d h1 => (lo env h1).bind fun l h2 => (hi env h2).bind fun u h3 => lift (sliceO d l u h3) h3
def k_sl2 (hi : MO) (env : DEnv) (d : D) : Option Int → Hh → Res D := fun l h2 => (hi env h2).bind fun u h3 => lift (sliceO d l u h3) h3
def k_sl3 (d : D) (l : Option Int) : Option Int → Hh → Res D := fun u h3 => lift (sliceO d l u h3) h3
@[simp] theorem ev_slice (m : ME) (lo hi : MO) (env : DEnv) (h : Hh) : eSlice m lo hi env h = (m env h).bind (k_sl1 lo hi env) := rfl
@[simp] theorem ev_k_sl1 (lo hi : MO) (env : DEnv) (d : D) (h : Hh) : k_sl1 lo hi env d h = (lo env h).bind (k_sl2 hi env d) := rfl
@[simp] theorem ev_k_sl2 (hi : MO) (env : DEnv) (d : D) (l : Option Int) (h : Hh) : k_sl2 hi env d l h = (hi env h).bind (k_sl3 d l) := rfl
@[simp] theorem ev_k_sl3 (d : D) (l u : Option Int) (h : Hh) : k_sl3 d l u h = lift (sliceO d l u h) h := rfl
@[simp] theorem ev_oNone (env : DEnv) (h : Hh) : oNone env h = .ok none h := rfl
def k_some : D → Hh → Res (Option Int) := fun d h1 => lift ((asI d).map some) h1
@[simp] theorem ev_oSome (m : ME) (env : DEnv) (h : Hh) : oSome m env h = (m env h).bind k_some := rfl
@[simp] theorem ev_k_some (i : Int) (h : Hh) : k_some (.int i) h = .ok (some i) h := rfl
@[simp] theorem ev_asI (i : Int) : asI (.int i) = some i := rfl
def k_call (F : MF) : List D → Hh → Res D := fun ds h1 => F ds h1
@[simp] theorem ev_call (F : MF) (ms : MA) (env : DEnv) (h : Hh) : eCall F ms env h = (ms env h).bind (k_call F) := rfl
@[simp] theorem ev_k_call (F : MF) (ds : List D) (h : Hh) : k_call F ds h = F ds h := rfl
def k_disp : List (D × D) → Hh → Res D := fun ps h1 => match keyDs ps with
  | some kvs => if kvs.length ≤ 15 then .ok (.ref h1.length) (h1 ++ [.dK (mergeG [] kvs)]) else .stuck
  | none => .stuck
def k_disp' (h1 : Hh) : Option (List (Key × D)) → Res D := fun o => match o with
  | some kvs => if kvs.length ≤ 15 then .ok (.ref h1.length) (h1 ++ [.dK (mergeG [] kvs)]) else .stuck
  | none => .stuck
@[simp] theorem ev_disp (prs : List (ME × ME)) (env : DEnv) (h : Hh) : eDisp prs env h = (aPairs prs env h).bind k_disp := rfl
@[simp] theorem ev_k_disp (ps : List (D × D)) (h : Hh) : k_disp ps h = k_disp' h (keyDs ps) := rfl
@[simp] theorem ev_k_disp' (h : Hh) (kvs : List (Key × D)) : k_disp' h (some kvs) = if kvs.length ≤ 15 then .ok (.ref h.length) (h ++ [.dK (mergeG [] kvs)]) else .stuck := rfl
@[simp] theorem ev_keyDs0 : keyDs [] = some [] := rfl
@[simp] theorem ev_keyDsI (i : Int) (b : D) (r : List (D × D)) : keyDs ((.int i, b) :: r) = (keyDs r).map ((.inl i, b) :: ·) := by
  show (match keyD (.int i), keyDs r with | some k, some ks => some ((k, b) :: ks) | _, _ => none) = _
  cases keyDs r <;> rfl
@[simp] theorem ev_keyDsS (i : Str) (b : D) (r : List (D × D)) : keyDs ((.str i, b) :: r) = (keyDs r).map ((.inr i, b) :: ·) := by
  show (match keyD (.str i), keyDs r with | some k, some ks => some ((k, b) :: ks) | _, _ => none) = _
  cases keyDs r <;> rfl
@[simp] theorem ev_prs_nil (env : DEnv) (h : Hh) : aPairs [] env h = .ok [] h := rfl
def k_p1 (v : ME) (r : List (ME × ME)) (env : DEnv) : D → Hh → Res (List (D × D)) := fun x h1 => (v env h1).bind fun y h2 => (aPairs r env h2).bind fun ps h3 => .ok ((x, y) :: ps) h3
def k_p2 (r : List (ME × ME)) (env : DEnv) (x : D) : D → Hh → Res (List (D × D)) := fun y h2 => (aPairs r env h2).bind fun ps h3 => .ok ((x, y) :: ps) h3
def k_p3 (x y : D) : List (D × D) → Hh → Res (List (D × D)) := fun ps h3 => .ok ((x, y) :: ps) h3
@[simp] theorem ev_prs_cons (k v : ME) (r : List (ME × ME)) (env : DEnv) (h : Hh) : aPairs ((k, v) :: r) env h = (k env h).bind (k_p1 v r env) := rfl
@[simp] theorem ev_k_p1 (v : ME) (r : List (ME × ME)) (env : DEnv) (x : D) (h : Hh) : k_p1 v r env x h = (v env h).bind (k_p2 r env x) := rfl
@[simp] theorem ev_k_p2 (r : List (ME × ME)) (env : DEnv) (x y : D) (h : Hh) : k_p2 r env x y h = (aPairs r env h).bind (k_p3 x y) := rfl
@[simp] theorem ev_k_p3 (x y : D) (ps : List (D × D)) (h : Hh) : k_p3 x y ps h = .ok ((x, y) :: ps) h := rfl
@[simp] theorem ev_sSeq (a b : MS) (env : DEnv) (h : Hh) : sSeq a b env h = (a env h).seq b := rfl
@[simp] theorem ev_sNext (env : DEnv) (h : Hh) : sNext env h = .nx env h := rfl
def k_ret : D → Hh → RS := fun d h1 => .rt d h1
@[simp] theorem ev_sRet (m : ME) (env : DEnv) (h : Hh) : sRet m env h = (m env h).st env k_ret := rfl
@[simp] theorem ev_k_ret (d : D) (h : Hh) : k_ret d h = .rt d h := rfl
def k_if (a b : MS) (env : DEnv) : Bool → Hh → RS := fun k h1 => if k = true then a env h1 else b env h1
@[simp] theorem ev_sIf (t : MT) (a b : MS) (env : DEnv) (h : Hh) : sIf t a b env h = (t env h).st env (k_if a b env) := rfl
@[simp] theorem ev_k_if1 (a b : MS) (env : DEnv) (h : Hh) : k_if a b env true h = a env h := rfl
@[simp] theorem ev_k_if0 (a b : MS) (env : DEnv) (h : Hh) : k_if a b env false h = b env h := rfl
def k_asg (g : MG) (env : DEnv) : D → Hh → RS := fun d h1 => RSof (g d env h1)
@[simp] theorem ev_sAsg (m : ME) (g : MG) (env : DEnv) (h : Hh) : sAsg m g env h = (m env h).st env (k_asg g env) := rfl
@[simp] theorem ev_k_asg (g : MG) (env : DEnv) (d : D) (h : Hh) : k_asg g env d h = RSof (g d env h) := rfl
@[simp] theorem ev_gName (i : Nat) (d : D) (env : DEnv) (h : Hh) : gName i d env h = some (env.set i (some d), h) := rfl
@[simp] theorem ev_gTup (n : Nat) (gs : MGs) (ds : List D) (env : DEnv) (h : Hh) : gTup n gs (.tup ds) env h = if ds.length = n then gs ds env h else none := rfl
def k_par (i j : Nat) (env : DEnv) : List D → Hh → RS := fun ds h1 => match ds with
  | [d1, d2] => .nx ((env.set i (some d1)).set j (some d2)) h1
  | _ => .stuck
@[simp] theorem ev_sPar (i j : Nat) (ms : MA) (env : DEnv) (h : Hh) : sPar i j ms env h = (ms env h).st env (k_par i j env) := rfl
@[simp] theorem ev_k_par (i j : Nat) (env : DEnv) (d1 d2 : D) (h : Hh) : k_par i j env [d1, d2] h = .nx ((env.set i (some d1)).set j (some d2)) h := rfl
def k_iA (f : List D → Hh → Option Src) : List D → Hh → Res Src := fun ds h1 => lift (f ds h1) h1
@[simp] theorem ev_iA (f : List D → Hh → Option Src) (ms : MA) (env : DEnv) (h : Hh) : iA f ms env h = (ms env h).bind (k_iA f) := rfl
@[simp] theorem ev_k_iA (f : List D → Hh → Option Src) (ds : List D) (h : Hh) : k_iA f ds h = lift (f ds h) h := rfl
def k_iOf : D → Hh → Res Src := fun d h1 => lift (srcOf d h1) h1
@[simp] theorem ev_iOf (m : ME) (env : DEnv) (h : Hh) : iOf m env h = (m env h).bind k_iOf := rfl
@[simp] theorem ev_k_iOf (d : D) (h : Hh) : k_iOf d h = lift (srcOf d h) h := rfl
noncomputable def k_for (T : Tg) (b : MS) (env : DEnv) : Src → Hh → RS := fun src h1 => forL src.live (bodyT T b) src.items env h1
@[simp] theorem ev_sFor (mi : MI) (T : Tg) (b : MS) (env : DEnv) (h : Hh) : sFor mi T b env h = (mi env h).st env (k_for T b env) := rfl
@[simp] theorem ev_k_for (T : Tg) (b : MS) (env : DEnv) (src : Src) (h : Hh) : k_for T b env src h = forL src.live (bodyT T b) src.items env h := rfl
@[simp] theorem ev_gOk (h : Hh) : gOk none h ↔ True := ⟨fun _ => trivial, fun _ _ _ e => by cases e⟩
@[simp] theorem ev_for_nil (body : D → DEnv → Hh → RS) (env : DEnv) (h : Hh) : forL none body [] env h = .nx env h := by unfold forL; simp
@[simp] theorem ev_for_cons (body : D → DEnv → Hh → RS) (d : D) (ds : List D) (env : DEnv) (h : Hh) : forL none body (d :: ds) env h = loopBack (body d env h) (forL none body ds) := by
  conv => lhs; unfold forL
  rw [if_pos ((ev_gOk h).mpr trivial)]
def k_bd (b : MS) (h : Hh) : Option DEnv → RS := fun o => match o with | some env' => b env' h | none => .stuck
@[simp] theorem ev_bodyT (T : Tg) (b : MS) (d : D) (env : DEnv) (h : Hh) : bodyT T b d env h = k_bd b h (bindT T d env) := rfl
@[simp] theorem ev_k_bd (b : MS) (h : Hh) (env : DEnv) : k_bd b h (some env) = b env h := rfl
@[simp] theorem ev_bindN (i : Nat) (d : D) (env : DEnv) : bindT (.name i) d env = some (env.set i (some d)) := rfl
@[simp] theorem ev_bindT (is : List Nat) (ds : List D) (env : DEnv) : bindT (.tup is) (.tup ds) env = if ds.length = is.length then some (setAll is ds env) else none := rfl
@[simp] theorem ev_bindW (is : List Nat) (ds : List D) (env : DEnv) : bindT (.tup is) (.wtp ds) env = if ds.length = is.length then some (setAll is ds env) else none := rfl
@[simp] theorem ev_setAll0 (env : DEnv) : setAll [] [] env = env := rfl
@[simp] theorem ev_setAll (i : Nat) (is : List Nat) (d : D) (ds : List D) (env : DEnv) : setAll (i :: is) (d :: ds) env = setAll is ds (env.set i (some d)) := rfl
noncomputable def k_comp (T : Tg) (t : MT) (e : ME) (env : DEnv) : Src → Hh → Res (List D) := fun src h1 => noErr (compL src.live T t e env src.items h1)
@[simp] theorem ev_aComp (mi : MI) (T : Tg) (t : MT) (e : ME) (vs : List Nat) (env : DEnv) (h : Hh) : aComp mi T t e vs env h = (mi env h).bind (k_comp T t e (wipeE env vs)) := rfl
@[simp] theorem ev_k_comp (T : Tg) (t : MT) (e : ME) (env : DEnv) (src : Src) (h : Hh) : k_comp T t e env src h = noErr (compL src.live T t e env src.items h) := rfl
@[simp] theorem ev_wipe0 (env : DEnv) : wipeE env [] = env := rfl
@[simp] theorem ev_wipe (env : DEnv) (v : Nat) (vs : List Nat) : wipeE env (v :: vs) = (wipeE env vs).set v none := rfl
@[simp] theorem ev_comp_nil (T : Tg) (t : MT) (e : ME) (env : DEnv) (h : Hh) : compL none T t e env [] h = .ok [] h := by unfold compL; simp
noncomputable def k_c0 (T : Tg) (t : MT) (e : ME) (env : DEnv) (ds : List D) (h : Hh) : Option DEnv → Res (List D) := fun o => match o with
  | some env' => (t env' h).bind fun k h1 => if k = true then (e env' h1).bind fun y h2 => (compL none T t e env ds h2).bind fun ys h3 => .ok (y :: ys) h3 else compL none T t e env ds h1
  | none => .stuck
noncomputable def k_c1 (T : Tg) (t : MT) (e : ME) (env env' : DEnv) (ds : List D) : Bool → Hh → Res (List D) := fun k h1 => if k = true then (e env' h1).bind fun y h2 => (compL none T t e env ds h2).bind fun ys h3 => .ok (y :: ys) h3 else compL none T t e env ds h1
noncomputable def k_c2 (T : Tg) (t : MT) (e : ME) (env : DEnv) (ds : List D) : D → Hh → Res (List D) := fun y h2 => (compL none T t e env ds h2).bind fun ys h3 => .ok (y :: ys) h3
@[simp] theorem ev_comp_cons (T : Tg) (t : MT) (e : ME) (env : DEnv) (d : D) (ds : List D) (h : Hh) : compL none T t e env (d :: ds) h = k_c0 T t e env ds h (bindT T d env) := by
  conv => lhs; unfold compL
  simp
  rfl
@[simp] theorem ev_k_c0 (T : Tg) (t : MT) (e : ME) (env env' : DEnv) (ds : List D) (h : Hh) : k_c0 T t e env ds h (some env') = (t env' h).bind (k_c1 T t e env env' ds) := rfl
@[simp] theorem ev_k_c11 (T : Tg) (t : MT) (e : ME) (env env' : DEnv) (ds : List D) (h : Hh) : k_c1 T t e env env' ds true h = (e env' h).bind (k_c2 T t e env ds) := rfl
@[simp] theorem ev_k_c10 (T : Tg) (t : MT) (e : ME) (env env' : DEnv) (ds : List D) (h : Hh) : k_c1 T t e env env' ds false h = compL none T t e env ds h := rfl
@[simp] theorem ev_k_c2 (T : Tg) (t : MT) (e : ME) (env : DEnv) (ds : List D) (y : D) (h : Hh) : k_c2 T t e env ds y h = (compL none T t e env ds h).bind (k_cons' y) := rfl
def outR : RS → Res D
  | .nx _ h' => .ok .non h'
  | .rt d h' => .ok d h'
  | .er x _ h' => .err x h'
  | _ => .stuck
@[simp] theorem ev_out_nx (env : DEnv) (h : Hh) : outR (.nx env h) = .ok .non h := rfl
@[simp] theorem ev_out_rt (d : D) (h : Hh) : outR (.rt d h) = .ok d h := rfl
theorem run_eq {n : Nat} {N : List Str} {b : MS} {ds : List D} {h : Hh} (hn : ds.length = n) : runF n N b ds h = outR (b (startD N ds) h) := by
  unfold runF
  rw [if_pos hn]
  cases b (startD N ds) h <;> rfl

@[simp] theorem ev_start (N : List Str) (ds : List D) : startD N ds = ds.map some ++ List.replicate (N.length - ds.length) none := rfl
@[simp] theorem ev_run0 (N : List Str) (b : MS) (h : Hh) : runF 0 N b [] h = outR (b (startD N []) h) := run_eq rfl
@[simp] theorem ev_run1 (N : List Str) (b : MS) (x0 : D) (h : Hh) : runF 1 N b [x0] h = outR (b (startD N [x0]) h) := run_eq rfl
@[simp] theorem ev_run2 (N : List Str) (b : MS) (x0 x1 : D) (h : Hh) : runF 2 N b [x0, x1] h = outR (b (startD N [x0, x1]) h) := run_eq rfl
@[simp] theorem ev_run3 (N : List Str) (b : MS) (x0 x1 x2 : D) (h : Hh) : runF 3 N b [x0, x1, x2] h = outR (b (startD N [x0, x1, x2]) h) := run_eq rfl
@[simp] theorem ev_run4 (N : List Str) (b : MS) (x0 x1 x2 x3 : D) (h : Hh) : runF 4 N b [x0, x1, x2, x3] h = outR (b (startD N [x0, x1, x2, x3]) h) := run_eq rfl
@[simp] theorem ev_run5 (N : List Str) (b : MS) (x0 x1 x2 x3 x4 : D) (h : Hh) : runF 5 N b [x0, x1, x2, x3, x4] h = outR (b (startD N [x0, x1, x2, x3, x4]) h) := run_eq rfl
@[simp] theorem ev_run6 (N : List Str) (b : MS) (x0 x1 x2 x3 x4 x5 : D) (h : Hh) : runF 6 N b [x0, x1, x2, x3, x4, x5] h = outR (b (startD N [x0, x1, x2, x3, x4, x5]) h) := run_eq rfl
@[simp] theorem ev_run7 (N : List Str) (b : MS) (x0 x1 x2 x3 x4 x5 x6 : D) (h : Hh) : runF 7 N b [x0, x1, x2, x3, x4, x5, x6] h = outR (b (startD N [x0, x1, x2, x3, x4, x5, x6]) h) := run_eq rfl
theorem deq {α : Type} [BEq α] [LawfulBEq α] [DecidableEq α] {x y : α} : (x == y) = decide (x = y) := by
  by_cases h : x = y
  · subst h; simp
  · rw [decide_eq_false h]; exact beq_eq_false_iff_ne.mpr h
@[simp] theorem ev_add (i j : Int) (h : Hh) : addO (.int i) (.int j) h = some (.int (i + j)) := rfl
@[simp] theorem ev_addT (xs ys : List D) (h : Hh) : addO (.tup xs) (.tup ys) h = if xs.length + ys.length ≤ sizeLine then some (.tup (xs ++ ys)) else none := rfl
@[simp] theorem ev_addL (xs ys : List D) (h : Hh) : addO (.lst xs) (.lst ys) h = if xs.length + ys.length ≤ sizeLine then some (.lst (xs ++ ys)) else none := rfl
@[simp] theorem ev_sub (i j : Int) (h : Hh) : subO (.int i) (.int j) h = some (.int (i - j)) := rfl
@[simp] theorem ev_lt (i j : Int) (h : Hh) : ltO (.int i) (.int j) h = some (.bl (decide (i < j))) := rfl
@[simp] theorem ev_le (i j : Int) (h : Hh) : leO (.int i) (.int j) h = some (.bl (decide (i ≤ j))) := rfl
@[simp] theorem ev_gt (i j : Int) (h : Hh) : gtO (.int i) (.int j) h = some (.bl (decide (j < i))) := rfl
@[simp] theorem ev_mod (i j : Int) (h : Hh) : modO (.int i) (.int j) h = if 0 < j then some (.int (i % j)) else none := rfl
@[simp] theorem ev_fdiv (i j : Int) (h : Hh) : fdivO (.int i) (.int j) h = if 0 < j ∧ j < 1073741824 then some (.int (i / j)) else none := rfl
@[simp] theorem ev_pow (i j : Int) (h : Hh) : powO (.int i) (.int j) h = if 0 ≤ j ∧ j ≤ 1000000 ∧ i.natAbs < 18446744073709551616 then some (.int (i ^ j.toNat)) else none := rfl
@[simp] theorem ev_eqI (i j : Int) (h : Hh) : eqO (.int i) (.int j) h = some (.bl (decide (i = j))) := by
  rw [← deq]
  rfl
@[simp] theorem ev_neI (i j : Int) (h : Hh) : neO (.int i) (.int j) h = some (.bl (!(decide (i = j)))) := by
  rw [← deq]
  rfl
theorem shaped_str {x : Str} (h : PyData.strOk x = true) : SeqAt.shaped (.str x) = true := by simp [SeqAt.shaped, PyData.canLay0, PyData.depth, h]
@[simp] theorem ev_eqB (x y : Bool) (h : Hh) : eqO (.bl x) (.bl y) h = some (.bl (decide (x = y))) := by cases x <;> cases y <;> rfl
@[simp] theorem ev_neB (x y : Bool) (h : Hh) : neO (.bl x) (.bl y) h = some (.bl (!decide (x = y))) := by cases x <;> cases y <;> rfl
@[simp] theorem ev_max (i j : Int) (h : Hh) : max2O [.int i, .int j] h = some (.int (if j > i then j else i)) := rfl
@[simp] theorem ev_min (i j : Int) (h : Hh) : min2O [.int i, .int j] h = some (.int (if j < i then j else i)) := rfl
@[simp] theorem ev_lenT (xs : List D) (h : Hh) : lenO [.tup xs] h = some (.int xs.length) := rfl
@[simp] theorem ev_lenL (xs : List D) (h : Hh) : lenO [.lst xs] h = some (.int xs.length) := rfl
@[simp] theorem ev_lenScr (ns : List Int) (h : Hh) : lenO [.scr ns] h = some (.int ns.length) := rfl
@[simp] theorem ev_isi (d : D) (T : String) (h : Hh) : isiO [d, .glb (.ty T)] h = (tyName d h).bind fun t => (kitB t T).map D.bl := rfl
@[simp] theorem ev_tyNon (h : Hh) : tyName .non h = some "NoneType" := rfl
@[simp] theorem ev_tyB (b : Bool) (h : Hh) : tyName (.bl b) h = some "bool" := rfl
@[simp] theorem ev_tyI (i : Int) (h : Hh) : tyName (.int i) h = some "int" := rfl
@[simp] theorem ev_tyS (x : Str) (h : Hh) : tyName (.str x) h = some "str" := rfl
@[simp] theorem ev_tyT (xs : List D) (h : Hh) : tyName (.tup xs) h = some "tuple" := rfl
@[simp] theorem ev_tyL (xs : List D) (h : Hh) : tyName (.lst xs) h = some "list" := rfl
@[simp] theorem ev_tyScr (ns : List Int) (h : Hh) : tyName (.scr ns) h = some "list" := rfl
@[simp] theorem ev_isN (h : Hh) (neg : Bool) : isNO neg .non .non h = some (.bl (!neg)) := rfl
@[simp] theorem ev_isNI (h : Hh) (neg : Bool) (i : Int) : isNO neg (.int i) .non h = some (.bl neg) := rfl
@[simp] theorem ev_isNB (h : Hh) (neg : Bool) (i : Bool) : isNO neg (.bl i) .non h = some (.bl neg) := rfl
@[simp] theorem ev_isNS (h : Hh) (neg : Bool) (i : Str) : isNO neg (.str i) .non h = some (.bl neg) := rfl
@[simp] theorem ev_isNT (h : Hh) (neg : Bool) (i : List D) : isNO neg (.tup i) .non h = some (.bl neg) := rfl
@[simp] theorem ev_isNL (h : Hh) (neg : Bool) (i : List D) : isNO neg (.lst i) .non h = some (.bl neg) := rfl
@[simp] theorem ev_isNR (h : Hh) (neg : Bool) (i : Nat) : isNO neg (.ref i) .non h = some (.bl neg) := rfl
@[simp] theorem ev_ixT (ds : List D) (i : Int) (h : Hh) : ixA (.tup ds) (.int i) h = atI ds i := by
  unfold ixA
  have e : ixO (.tup ds) (.int i) h = atI ds i := rfl
  rw [e]
  cases atI ds i <;> rfl
@[simp] theorem ev_ixL (ds : List D) (i : Int) (h : Hh) : ixA (.lst ds) (.int i) h = atI ds i := by
  unfold ixA
  have e : ixO (.lst ds) (.int i) h = atI ds i := rfl
  rw [e]
  cases atI ds i <;> rfl
@[simp] theorem ev_ixScr (ns : List Int) (i : Int) (h : Hh) : ixA (.scr ns) (.int i) h = atI (ns.map D.int) i := by
  unfold ixA
  have e : ixO (.scr ns) (.int i) h = atI (ns.map D.int) i := rfl
  rw [e]
  cases atI (ns.map D.int) i <;> rfl
def refIx (o : Option O) (d : D) : Option D := match o with
  | some (.lst ds) => (match d with | .int i => atI ds i | _ => none)
  | some (.dK kvs) => (match keyD d with | some k => getG kvs k | none => none)
  | _ => none
@[simp] theorem ev_ixR (j : Nat) (i : Int) (h : Hh) : ixA (.ref j) (.int i) h = refIx h[j]? (.int i) := by
  show (match (match (match h[j]? with | some (.lst ds) => some ds | _ => none : Option (List D)) with | some ds => atI ds i | none => none : Option D) with
    | some d => some d
    | none => (match h[j]? with | some (.dK kvs) => (match keyD (.int i) with | some k => getG kvs k | none => none) | _ => none : Option D)) = _
  cases h[j]? with
  | none => rfl
  | some o =>
    cases o with
    | lst ds =>
      show (match atI ds i with | some d => some d | none => none : Option D) = atI ds i
      cases atI ds i <;> rfl
    | dK kvs => rfl
    | dN kvs => rfl
    | ins C fs => rfl
    | exc x => rfl
@[simp] theorem ev_ixRS (j : Nat) (x : Str) (h : Hh) : ixA (.ref j) (.str x) h = refIx h[j]? (.str x) := by
  show (match h[j]? with | some (.dK kvs) => (match keyD (.str x) with | some k => getG kvs k | none => none) | _ => none : Option D) = _
  cases h[j]? with
  | none => rfl
  | some o => cases o <;> rfl
@[simp] theorem ev_refIxL (ds : List D) (i : Int) : refIx (some (.lst ds)) (.int i) = atI ds i := rfl
@[simp] theorem ev_refIxI (kvs : List (Key × D)) (i : Int) : refIx (some (.dK kvs)) (.int i) = getG kvs (.inl i) := rfl
@[simp] theorem ev_refIxS (kvs : List (Key × D)) (x : Str) : refIx (some (.dK kvs)) (.str x) = getG kvs (.inr x) := rfl
@[simp] theorem ev_atI0 {α : Type} (x : α) (xs : List α) : atI (x :: xs) 0 = some x := by simp [atI, ixN]
@[simp] theorem ev_atIp {α : Type} (xs : List α) (k : Int) (h : 0 ≤ k) : atI xs k = xs[k.toNat]? := by
  unfold atI ixN
  rw [if_pos h]
  by_cases h2 : k < xs.length
  · rw [if_pos h2]; rfl
  · rw [if_neg h2, List.getElem?_eq_none (by omega)]; rfl
@[simp] theorem ev_atIm {α : Type} (xs : List α) (k : Int) (h : k < 0) : atI xs k = if -(xs.length : Int) ≤ k then xs[(k + xs.length).toNat]? else none := by
  unfold atI ixN
  rw [if_neg (by omega)]
  by_cases h2 : -(xs.length : Int) ≤ k
  · rw [if_pos h2, if_pos h2]; rfl
  · rw [if_neg h2, if_neg h2]; rfl
@[simp] theorem ev_ixN (n : Nat) (k : Int) (h : 0 ≤ k) : ixN n k = if k < n then some k.toNat else none := if_pos h
def refSet (o : Option O) (j : Nat) (i : D) (d : D) (h : Hh) : Option Hh := match o with
  | some (.lst xs) => match i with
    | .int k => (ixN xs.length k).map fun n => h.set j (.lst (xs.set n d))
    | _ => none
  | _ => none
@[simp] theorem ev_set (j : Nat) (i d : D) (h : Hh) : setO (.ref j) i d h = refSet h[j]? j i d h := by
  show (match h[j]? with | some (.lst xs) => (match i with | .int k => (ixN xs.length k).map fun n => h.set j (.lst (xs.set n d)) | _ => none) | _ => none : Option Hh) = _
  cases h[j]? with
  | none => rfl
  | some o => cases o <;> rfl
@[simp] theorem ev_refSet (xs : List D) (j : Nat) (k : Int) (d : D) (h : Hh) : refSet (some (.lst xs)) j (.int k) d h = (ixN xs.length k).map fun n => h.set j (.lst (xs.set n d)) := rfl
def subO' (f : OpS) (d : D) (env : DEnv) (a : Res D) (b : ME) : Option (DEnv × Hh) := match a with
  | .ok o h1 => match b env h1 with
    | .ok i h2 => (f o i d h2).map fun h3 => (env, h3)
    | _ => none
  | _ => none
@[simp] theorem ev_gSub (mo mi : ME) (f : OpS) (d : D) (env : DEnv) (h : Hh) : gSubD mo mi f d env h = subO' f d env (mo env h) mi := rfl
def subO2 (f : OpS) (d o : D) (env : DEnv) (b : Res D) : Option (DEnv × Hh) := match b with
  | .ok i h2 => (f o i d h2).map fun h3 => (env, h3)
  | _ => none
@[simp] theorem ev_subO (f : OpS) (d o : D) (env : DEnv) (h1 : Hh) (b : ME) : subO' f d env (.ok o h1) b = subO2 f d o env (b env h1) := rfl
@[simp] theorem ev_subO2 (f : OpS) (d o i : D) (env : DEnv) (h2 : Hh) : subO2 f d o env (.ok i h2) = (f o i d h2).map fun h3 => (env, h3) := rfl
@[simp] theorem ev_ixN0 (n : Nat) : ixN (n + 1) 0 = some 0 := by simp [ixN]
@[simp] theorem ev_slT (ds : List D) (lo hi : Option Int) (h : Hh) : sliceO (.tup ds) lo hi h = some (.tup (cutG ds lo hi)) := rfl
@[simp] theorem ev_slL (ds : List D) (lo hi : Option Int) (h : Hh) : sliceO (.lst ds) lo hi h = some (.lst (cutG ds lo hi)) := rfl
@[simp] theorem ev_srcT (ds : List D) (h : Hh) : srcOf (.tup ds) h = some ⟨ds, none⟩ := rfl
@[simp] theorem ev_srcL (ds : List D) (h : Hh) : srcOf (.lst ds) h = some ⟨ds, none⟩ := rfl
@[simp] theorem ev_rng1 (j : Int) (h : Hh) : rng1 [.int j] h = if -1000000 ≤ j ∧ j ≤ 1000000 then some ⟨rangeD 0 j, none⟩ else none := rfl
end MR

namespace MR
open PySem PySem.Spec PyProof.Rows L2

@[simp] theorem ev_sizeLine : sizeLine = 16777216 := sizeLine_eq
@[simp] theorem ev_seqLL (xs : List D) (h : Hh) : seqL (.lst xs) h = some xs := rfl
def refSeq (o : Option O) : Option (List D) := match o with | some (.lst xs) => some xs | _ => none
@[simp] theorem ev_seqLR (j : Nat) (h : Hh) : seqL (.ref j) h = refSeq h[j]? := by
  show (match h[j]? with | some (.lst ds) => some ds | _ => none : Option (List D)) = _
  cases h[j]? with
  | none => rfl
  | some o => cases o <;> rfl
@[simp] theorem ev_refSeq (xs : List D) : refSeq (some (.lst xs)) = some xs := rfl
@[simp] theorem set_last (h : Hh) (o o' : O) : (h ++ [o]).set h.length o' = h ++ [o'] := by
  induction h with
  | nil => rfl
  | cons x xs ih => simp [ih]
def refSrc (j : Nat) (o : Option O) : Option Src := match o with
  | some (.lst ds) => some ⟨ds, some (j, ds)⟩
  | _ => none
@[simp] theorem ev_srcR (j : Nat) (h : Hh) : srcOf (.ref j) h = refSrc j h[j]? := by
  show (match h[j]? with | some (.lst ds) => some ⟨ds, some (j, ds)⟩ | _ => none : Option Src) = _
  cases h[j]? with
  | none => rfl
  | some o => cases o <;> rfl
@[simp] theorem ev_refSrc (j : Nat) (ds : List D) : refSrc j (some (.lst ds)) = some ⟨ds, some (j, ds)⟩ := rfl
def lenR (o : Option O) : Option D := match o with
  | some (.lst xs) => some (.int xs.length)
  | some (.dK kvs) => some (.int kvs.length)
  | _ => none
@[simp] theorem ev_lenR (j : Nat) (h : Hh) : lenO [.ref j] h = lenR h[j]? := by
  show (match h[j]? with | some (.lst xs) => some (.int xs.length) | some (.dK kvs) => some (.int kvs.length) | _ => none : Option D) = _
  cases h[j]? with
  | none => rfl
  | some o => cases o <;> rfl
@[simp] theorem ev_lenRL (xs : List D) : lenR (some (.lst xs)) = some (.int xs.length) := rfl
@[simp] theorem ev_lenRD (xs : List (Key × D)) : lenR (some (.dK xs)) = some (.int xs.length) := rfl
def refTy (o : Option O) : Option String := match o with
  | some (.lst _) => some "list"
  | some (.dK _) => some "dict"
  | some (.dN _) => some "dict"
  | _ => none
@[simp] theorem ev_tyR (j : Nat) (h : Hh) : tyName (.ref j) h = refTy h[j]? := by
  show (match h[j]? with | some (.lst _) => some "list" | some (.dK _) => some "dict" | some (.dN _) => some "dict" | _ => none : Option String) = _
  cases h[j]? with
  | none => rfl
  | some o => cases o <;> rfl
@[simp] theorem ev_refTyL (xs : List D) : refTy (some (.lst xs)) = some "list" := rfl
@[simp] theorem ev_refTyD (xs : List (Key × D)) : refTy (some (.dK xs)) = some "dict" := rfl
@[simp] theorem ev_refTyN (xs : List (D × D)) : refTy (some (.dN xs)) = some "dict" := rfl
theorem mem_range {lo hi : Int} {d : D} (h : d ∈ rangeD lo hi) : ∃ k : Int, d = .int k ∧ lo ≤ k ∧ k < hi := by
  unfold rangeD at h
  obtain ⟨i, hi, rfl⟩ := List.mem_map.mp h
  exact ⟨lo + i, rfl, by omega, by have := List.mem_range.mp hi; omega⟩
end MR

namespace MR
open PySem PySem.Spec PyProof.Rows L2

theorem mulE (i j : Int) (h : Hh) : mulO (.int i) (.int j) h = if ((-18446744073709551616 < i ∧ i < 18446744073709551616) ∨ (-18446744073709551616 < j ∧ j < 18446744073709551616)) ∨ i.natAbs.log2 + j.natAbs.log2 < 1000000 then some (.int (i * j)) else none := rfl
def fit : Nat → D → Bool
  | 0, _ => false
  | n + 1, d => match d with
    | .non => true
    | .bl _ => true
    | .int _ => true
    | .str x => PyData.strOk x
    | .tup ds => ds.all (fit n)
    | .lst ds => ds.all (fit n)
    | _ => false
theorem kit_all : kitB "NoneType" "dict" = some false ∧ kitB "NoneType" "list" = some false ∧ kitB "NoneType" "tuple" = some false ∧ kitB "NoneType" "str" = some false ∧ kitB "NoneType" "bool" = some false ∧ kitB "NoneType" "int" = some false := by decide +kernel
theorem kit_bool : kitB "bool" "dict" = some false ∧ kitB "bool" "list" = some false ∧ kitB "bool" "tuple" = some false ∧ kitB "bool" "str" = some false ∧ kitB "bool" "bool" = some true ∧ kitB "bool" "int" = some true := by decide +kernel
theorem kit_int : kitB "int" "dict" = some false ∧ kitB "int" "list" = some false ∧ kitB "int" "tuple" = some false ∧ kitB "int" "str" = some false ∧ kitB "int" "bool" = some false ∧ kitB "int" "int" = some true := by decide +kernel
theorem kit_str : kitB "str" "dict" = some false ∧ kitB "str" "list" = some false ∧ kitB "str" "tuple" = some false ∧ kitB "str" "str" = some true ∧ kitB "str" "bool" = some false ∧ kitB "str" "int" = some false := by decide +kernel
theorem kit_tuple : kitB "tuple" "dict" = some false ∧ kitB "tuple" "list" = some false ∧ kitB "tuple" "tuple" = some true ∧ kitB "tuple" "str" = some false ∧ kitB "tuple" "bool" = some false ∧ kitB "tuple" "int" = some false := by decide +kernel
theorem kit_list : kitB "list" "dict" = some false ∧ kitB "list" "list" = some true ∧ kitB "list" "tuple" = some false ∧ kitB "list" "str" = some false ∧ kitB "list" "bool" = some false ∧ kitB "list" "int" = some false := by decide +kernel
def Lf (h : Hh) (i : Nat) : Prop := ∃ a b c : Int, h[i]? = some (.lst [.int a, .int b, .int c]) ∧ 0 ≤ a ∧ 0 ≤ b ∧ b < 2147483648 ∧ 0 ≤ c
def Nx (i : Nat) (h h' : Hh) : Prop := h'.length = h.length ∧ ∀ j, j ≠ i → h'[j]? = h[j]?
theorem Nx.trans {i : Nat} {a b c : Hh} (x : Nx i a b) (y : Nx i b c) : Nx i a c := ⟨by rw [y.1, x.1], fun j n => by rw [y.2 j n, x.2 j n]⟩
theorem Nx.refl {i : Nat} {a : Hh} : Nx i a a := ⟨rfl, fun _ _ => rfl⟩
theorem Nx.set {i : Nat} {a : Hh} {o : O} : Nx i a (a.set i o) := ⟨by simp, fun j n => by simp [List.getElem?_set, Ne.symm n]⟩
theorem Lf.lt {h : Hh} {i : Nat} (l : Lf h i) : i < h.length := by
  obtain ⟨a, b, c, e, _⟩ := l
  exact (List.getElem?_eq_some_iff.mp e).1
theorem Lf.app {h : Hh} {a b c : Int} (a0 : 0 ≤ a) (b0 : 0 ≤ b) (b1 : b < 2147483648) (c0 : 0 ≤ c) : Lf (h ++ [.lst [.int a, .int b, .int c]]) h.length := ⟨a, b, c, by simp, a0, b0, b1, c0⟩
abbrev WL : List Str := ["rows", "readers", "writers", "turns", "passes"]
structure Rul (w : Str) (m t u : Int) : Prop where
  hw : w ∈ WL
  hm : m = 0 ∨ m = 1 ∨ m = 2 ∨ m = 3 ∨ m = 5
  ht : t = 0 ∨ w = "passes" ∧ (t = 1 ∨ t = 2 ∨ t = 9)
  hu : u = 0 ∨ u = 1

theorem toPys_strs (ws : List Str) : toPys (ws.map D.str) = some (ws.map PyData.str) := by
  induction ws with
  | nil => rfl
  | cons w ws ih => rw [List.map_cons, toPys, ih]; rfl
theorem any_strs (x : Str) (ws : List Str) : ((ws.map PyData.str).any fun z => PyData.eqv z (.str x)) = decide (x ∈ ws) := by
  induction ws with
  | nil => rfl
  | cons w ws ih =>
    rw [List.map_cons, List.any_cons, ih]
    by_cases h : w = x
    · subst h; simp [PyData.eqv]
    · simp [PyData.eqv, h, Ne.symm h]
def oks : List Str → Bool := fun ws => ws.all PyData.strOk
theorem shaped_strs {ws : List Str} (h : oks ws = true) : PyData.canLayAll0 (ws.map PyData.str) = true ∧ PyData.depthAll (ws.map PyData.str) = 0 := by
  induction ws with
  | nil => exact ⟨rfl, rfl⟩
  | cons w ws ih =>
    have h : PyData.strOk w = true ∧ oks ws = true := by simpa [oks] using h
    obtain ⟨a, b⟩ := ih h.2
    exact ⟨by rw [List.map_cons, PyData.canLayAll0, a, PyData.canLay0, h.1]; rfl, by rw [List.map_cons, PyData.depthAll, b, PyData.depth]; rfl⟩
theorem in_strs {x : Str} {ws : List Str} (hx : PyData.strOk x = true) (hw : oks ws = true) (neg : Bool) (h : Hh) : inO neg (.str x) (.tup (ws.map D.str)) h = some (.bl (if neg then !decide (x ∈ ws) else decide (x ∈ ws))) := by
  have e1 : pyOf (.str x) h = some (.str x) := if_pos (shaped_str hx)
  have e2 : pyOf (.tup (ws.map D.str)) h = some (.tuple (ws.map PyData.str)) := by
    unfold pyOf deref
    show (match toPy (.tup (ws.map D.str)) with | some p => if SeqAt.shaped p = true then some p else none | none => none) = _
    rw [toPy, toPys_strs]
    have : SeqAt.shaped (.tuple (ws.map PyData.str)) = true := by
      obtain ⟨a, b⟩ := shaped_strs hw
      unfold SeqAt.shaped
      rw [PyData.canLay0, a, PyData.depth, b]; rfl
    show (if SeqAt.shaped (.tuple (ws.map PyData.str)) = true then _ else _) = _
    rw [if_pos this]
  unfold inO
  rw [e1, e2]
  show some (D.bl _) = _
  rw [any_strs]
end MR

namespace MR
open PySem PySem.Spec PyProof.Rows L2

theorem tuple_mul_same (l : Addr) (items : Array Value) (n : Nat) (dd : Option Addr) (sl : Array (Option Value)) (x : Int) (u : Tok) (c0 : (decide (x < -(2 ^ 63)) || decide (x ≥ 2 ^ 63)) = false) (c1 : (items.isEmpty || x == 1) = true) :
    Meets (Builtin.«tuple.__mul__» ⟨[.ref l, .int x u], []⟩) (fun _ R s => s.heap.get? l = some { cls := .type "tuple", dict := dd, data := .seq items n, slots := sl } ∧ R (.ok (.ret (Value.ref l))) s) :=
  .of_wp fun prog w A R s h => by
    obtain ⟨hp, g, d, tk, os⟩ := s
    obtain ⟨hl, h⟩ := h
    have f1 := AutoSeq1.idx_int
    wp_walk using wpAny_loadPart' hl
    repeat (first
      | (refine wpAny_ite_false (decide_eq_false (by rw [c0]; exact Bool.false_ne_true)) ?_; wp_walk using wpAny_loadPart' hl)
      | (refine wpAny_ite_true (decide_eq_true c1) ?_; wp_walk using wpAny_loadPart' hl))
    exact ⟨_, rfl, h⟩
theorem tuple_mul_none (l : Addr) (items : Array Value) (n : Nat) (dd : Option Addr) (sl : Array (Option Value)) (x : Int) (u : Tok) (c0 : (decide (x < -(2 ^ 63)) || decide (x ≥ 2 ^ 63)) = false) (c1 : (items.isEmpty || x == 1) = false) (c2 : (decide (x ≤ 0) || items.isEmpty) = true) :
    Meets (Builtin.«tuple.__mul__» ⟨[.ref l, .int x u], []⟩) (fun _ R s => s.heap.get? l = some { cls := .type "tuple", dict := dd, data := .seq items n, slots := sl } ∧
      R (.ok (.ret (Value.ref s.heap.objs.size))) { s with heap := s.heap.push { cls := Value.type "tuple", data := Data.seq #[] }, toks := s.toks }) :=
  .of_wp fun prog w A R s h => by
    obtain ⟨hp, g, d, tk, os⟩ := s
    obtain ⟨hl, h⟩ := h
    have f1 := AutoSeq1.idx_int
    wp_walk using wpAny_loadPart' hl
    repeat (first
      | (refine wpAny_ite_false (decide_eq_false (by rw [c0]; exact Bool.false_ne_true)) ?_; wp_walk using wpAny_loadPart' hl)
      | (refine wpAny_ite_false (decide_eq_false (by rw [c1]; exact Bool.false_ne_true)) ?_; wp_walk using wpAny_loadPart' hl)
      | (refine wpAny_ite_true (decide_eq_true c2) ?_; wp_walk using wpAny_loadPart' hl))
    exact ⟨_, rfl, h⟩
def rRep1 (K : PySem.W.Frag) : R2 := fun x y H Q => ∃ l k xs, x = .ref l ∧ y = .int k ∧ SqT K H l xs ∧ -1000 ≤ k ∧ k ≤ 1000 ∧ ((xs = [] ∨ k = 1) ∧ Q (.ref l) H ∨ (xs ≠ [] ∧ k ≤ 0) ∧ NewT H [] Q ∨ (xs ≠ [] ∧ 2 ≤ k ∧ xs.length ≤ 1000) ∧ NewT H (List.replicate k.toNat xs).flatten Q)
section
variable {X : Cx}
theorem op_rep1 : OpR X (binaryOp .Mult) (rRep1 X.K) := by
  intro pins s σ H x y v u Q I rx ry h
  obtain ⟨l, k, xs, rfl, rfl, hT, h1, h2, q⟩ := h
  cases rx
  obtain ⟨t, rfl⟩ := ry
  obtain ⟨its, r, ⟨⟨cls, dd, data, sl⟩, ho, hc, n, hd⟩, hs⟩ := I.tuple hT
  simp only at hc hd
  subst hc hd
  have hle : its.length = xs.length := r.length.symm
  have c0 : (decide (k < -(2 ^ 63)) || decide (k ≥ 2 ^ 63)) = false := by
    rw [decide_eq_false (by omega), decide_eq_false (by omega)] <;> rfl
  rcases q with ⟨c, q⟩ | ⟨⟨c1, c2⟩, q⟩ | ⟨⟨c1, c2, hz⟩, q⟩
  · have c1 : (its.toArray.isEmpty || k == 1) = true := by
      rcases c with c | c
      · subst c
        have : its = [] := List.eq_nil_of_length_eq_zero hle
        subst this; rfl
      · subst c; simp
    refine wpAny_binaryOp_repeat_ref (T := "tuple") (U := "int") (by decide) ⟨_, ho, rfl⟩ (fun s' => typeIs_int s' k t) noFill_tuple_mul F.fills_int_mul F.slot_int_rmul repeat_tuple F.slot_int_index.lookup
      (call_meets F.slot_int_rmul (typeIs_int s k t) F.entry_int_rmul (F.args_int_rmul_2 _ _) (int_rmul_tuple k t l its.toArray n dd sl)
        ⟨ho, rfl, ⟨_, ho, rfl⟩, call_meets F.slot_tuple_mul ⟨_, ho, rfl⟩ F.entry_tuple_mul (F.args_tuple_mul_2 _ _) (tuple_mul_same l its.toArray n dd sl k t c0 c1) ⟨ho, ?_⟩⟩)
    exact ⟨.ref l, H, I, rfl, q⟩
  · have hn : its ≠ [] := fun e => c1 (by
      rw [e] at hle
      exact List.eq_nil_of_length_eq_zero hle.symm)
    have hi : its.toArray.isEmpty = false := by
      cases its with
      | nil => exact absurd rfl hn
      | cons a b => rfl
    have c3 : (its.toArray.isEmpty || k == 1) = false := by
      rw [hi, Bool.false_or]
      exact beq_eq_false_iff_ne.mpr (by omega)
    have c4 : (decide (k ≤ 0) || its.toArray.isEmpty) = true := by
      rw [decide_eq_true c2]; rfl
    refine wpAny_binaryOp_repeat_ref (T := "tuple") (U := "int") (by decide) ⟨_, ho, rfl⟩ (fun s' => typeIs_int s' k t) noFill_tuple_mul F.fills_int_mul F.slot_int_rmul repeat_tuple F.slot_int_index.lookup
      (call_meets F.slot_int_rmul (typeIs_int s k t) F.entry_int_rmul (F.args_int_rmul_2 _ _) (int_rmul_tuple k t l its.toArray n dd sl)
        ⟨ho, rfl, ⟨_, ho, rfl⟩, call_meets F.slot_tuple_mul ⟨_, ho, rfl⟩ F.entry_tuple_mul (F.args_tuple_mul_2 _ _) (tuple_mul_none l its.toArray n dd sl k t c0 c3 c4) ⟨ho, ?_⟩⟩)
    exact inv_newT I (its := []) .nil (Nat.zero_le _) q
  · have hn : its ≠ [] := fun e => c1 (by
      rw [e] at hle
      exact List.eq_nil_of_length_eq_zero hle.symm)
    have hi : its.toArray.isEmpty = false := by
      cases its with
      | nil => exact absurd rfl hn
      | cons a b => rfl
    have hsz0 : its.toArray.size = xs.length := by rw [List.size_toArray, hle]
    have hm : ((its.toArray.size : Nat) : Int) * k ≤ 1000000 := by
      rw [hsz0]
      have a1 : ((xs.length : Nat) : Int) * k ≤ 1000 * k := Int.mul_le_mul_of_nonneg_right (by omega) (by omega)
      omega
    have nlen : k.toNat * xs.length ≤ 1000000 := by
      have a1 : k.toNat * xs.length ≤ 1000 * 1000 := Nat.mul_le_mul (by omega) hz
      omega
    have flen : (List.replicate k.toNat its).flatten.length ≤ sizeLine := by
      rw [PyProof.Rows.lm_len_rep_flat, hle, sizeLine_eq]; omega
    have c3 : (its.toArray.isEmpty || k == 1) = false := by
      rw [hi, Bool.false_or]
      exact beq_eq_false_iff_ne.mpr (by omega)
    have c4 : (decide (k ≤ 0) || its.toArray.isEmpty) = false := by
      rw [hi, Bool.or_false]
      exact decide_eq_false (by omega)
    have c5 : Builtin.Tuple.tupleTooMany (((its.toArray.size : Nat) : Int) * k) = false := by
      unfold Builtin.Tuple.tupleTooMany
      rw [sizeLine_eq]
      exact decide_eq_false (by omega)
    refine wpAny_binaryOp_repeat_ref (T := "tuple") (U := "int") (by decide) ⟨_, ho, rfl⟩ (fun s' => typeIs_int s' k t) noFill_tuple_mul F.fills_int_mul F.slot_int_rmul repeat_tuple F.slot_int_index.lookup
      (call_meets F.slot_int_rmul (typeIs_int s k t) F.entry_int_rmul (F.args_int_rmul_2 _ _) (int_rmul_tuple k t l its.toArray n dd sl)
        ⟨ho, rfl, ⟨_, ho, rfl⟩, call_meets F.slot_tuple_mul ⟨_, ho, rfl⟩ F.entry_tuple_mul (F.args_tuple_mul_2 _ _) (tuple_mulW l its.toArray n dd sl k t c0 c3 c4 (by omega) c5 (by rw [size_rep, List.size_toArray]; exact flen)) ⟨ho, ?_⟩⟩)
    rw [size_rep]
    exact inv_newT I (r.rep k.toNat) (by rw [PyProof.Rows.lm_len_rep_flat, sizeLine_eq]; omega) q
end

def repG {α : Type} (xs : List α) (k : Int) : List α := (List.replicate k.toNat xs).flatten
def mulB : Op2 := fun a b h => match a, b with
  | .tup xs, .int k => if -1000 ≤ k ∧ k ≤ 1000 ∧ xs.length ≤ 1000 then some (.tup (repG xs k)) else none
  | .lst xs, .int k => if -1000 ≤ k ∧ k ≤ 1000 ∧ xs.length ≤ 1000 then some (.lst (repG xs k)) else none
  | a, b => mulO a b h
def rMulB (K : PySem.W.Frag) : R2 := fun x y H Q => rMulA x y H Q ∨ (rRep1 K x y H Q ∨ rRep x y H Q)
theorem op_mulB {X : Cx} : OpR X (binaryOp .Mult) (rMulB X.K) := op_mulA.or (op_rep1.or op_rep)
section
variable {G : Gm} {rho : Rm} {H : Hp}
theorem Dens.rep {ds : List D} {vs : List V} (q : Dens G rho H ds vs) : ∀ n : Nat, Dens G rho H (List.replicate n ds).flatten (List.replicate n vs).flatten
  | 0 => rfl
  | n + 1 => by
    rw [List.replicate_succ, List.replicate_succ, List.flatten_cons, List.flatten_cons]
    exact q.append (Dens.rep q n)
theorem rep_len {α : Type} (xs : List α) (n : Nat) : (List.replicate n xs).flatten.length = n * xs.length := by simp
theorem rz_mulB : Rz2 G (rMulB G.K) mulB := fun rho hh H d1 d2 v1 v2 d Q R q1 q2 e k => by
  unfold mulB at e
  split at e
  · rename_i xs i
    split at e
    · rename_i hc
      obtain ⟨c1, c2, c3⟩ := hc
      cases e
      have q0 := q1
      rw [Den] at q1
      obtain ⟨a, vs, rfl, hT, l, z⟩ := q1
      have q2 : v2 = .int i := q2
      have hl := z.length
      by_cases h1 : vs = [] ∨ i = 1
      · have ex : repG xs i = xs := by
          rcases h1 with h1 | h1
          · subst h1
            have : xs = [] := List.eq_nil_of_length_eq_zero (by simpa using hl)
            subst this
            unfold repG
            simp
          · subst h1; simp [repG]
        refine .inr (.inl ⟨a, i, vs, rfl, q2, hT.t, c1, c2, .inl ⟨h1, k _ H .refl R ?_⟩⟩)
        rw [ex]; exact q0
      · by_cases h2 : i ≤ 0
        · have e0 : i.toNat = 0 := by omega
          refine .inr (.inl ⟨a, i, vs, rfl, q2, hT.t, c1, c2, .inr (.inl ⟨⟨fun e => h1 (.inl e), h2⟩, fun p o hp ho => k _ _ (.laid hp) (R.laid hp) ?_⟩)⟩)
          have : repG xs i = [] := by unfold repG; rw [e0]; rfl
          rw [this]
          exact Den.tup_new (ds := []) (vs := []) ho R rfl (Nat.zero_le _) hp
        · refine .inr (.inl ⟨a, i, vs, rfl, q2, hT.t, c1, c2, .inr (.inr ⟨⟨fun e => h1 (.inl e), by omega, by omega⟩, fun p o hp ho => k _ _ (.laid hp) (R.laid hp) (Den.tup_new ho R (z.rep _) ?_ hp)⟩)⟩)
          rw [rep_len, sizeLine_eq]
          have a1 : i.toNat * vs.length ≤ 1000 * 1000 := Nat.mul_le_mul (by omega) (by omega)
          omega
    · cases e
  · rename_i xs i
    split at e
    · rename_i hc
      obtain ⟨c1, c2, c3⟩ := hc
      cases e
      obtain ⟨a, vs, rfl, hT, l, z⟩ := seqL_of (ds := xs) R q1 rfl
      have hl := z.length
      have a1 : i.toNat * vs.length ≤ 1000 * 1000 := Nat.mul_le_mul (by omega) (by omega)
      refine .inr (.inr ⟨a, i, vs, rfl, q2, hT, by omega, by omega, by rw [sizeLine_eq, Nat.mul_comm]; omega, fun p hp => k _ _ (.laid hp) (R.laid hp) (den_lst_new R (z.rep _) ?_ hp)⟩)
      rw [rep_len, sizeLine_eq]
      omega
    · cases e
  · exact .inl (rz_mul rho hh H d1 d2 v1 v2 d Q R q1 q2 e k)
end
@[simp] theorem ev_mulBI (i j : Int) (h : Hh) : mulB (.int i) (.int j) h = mulO (.int i) (.int j) h := rfl
@[simp] theorem ev_mulBT (xs : List D) (k : Int) (h : Hh) : mulB (.tup xs) (.int k) h = if -1000 ≤ k ∧ k ≤ 1000 ∧ xs.length ≤ 1000 then some (.tup (repG xs k)) else none := rfl
@[simp] theorem ev_mulBL (xs : List D) (k : Int) (h : Hh) : mulB (.lst xs) (.int k) h = if -1000 ≤ k ∧ k ≤ 1000 ∧ xs.length ≤ 1000 then some (.lst (repG xs k)) else none := rfl
end MR

namespace MR
open PySem PySem.Spec PyProof.Rows L2

theorem comp_map {T : Tg} {e : ME} {env : DEnv} {h : Hh} (f : D → D) : ∀ ds : List D, (∀ d ∈ ds, ∃ env', bindT T d env = some env' ∧ e env' h = .ok (f d) h) → compL none T (fun _ h => .ok true h) e env ds h = .ok (ds.map f) h
  | [], _ => ev_comp_nil _ _ _ _ _
  | d :: ds, hd => by
    have ih := comp_map (e := e) (env := env) (h := h) f ds fun d m => hd d (List.mem_cons_of_mem _ m)
    obtain ⟨env', e0, e1⟩ := hd d List.mem_cons_self
    rw [ev_comp_cons, e0, ev_k_c0, ev_bind_ok, ev_k_c11, e1, ev_bind_ok, ev_k_c2, ih, ev_bind_ok, ev_k_cons']
    rfl
theorem fit_up : ∀ (n : Nat) (d : D), fit n d = true → fit (n + 1) d = true
  | 0, d, f => by cases f
  | n + 1, d, f => by
    cases d with
    | tup ds =>
      have f : ds.all (fit n) = true := f
      show ds.all (fit (n + 1)) = true
      rw [List.all_eq_true] at f ⊢
      exact fun d m => fit_up n d (f d m)
    | lst ds =>
      have f : ds.all (fit n) = true := f
      show ds.all (fit (n + 1)) = true
      rw [List.all_eq_true] at f ⊢
      exact fun d m => fit_up n d (f d m)
    | non => exact f
    | bl b => exact f
    | int i => exact f
    | str x => exact f
    | ref i => cases f
    | glb v => cases f
    | scr ns => cases f
    | dct ks ns => cases f
    | wtp ds => cases f
theorem fit_le {n m : Nat} (hm : n ≤ m) {d : D} (f : fit n d = true) : fit m d = true := by
  induction hm with
  | refl => exact f
  | step _ ih => exact fit_up _ _ ih
theorem fit_tup {n : Nat} {ds : List D} : fit (n + 1) (.tup ds) = true ↔ ∀ d ∈ ds, fit n d = true := by
  show ds.all (fit n) = true ↔ _
  rw [List.all_eq_true]
theorem fit_lst {n : Nat} {ds : List D} : fit (n + 1) (.lst ds) = true ↔ ∀ d ∈ ds, fit n d = true := by
  show ds.all (fit n) = true ↔ _
  rw [List.all_eq_true]
end MR

namespace MR
open PySem PySem.Spec PyProof.Rows L2

def TyAt (X : Cx) (T : String) (x : V) (H : Hp) : Prop := ∀ (pins : List (Addr × Obj)) (σ : L2.St) (s : Shared) (v : Value), Inv X pins σ H s → RelV x v → s.TypeIs v T ∧ ∀ a, v = .ref a → ∃ ob, s.heap.get? a = some ob ∧ ob.dict = none
section
variable {X : Cx} {o e : Expr} {es : List Expr} {to : TE} {t : TA} {name : Str} {apos cpos : Pos} {T id : String} {r : V → List V → Hp → VK → Prop}
end
theorem pe_or {X : Cx} {e : Expr} {t t' : TE} (h : PE X e t) (h' : PE X e t') : PE X e (fun σ H Q => t σ H Q ∨ t' σ H Q) := ⟨fun pins s σ H Q I q => by
  rcases q with q | q
  · exact h.run pins s σ H Q I q
  · exact h'.run pins s σ H Q I q⟩
abbrev OpR1 := D → List D → Hh → Option D
structure RzR (X : Cx) (T : String) (r : V → List V → Hp → VK → Prop) (ok : D → Hh → Bool) (f : OpR1) : Prop where
  ty : ∀ rho hh H d v, Rep (Cx.gm X) rho hh H → Den (Cx.gm X) rho H d v → ok d hh = true → TyAt X T v H
  run : ∀ rho hh H d ds v vs d' (Q : VK), Rep (Cx.gm X) rho hh H → Den (Cx.gm X) rho H d v → Dens (Cx.gm X) rho H ds vs → f d ds hh = some d' →
    (∀ w H', Step rho H rho H' → Rep (Cx.gm X) rho hh H' → Den (Cx.gm X) rho H' d' w → Q w H') → r v vs H Q
section
variable {X : Cx} {o e : Expr} {es : List Expr} {m : ME} {ms : MA} {name : Str} {apos cpos : Pos} {T T' id id' : String} {r r' : V → List V → Hp → VK → Prop} {ok ok' : D → Hh → Bool} {f f' : OpR1}
end

section
variable {G : Gm} {rho : Rm} {hh : Hh} {H : Hp} {d : D} {v : V} {ps : List PyData}
end
end MR

namespace MR
open PySem PySem.Spec PyProof.Rows L2

section
variable {prog : Program} {w : World} {A : Around} {E : Value → Shared → Prop} {s : Shared}
end
section
variable {G : Gm} {rho : Rm} {H : Hp}
theorem Dens.reverse : ∀ {ds : List D} {vs : List V}, Dens G rho H ds vs → Dens G rho H ds.reverse vs.reverse
  | [], vs, h => by rw [Dens] at h; subst h; rfl
  | d :: ds, vs, h => by
    rw [Dens] at h
    obtain ⟨v, r, rfl, a, b⟩ := h
    rw [List.reverse_cons, List.reverse_cons]
    exact (Dens.reverse b).append ⟨v, [], rfl, a, rfl⟩
end
end MR

namespace MR
open PySem PySem.Spec PyProof.Rows L2

theorem py_str {x : Str} (hx : PyData.strOk x = true) (h : Hh) : pyOf (.str x) h = some (.str x) := if_pos (shaped_str hx)
abbrev PL : List Str := ["out", "reads", "rising", "writes", "raised"]
end MR

namespace MR
open PySem PySem.Spec PyProof.Rows L2

section
variable {G : Gm} {rho : Rm} {H : Hp} {hh : Hh}
end
section
variable {X : Cx} {e : Expr} {m : ME} {pos p : Pos} {x : Str}
end

def dictOf (d : D) (h : Hh) : Option (List (Key × D)) := match d with
  | .ref i => match h[i]? with
    | some (.dK kvs) => some kvs
    | _ => none
  | _ => none
def getO (d k : D) (h : Hh) : Option (Option D) := match dictOf d h, keyD k with
  | some kvs, some key => some (getG kvs key)
  | _, _ => none
theorem dictOf_of {G : Gm} {rho : Rm} {H : Hp} {hh : Hh} {d : D} {v : V} {kvs : List (Key × D)} (R : Rep G rho hh H) (q : Den G rho H d v) (e : dictOf d hh = some kvs) : ∃ a ws, v = .ref a ∧ H a = some (.dK ws) ∧ KD G rho H kvs ws := by
  unfold dictOf at e
  split at e
  · rename_i i
    split at e
    · rename_i kvs' e1
      cases e
      rw [Den] at q
      obtain ⟨a, e2, rfl⟩ := q
      obtain ⟨ws, e3, l, z⟩ := R.ob i a _ e2 e1
      exact ⟨a, ws, rfl, e3, z⟩
    · cases e
  · cases e
def OptD (G : Gm) (rho : Rm) (H : Hp) : Option D → Option V → Prop
  | some d, some v => Den G rho H d v
  | none, none => True
  | _, _ => False
theorem getO_of {G : Gm} {rho : Rm} {H : Hp} {hh : Hh} {d k : D} {a : Addr} {u : V} {o : Option D} (R : Rep G rho hh H) (q : Den G rho H d (.ref a)) (qk : Den G rho H k u) (e : getO d k hh = some o) :
    ∃ w : Option V, DGet H a u w ∧ OptD G rho H o w := by
  unfold getO at e
  split at e
  · rename_i kvs key e1 e2
    cases e
    obtain ⟨b, ws, eb, hb, z⟩ := dictOf_of R q e1
    cases eb
    have := keyD_of e2 qk
    subst this
    refine ⟨valV ws key, .k hb, ?_⟩
    cases g : getG kvs key with
    | none => rw [KD.none z g]; trivial
    | some d =>
      obtain ⟨v, e3, e4⟩ := KD.get z g
      rw [e3]; exact e4
  · cases e
section
variable {X : Cx} {o e f : Expr} {apos cpos : Pos} {md mk mx : ME}
theorem isD_of {G : Gm} {rho : Rm} {H : Hp} {hh : Hh} {d : D} {v : V} (R : Rep G rho hh H) (q : Den G rho H d v) (h : (dictOf d hh).isSome = true) : ∃ a, v = .ref a ∧ IsD H a := by
  obtain ⟨kvs, e⟩ := Option.isSome_iff_exists.mp h
  obtain ⟨a, ws, rfl, hb, _⟩ := dictOf_of R q e
  exact ⟨a, rfl, .inl ⟨ws, .inl hb⟩⟩
def eDGet2 (md mk mx : ME) : ME := fun env h => (md env h).bind fun d h1 => if (dictOf d h1).isSome = true then (mk env h1).bind fun k h2 => (mx env h2).bind fun x h3 => lift ((getO d k h3).map fun (o : Option D) => o.getD x) h3 else .stuck
theorem de_dget2 (hu : X.A.units + 1 < cLine) (ho : DE X o md) (he : DE X e mk) (hf : DE X f mx) (m : M2 X o "get" apos e f cpos) : DE X (.Call (.Attribute o "get" apos) [e, f] [] cpos) (eDGet2 md mk mx) :=
  ⟨fun W tk => pe_weak (pe_dget2 hu (ho.run W tk) (he.run W tk) (hf.run W tk) m) fun σ H Q q => by
    refine tE_of (f := fun env d h1 => if (dictOf d h1).isSome = true then (mk env h1).bind fun k h2 => (mx env h2).bind fun x h3 => lift ((getO d k h3).map fun (o : Option D) => o.getD x) h3 else .stuck) q fun rho env hh H1 d v R E qd p => ?_
    split at p
    · rename_i hd
      obtain ⟨a, rfl, ha⟩ := isD_of R qd hd
      refine ⟨a, rfl, ha, ?_⟩
      refine tE2_of (f := fun env d k h2 => (mx env h2).bind fun x h3 => lift ((getO d k h3).map fun (o : Option D) => o.getD x) h3) ⟨rho, env, hh, R, E, qd, p⟩ fun rho env hh H2 k u R E qd qk p => ?_
      have h3 := At.seq3 (m := mx) (f := fun env d k x h3 => lift ((getO d k h3).map fun (o : Option D) => o.getD x) h3) ⟨rho, env, hh, d, k, R, E, qd, qk, p⟩
      obtain ⟨rho3, env3, hh3, R3, E3, p3⟩ := h3
      refine ⟨rho3, env3, hh3, R3, E3, ?_⟩
      cases e3 : mx env3 hh3 with
      | stuck => rw [e3] at p3; exact p3
      | err y h1 => rw [e3] at p3; exact p3
      | ok y h1 =>
        rw [e3] at p3
        intro rho4 H4 vy S4 R4 q4
        obtain ⟨rho5, env5, hh5, d5, k5, y5, R5, E5, qd5, qk5, qy5, p5⟩ := p3 rho4 H4 vy S4 R4 q4
        obtain ⟨z, ez, p6⟩ := lift_post p5
        obtain ⟨oo, eo, rfl⟩ := Option.map_eq_some_iff.mp ez
        obtain ⟨w, g, hw⟩ := getO_of R5 qd5 qk5 eo
        refine ⟨w, g, p6.val R5 ?_⟩
        cases oo with
        | none =>
          cases w with
          | none => exact qy5
          | some v => exact hw.elim
        | some d =>
          cases w with
          | none => exact hw.elim
          | some v => exact hw
    · exact p.elim⟩
end
def k_h1 (mk mx : ME) (env : DEnv) : D → Hh → Res D := fun d h1 => if (dictOf d h1).isSome = true then (mk env h1).bind fun k h2 => (mx env h2).bind fun x h3 => lift ((getO d k h3).map fun (o : Option D) => o.getD x) h3 else .stuck
def k_h1' (mk mx : ME) (env : DEnv) (d : D) (h1 : Hh) (o : Option (List (Key × D))) : Res D := if o.isSome = true then (mk env h1).bind fun k h2 => (mx env h2).bind fun x h3 => lift ((getO d k h3).map fun (o : Option D) => o.getD x) h3 else .stuck
def k_h2 (mx : ME) (env : DEnv) (d : D) : D → Hh → Res D := fun k h2 => (mx env h2).bind fun x h3 => lift ((getO d k h3).map fun (o : Option D) => o.getD x) h3
def k_h3 (d k : D) : D → Hh → Res D := fun x h3 => lift ((getO d k h3).map fun (o : Option D) => o.getD x) h3
@[simp] theorem ev_dget2 (md mk mx : ME) (env : DEnv) (h : Hh) : eDGet2 md mk mx env h = (md env h).bind (k_h1 mk mx env) := rfl
@[simp] theorem ev_k_h1 (mk mx : ME) (env : DEnv) (d : D) (h : Hh) : k_h1 mk mx env d h = k_h1' mk mx env d h (dictOf d h) := rfl
@[simp] theorem ev_k_h1' (mk mx : ME) (env : DEnv) (d : D) (h : Hh) (kvs : List (Key × D)) : k_h1' mk mx env d h (some kvs) = (mk env h).bind (k_h2 mx env d) := rfl
@[simp] theorem ev_k_h2 (mx : ME) (env : DEnv) (d k : D) (h : Hh) : k_h2 mx env d k h = (mx env h).bind (k_h3 d k) := rfl
@[simp] theorem ev_k_h3 (d k x : D) (h : Hh) : k_h3 d k x h = lift ((getO d k h).map fun (o : Option D) => o.getD x) h := rfl
def refDict (o : Option O) : Option (List (Key × D)) := match o with | some (.dK kvs) => some kvs | _ => none
@[simp] theorem ev_dictR (i : Nat) (h : Hh) : dictOf (.ref i) h = refDict h[i]? := by
  show (match h[i]? with | some (.dK kvs) => some kvs | _ => none : Option (List (Key × D))) = _
  cases h[i]? with
  | none => rfl
  | some o => cases o <;> rfl
@[simp] theorem ev_refDict (kvs : List (Key × D)) : refDict (some (.dK kvs)) = some kvs := rfl
def getO' (o : Option (List (Key × D))) (k : Option Key) : Option (Option D) := match o, k with
  | some kvs, some key => some (getG kvs key)
  | _, _ => none
@[simp] theorem ev_getO (d k : D) (h : Hh) : getO d k h = getO' (dictOf d h) (keyD k) := rfl
@[simp] theorem ev_getO' (kvs : List (Key × D)) (k : Key) : getO' (some kvs) (some k) = some (getG kvs k) := rfl
@[simp] theorem ev_keyI (i : Int) : keyD (.int i) = some (.inl i) := rfl
@[simp] theorem ev_keyS (x : Str) : keyD (.str x) = some (.inr x) := rfl
end MR

namespace MR
open PySem PySem.Spec PyProof.Rows L2

structure En where
  g : Nat
  w : Str
  no : Nat
  lt : Option Nat
def ltD (o : Option Nat) : D := match o with | some r => .int r | none => .non
def En.d (e : En) : D := .tup [.int e.g, .str e.w, .int e.no, ltD e.lt]
structure RoomOk (n : Nat) (ws : List Str) (es : List En) : Prop where
  len : ws.length = n
  pl : ∀ w ∈ ws, w ∈ PL
  gs : ∀ e ∈ es, e.g < n
  out : ∀ e ∈ es, ws[e.g]? = some ("out" : Str)
  rw : ∀ e ∈ es, e.w = "read" ∨ e.w = "write"
  lt : ∀ e ∈ es, ∀ r, e.lt = some r → 1 ≤ r
  nd : (es.map En.g).Nodup
end MR

namespace MR
open PySem PySem.Spec PyProof.Rows L2

section
variable {X : Cx} {e : Expr} {m : ME} {pos p pos2 p2 : Pos}
end
end MR

namespace MR
open PySem PySem.Spec PyProof.Rows L2

theorem nodup_len : ∀ (n : Nat) (l : List Nat), l.Nodup → (∀ x ∈ l, x < n) → l.length ≤ n
  | 0, l, _, h => by
    cases l with
    | nil => exact Nat.le_refl _
    | cons x xs => exact absurd (h x List.mem_cons_self) (Nat.not_lt_zero _)
  | n + 1, l, nd, h => by
    by_cases hm : n ∈ l
    · have h1 := nodup_len n (l.erase n) (nd.erase n) fun x hx => by
        have h2 := (List.Nodup.mem_erase_iff nd).mp hx
        have := h x h2.2
        omega
      rw [List.length_erase_of_mem hm] at h1
      omega
    · have h1 := nodup_len n l nd fun x hx => by
        have := h x hx
        have : x ≠ n := fun e => hm (by rw [← e]; exact hx)
        omega
      omega
theorem RoomOk.few {n : Nat} {ws : List Str} {es : List En} (R : RoomOk n ws es) : es.length ≤ n := by
  have := nodup_len n (es.map En.g) R.nd fun x m => by
    obtain ⟨e, he, rfl⟩ := List.mem_map.mp m
    exact R.gs e he
  simpa using this
end MR

namespace MR
open PySem PySem.Spec PyProof.Rows L2

end MR

namespace MR
open PySem PySem.Spec PyProof.Rows L2
section
variable {X : Cx}
section
variable {CX : CXT} {k i : Nat} {f : Addr} {fd : FuncData} {ps : List Str} {sp : Sp} {E : L2.St → XK} {x : Str} {p pos : Pos} {e : Expr} {es : List Expr} {t : TA}
end
variable {k i : Nat} {f : Addr} {fd : FuncData} {ps : List Str} {F : MF} {x : Str} {p pos : Pos} {e : Expr} {es : List Expr} {ms : MA}
end
end MR

namespace MR
open PySem PySem.Spec PyProof.Rows L2

def putA {α : Type} (f : Str) (d : α) : List (Str × α) → List (Str × α)
  | [] => [(f, d)]
  | (g, y) :: r => if g = f then (g, d) :: r else (g, y) :: putA f d r
section
variable {G : Gm} {rho : Rm} {H : Hp}
theorem Fields.put {f : Str} {d : D} {v : V} (q : Den G rho H d v) : ∀ {fs : List (Str × D)} {fvs : List (Str × V)}, Fields G rho H fs fvs → Fields G rho H (putA f d fs) (putF f v fvs)
  | _, _, .nil => .cons ⟨rfl, q⟩ .nil
  | _, _, .cons (a := (g, y)) (b := (g2, z)) r t => by
    obtain ⟨e, r2⟩ := r
    have e : g = g2 := e
    subst e
    unfold putA putF
    split
    · exact .cons ⟨rfl, q⟩ t
    · exact .cons ⟨rfl, r2⟩ (Fields.put q t)
theorem Fields.get {f : Str} {d : D} : ∀ {fs : List (Str × D)} {fvs : List (Str × V)}, Fields G rho H fs fvs → fs.lookup f = some d → ∃ v, fvs.lookup f = some v ∧ Den G rho H d v
  | _, _, .nil, e => by cases e
  | _, _, .cons (a := (g, y)) (b := (g2, z)) r t, e => by
    obtain ⟨e2, r2⟩ := r
    have e2 : g = g2 := e2
    subst e2
    rw [List.lookup_cons] at e ⊢
    cases h : f == g with
    | true => rw [h] at e; cases e; exact ⟨z, rfl, r2⟩
    | false => rw [h] at e; exact Fields.get t e
theorem Fields.no {f : Str} : ∀ {fs : List (Str × D)} {fvs : List (Str × V)}, Fields G rho H fs fvs → fs.lookup f = none → fvs.lookup f = none
  | _, _, .nil, _ => rfl
  | _, _, .cons (a := (g, y)) (b := (g2, z)) r t, e => by
    obtain ⟨e2, r2⟩ := r
    have e2 : g = g2 := e2
    subst e2
    rw [List.lookup_cons] at e ⊢
    cases h : f == g with
    | true => rw [h] at e; cases e
    | false => rw [h] at e; exact Fields.no t e
theorem Fields.length {fs : List (Str × D)} {fvs : List (Str × V)} (h : Fields G rho H fs fvs) : fs.length = fvs.length := by
  induction h with
  | nil => rfl
  | cons _ _ ih => simp [ih]
end

structure Kd (K : PySem.W.Frag) (mg : Str → Option Value) (x : Str) where
  C : Addr
  cl : Cls K C
  a : PySem.W.nsIn K mainGlobals x = some (some (.ref C))
  g : mg x = some (.ref C)
  mks : PySem.W.makesIn K C = true
  kp : PySem.W.keepIn K (.ref C) = true
structure Md (K : PySem.W.Frag) (C : Addr) (m qual : Str) (st : Stmt) (ps : List Str) where
  f : Addr
  fd : FuncData
  F : Fun K m qual st f fd
  me : Meth K C m f
  b : Binds K fd ps []
section
variable {X : Cx} {x f m : Str} {e o value : Expr} {es : List Expr} {mo mv : ME} {ms : MA} {pos pos' p apos : Pos} {k : Nat} {g : Addr} {fd : FuncData} {ps : List Str} {F : MF}
end
end MR

namespace MR
open PySem PySem.Spec PyProof.Rows L2

def setN (ns : List Int) : Nat := (firstMet (fun i => ns.getD i 0) ns.length).length
section
variable {X : Cx} {a : Expr} {ta : TE} {m : ME} {p p2 q pos : Pos}
end
end MR

namespace MR
open PySem PySem.Spec PyProof.Rows L2

end MR

namespace MR
open PySem PySem.Spec PyProof.Rows L2

section
variable {X : Cx}
inductive DJ (X : Cx) : List Expr → List ME → Prop where
  | nil : DJ X [] []
  | cons {e : Expr} {m : ME} {es : List Expr} {ms : List ME} (h : DE X e m) (r : DJ X es ms) : DJ X (e :: es) (m :: ms)
end
section
variable {X : Cx} {o e : Expr} {ms mx : ME} {apos pos : Pos}
end
end MR

namespace MR
open PySem PySem.Spec PyProof.Rows L2

def XiF (K : PySem.W.Frag) (qual : Str) (st : Stmt) (fI : Addr) (fd : FuncData) : Prop := Fun K "__init__" qual st fI fd ∨ FunD K "__init__" qual (defArgs st) (defBody st) (defScope st) [.non] [] fI fd
structure Xc (K : PySem.W.Frag) (mg : Str → Option Value) (x : Str) where
  C : Addr
  a : PySem.W.nsIn K mainGlobals x = some (some (.ref C))
  g : mg x = some (.ref C)
  kp : PySem.W.keepIn K (.ref C) = true
  cl : (PySem.W.clsIn K C).isSome = true
  ga : PySem.W.findIn K (.ref C) "__getattribute__" = some (some (.builtin "BaseException.__getattribute__"))
  gt : PySem.W.findIn K (.ref C) "__getattr__" = some none
  ex : PySem.W.subIn K (.ref C) (.type "BaseException") = some true
  ty : PySem.W.typeIn K (.ref C) = some (.type "type")
  ck : PySem.W.findIn K (.ref C) "__class__" = some (some (.builtin "object.__class__"))
  cs : PySem.W.specialIn K (.builtin "object.__class__") "__get__" = some (some (.builtin "getset_descriptor.__get__"))
  ct : PySem.W.takesIn K (.builtin "object.__class__") = some true
  mo : PySem.W.mroIn K C (.type "object") = some true
  hd : PySem.W.hasDictIn K C = true
structure Xi (K : PySem.W.Frag) (C : Addr) (n1 f qual : Str) (st : Stmt) where
  T : OexC K C
  fI : Addr
  fd : FuncData
  F : XiF K qual st fI fd
  iC : PySem.W.findIn K (.ref C) "__init__" = some (some (.ref fI))
  tI : PySem.W.typeIn K (.ref fI) = some (.type "function")
  b : Binds K fd [n1, f] []
  no : PySem.W.findIn K (.ref C) f = some none
structure Xp (K : PySem.W.Frag) (C : Addr) where
  bm : List Value
  q : PySem.W.excIn K C bm "ValueError.__new__" = true
  F : ExcBaseFacts "ValueError" "ValueError.__new__" "ValueError.__init__" bm
structure Xb (K : PySem.W.Frag) (C : Addr) where
  mc : Value
  r : ClX.CRead K C mc
  k : PySem.W.findCls K (.ref C) mc "__init__" = some (.val (.builtin "ValueError.__init__"))

abbrev MX := DEnv → Hh → Res Exn
def PostX (G : Gm) (rho : Rm) (H : Hp) (r : Res Exn) (Q : XK) : Prop :=
  match r with
  | .ok x hh => ∀ rho' H' c d, Step rho H rho' H' → Rep G rho' hh H' → ExD G rho' H' x c d → Q c d H'
  | _ => False
def TDx (G : Gm) (m : MX) : L2.St → Hp → XK → Prop := fun σ H Q => ∃ rho env hh, Rep G rho hh H ∧ EnvD G rho H env σ ∧ PostX G rho H (m env hh) Q
structure DX (X : Cx) (e : Expr) (m : MX) : Prop where
  run : ∀ W, Takes X W → PMk X e (TDx (Cx.gm X) m)
section
variable {X : Cx} {e : Expr} {m : ME} {x f w1 : Str} {p pos : Pos}
end

def RS.calm : RS → RS
  | .er _ _ _ => .stuck
  | r => r
section
variable {X : Cx} {body suite : List Stmt} {b₀ : Stmt} {x c : Str} {np pos pos' : Pos} {mb ms : MS} {cs : List Str}
end
end MR

set_option maxHeartbeats 1000000
namespace MR
open PySem PySem.Spec PyProof.Rows L2
section
variable {X : Cx} {pins : List (Addr × Obj)} {σ : L2.St} {H : Hp} {s : Shared} {a : Addr} {oe : Obj} {vs : Array Value} {c : Value} {d : Option Addr}
end
section
variable {X : Cx} {x n : Str} {c : Value} {i j : Nat} {body suite : List Stmt} {b₀ : Stmt} {np pos pos' : Pos} {tb : WX → TS} {Wout : WX}
end
section
variable {X : Cx} {body : List Stmt} {n k c : Str} {np np2 kp ap pos pos' : Pos} {mb : MS} {cs : List Str} {i j : Nat}
end
end MR

namespace MR
open PySem PySem.Spec PyProof.Rows L2

section
variable {X : Cx} {pins : List (Addr × Obj)} {σ : L2.St} {H : Hp} {s : Shared} {a C : Addr} {d : Option Addr}
end
section
variable {X : Cx}
end
end MR

namespace MR
open PySem PySem.Spec PyProof.Rows L2
section
variable {K : PySem.W.Frag} {mg : Str → Option Value} {h : Heap}
end
section
variable {K : PySem.W.Frag} {mg : Str → Option Value} {x c : Str}
end
end MR

namespace MR
open PySem PySem.Spec PyProof.Rows L2
@[simp] theorem ev_calm_nx (env : DEnv) (h : Hh) : (RS.nx env h).calm = .nx env h := rfl
@[simp] theorem ev_calm_rt (d : D) (h : Hh) : (RS.rt d h).calm = .rt d h := rfl
@[simp] theorem ev_outR_er (x : Exn) (env : DEnv) (h : Hh) : outR (.er x env h) = .err x h := rfl
end MR

namespace MR
open PySem PySem.Spec PyProof.Rows L2
section
variable {X : Cx} {pos : Pos}
end
end MR

namespace MR
open PySem PySem.Spec PyProof.Rows L2
mutual
/-- a key, as it stands -/
def NkV (K : PySem.W.Frag) (H : Hp) : NestedKey → V → Prop
  | .none, v => v = .non
  | .num i, v => v = .int i ∨ ∃ b : Bool, v = .bl b ∧ i = if b = true then 1 else 0
  | .text x, v => v = .str x
  | .tup ks, v => ∃ a vs, v = .ref a ∧ SqTS K H a vs ∧ NkVs K H ks vs
def NkVs (K : PySem.W.Frag) (H : Hp) : List NestedKey → List V → Prop
  | [], vs => vs = []
  | k :: ks, vs => ∃ v r, vs = v :: r ∧ NkV K H k v ∧ NkVs K H ks r
end
mutual
theorem nkv_of {G : Gm} {rho : Rm} {H : Hp} : ∀ (d : D) (v : V) (k : NestedKey), Den G rho H d v → nk d = some k → NkV G.K H k v
  | .non, v, k, q, e => by rw [nk] at e; cases e; exact q
  | .bl b, v, k, q, e => by
    rw [nk] at e
    cases e
    rw [NkV]
    exact .inr ⟨b, q, rfl⟩
  | .int i, v, k, q, e => by
    rw [nk] at e
    cases e
    rw [NkV]
    exact .inl q
  | .str x, v, k, q, e => by rw [nk] at e; cases e; exact q
  | .tup ds, v, k, q, e => by
    rw [nk] at e
    obtain ⟨ks, e1, rfl⟩ := Option.map_eq_some_iff.mp e
    rw [Den] at q
    obtain ⟨a, vs, e2, q1, l, q2⟩ := q
    rw [NkV]
    exact ⟨a, vs, e2, q1, nkvs_of ds vs ks q2 e1⟩
  | .wtp _, v, k, q, e => by rw [nk] at e; cases e
  | .lst _, v, k, q, e => by rw [nk] at e; cases e
  | .ref _, v, k, q, e => by rw [nk] at e; cases e
  | .glb _, v, k, q, e => by rw [nk] at e; cases e
  | .scr _, v, k, q, e => by rw [nk] at e; cases e
  | .dct _ _, v, k, q, e => by rw [nk] at e; cases e
theorem nkvs_of {G : Gm} {rho : Rm} {H : Hp} : ∀ (ds : List D) (vs : List V) (ks : List NestedKey), Dens G rho H ds vs → nks ds = some ks → NkVs G.K H ks vs
  | [], vs, ks, q, e => by rw [nks] at e; cases e; exact q
  | d :: ds, vs, ks, q, e => by
    rw [nks] at e
    rw [Dens] at q
    obtain ⟨v, r, rfl, q1, q2⟩ := q
    cases e1 : nk d with
    | none => rw [e1] at e; cases e
    | some k =>
      cases e2 : nks ds with
      | none => rw [e1, e2] at e; cases e
      | some ks' =>
        rw [e1, e2] at e
        cases e
        rw [NkVs]
        exact ⟨v, r, rfl, nkv_of d v k q1 e1, nkvs_of ds r ks' q2 e2⟩
end
section
variable {X : Cx} {pins : List (Addr × Obj)} {σ : L2.St} {H : Hp} {s : Shared}
mutual
theorem nkv_is (I : Inv X pins σ H s) : ∀ (k : NestedKey) (v : V) (u : Value), NkV X.K H k v → RelV v u → NestedIs s.heap k u
  | .none, v, u, q, r => by
    rw [NkV] at q
    subst q
    cases (show u = Value.none from r)
    exact .none
  | .num i, v, u, q, r => by
    rw [NkV] at q
    rcases q with rfl | ⟨b, rfl, e⟩
    · obtain ⟨t, rfl⟩ := (show ∃ t, u = Value.int i t from r)
      exact .int i t
    · cases (show u = Value.bool b from r)
      exact .bool e
  | .text x, v, u, q, r => by
    rw [NkV] at q
    subst q
    obtain ⟨t, rfl⟩ := (show ∃ t, u = Value.str x t from r)
    exact .text x t
  | .tup ks, v, u, q, r => by
    rw [NkV] at q
    obtain ⟨a, vs, rfl, sq, q2⟩ := q
    cases (show u = Value.ref a from r)
    obtain ⟨its, rv, ⟨o, ho, hc, n, hd⟩, _⟩ := I.tuple sq.t
    exact .tup ho hc hd (by
      have : its.toArray.toList = its := by simp
      rw [this]
      exact nkvs_is I ks vs its q2 rv)
theorem nkvs_is (I : Inv X pins σ H s) : ∀ (ks : List NestedKey) (vs : List V) (us : List Value), NkVs X.K H ks vs → Vals vs us → NestedAll s.heap ks us
  | [], vs, us, q, r => by
    rw [NkVs] at q
    subst q
    cases r
    exact .nil
  | k :: ks, vs, us, q, r => by
    rw [NkVs] at q
    obtain ⟨v, rs, rfl, q1, q2⟩ := q
    cases r with
    | cons r1 r2 => exact .cons (nkv_is I k v _ q1 r1) (nkvs_is I ks rs _ q2 r2)
end
end
structure DnV (P : Program) (w : World) (K : PySem.W.Frag) (H : Hp) (d : Addr) (xs : List (NestedKey × Addr × Value)) : Prop where
  lo : (d == sysModules) = false
  few : xs.length ≤ sizeLine
  ex : ∃ es, H d = some (.ext (dictRaw d es)) ∧ es.toList = xs.map (entryOfKey (nestedKind P w))
  nd : (xs.map (·.1)).Nodup
  is : ∀ x ∈ xs, NkV K H x.1 (.ref x.2.1) ∧ x.1.depth ≤ 8
theorem DnV.at {X : Cx} {pins : List (Addr × Obj)} {σ : L2.St} {H : Hp} {s : Shared} (I : Inv X pins σ H s) {d : Addr} {xs : List (NestedKey × Addr × Value)} (h : DnV X.prog X.w X.K H d xs) : s.heap.DictOfH (nestedKind X.prog X.w) d xs := by
  obtain ⟨es, e1, e2⟩ := h.ex
  have x : ObjOk X.prog X.w H s.heap d (.ext (dictRaw d es)) := I.hok d _ e1
  obtain ⟨⟨o, h1, h2, h3⟩, _, _⟩ := x
  exact ⟨o, es.arr, es.ep, h1, h2, h3, e2, fun y hy => ⟨nkv_is I y.1 _ _ (h.is y hy).1 rfl, (h.is y hy).2⟩, h.nd⟩
abbrev DnR (G : Gm) (rho : Rm) (H : Hp) : List (D × D) → List (NestedKey × Addr × Value) → Prop := Paired (fun (p : D × D) (q : NestedKey × Addr × Value) => nk p.1 = some q.1 ∧ Den G rho H p.1 (.ref q.2.1) ∧ ∃ v, RelV v q.2.2 ∧ Den G rho H p.2 v)
def keyN (d : D) : Option NestedKey := match d with
  | .tup ds => match nks ds with
    | some ks => if (NestedKey.tup ks).depth ≤ 8 then some (.tup ks) else none
    | none => none
  | _ => none
theorem keyN_some {d : D} {k : NestedKey} (h : keyN d = some k) : nk d = some k ∧ k.depth ≤ 8 ∧ ∃ ds, d = .tup ds := by
  unfold keyN at h
  split at h
  · rename_i ds
    split at h
    · rename_i ks e
      split at h
      · rename_i hd
        cases h
        exact ⟨by rw [nk, e]; rfl, hd, ds, rfl⟩
      · cases h
    · cases h
  · cases h
def getN (kvs : List (D × D)) (k : NestedKey) : Option D := (kvs.find? fun p => decide (nk p.1 = some k)).map (·.2)
def hasN (kvs : List (D × D)) (k : NestedKey) : Bool := kvs.any fun p => decide (nk p.1 = some k)
def putN (kvs : List (D × D)) (kd : D) (k : NestedKey) (v : D) : List (D × D) := if hasN kvs k = true then kvs.map (fun p => if nk p.1 = some k then (p.1, v) else p) else kvs ++ [(kd, v)]
section
variable {G : Gm} {rho : Rm} {H : Hp} {kvs : List (D × D)} {xs : List (NestedKey × Addr × Value)} {k : NestedKey}
theorem DnR.get (h : DnR G rho H kvs xs) {d : D} (e : getN kvs k = some d) : ∃ p : Addr × Value, atKey xs k = some p ∧ ∃ v, RelV v p.2 ∧ Den G rho H d v := by
  induction h with
  | nil => cases e
  | @cons p q ps qs r t ih =>
    unfold getN at e
    rw [List.find?_cons] at e
    by_cases hk : nk p.1 = some k
    · simp only [hk, decide_true, Option.map_some, Option.some.injEq] at e
      subst e
      have : q.1 = k := by
        have := r.1.symm.trans hk
        exact Option.some.inj this
      refine ⟨q.2, ?_, r.2.2⟩
      unfold atKey
      rw [List.find?_cons, decide_eq_true this]; rfl
    · have : decide (nk p.1 = some k) = false := decide_eq_false hk
      rw [this] at e
      obtain ⟨z, e1, e2⟩ := ih e
      refine ⟨z, ?_, e2⟩
      unfold atKey at e1 ⊢
      rw [List.find?_cons, decide_eq_false (fun z => hk (by rw [r.1, z]))]
      exact e1
theorem DnR.has (h : DnR G rho H kvs xs) : (atKey xs k).isSome = hasN kvs k := by
  induction h with
  | nil => rfl
  | @cons p q ps qs r t ih =>
    unfold hasN atKey at ih ⊢
    rw [List.find?_cons, List.any_cons]
    by_cases hk : q.1 = k
    · rw [decide_eq_true hk, decide_eq_true (by rw [r.1, hk] : nk p.1 = some k)]; rfl
    · rw [decide_eq_false hk, decide_eq_false (fun z => hk (Option.some.inj (r.1.symm.trans z)) : ¬ nk p.1 = some k)]
      exact ih
theorem DnR.put (h : DnR G rho H kvs xs) {kd d : D} {a : Addr} {u : Value} {v : V} (ek : nk kd = some k) (qk : Den G rho H kd (.ref a)) (rv : RelV v u) (qd : Den G rho H d v) : DnR G rho H (putN kvs kd k d) (storedH xs k a u) := by
  unfold putN storedH
  rw [← h.has]
  split
  · rename_i hs
    clear hs
    induction h with
    | nil => exact .nil
    | @cons p q ps qs r t ih =>
      rw [List.map_cons, List.map_cons]
      refine .cons ?_ ih
      unfold putAt
      by_cases hk : q.1 = k
      · rw [if_pos hk, if_pos (by rw [r.1, hk])]
        exact ⟨r.1, r.2.1, v, rv, qd⟩
      · rw [if_neg hk, if_neg (fun z => hk (Option.some.inj (r.1.symm.trans z)))]
        exact r
  · have app : ∀ {a : List (D × D)} {b : List (NestedKey × Addr × Value)} {a2 b2}, DnR G rho H a b → DnR G rho H a2 b2 → DnR G rho H (a ++ a2) (b ++ b2) := by
      intro a b a2 b2 h h2
      induction h with
      | nil => exact h2
      | cons r t ih => exact .cons r ih
    exact app h (.cons ⟨ek, qk, v, rv, qd⟩ .nil)
end
section
variable {X : Cx}
end
theorem raw_ok {P : Program} {w : World} {H : Hp} {h : Heap} {d : Addr} {es : DEs} (x : dictRaw d es h) : ObjOk P w H h d (.ext (dictRaw d es)) := by
  obtain ⟨o, h1, h2, h3⟩ := x
  exact ⟨⟨o, h1, h2, h3⟩, ⟨o, h1⟩, fun g1 g2 ⟨o1, z1, z2, z3⟩ k => ⟨o1, k _ z1, z2, z3⟩⟩
theorem DnR.step {G : Gm} {rho rho' : Rm} {H H' : Hp} {hh : Hh} (R : Rep G rho hh H) (S : Step rho H rho' H') {a : List (D × D)} {b : List (NestedKey × Addr × Value)} (h : DnR G rho H a b) : DnR G rho' H' a b :=
  Paired.mapP h fun p q r => ⟨r.1, Den.step R S _ _ r.2.1, let ⟨v, r1, r2⟩ := r.2.2; ⟨v, r1, Den.step R S _ _ r2⟩⟩
def tDNewN : TE := fun _ H Q => ∀ p, H p = none → (p == sysModules) = false → Q (.ref p) (upd H p (.ext (dictRaw p .nil)))
theorem raw_new (h : Heap) : dictRaw h.objs.size .nil (h.push { cls := .type "dict", data := .dict #[] }) := ⟨_, Heap.get?_push_size _ rfl, ⟨rfl, rfl, rfl⟩, rfl⟩
theorem pe_dnewN {X : Cx} {pos : Pos} : PE X (.Dict [] [] pos) tDNewN := ⟨fun pins s σ H Q I h =>
  wpAny_Dict_empty ⟨.ref s.heap.objs.size, _, I.laid (a := s.heap.objs.size) (o := .ext (dictRaw s.heap.objs.size .nil)) (t' := s.toks) (fun _ _ q => Heap.get?_push_of_some _ q) (Nat.le_refl _) (raw_ok (raw_new s.heap)), rfl, h _ (I.hok.fresh (Nat.le_refl _)) (beq_eq_false_iff_ne.mpr (Ne.symm (Nat.ne_of_lt I.big)))⟩⟩
end MR

namespace MR
open PySem PySem.Spec PyProof.Rows L2
theorem Dict_oneH {prog : Program} {w : World} {K : Type} [DecidableEq K] {knd : HeapKind prog w K} {A : Around} {E : Value → Shared → Prop} {s : Shared} {env : Env} {keys : List (Option Expr)} {values : List Expr} {pos : Pos} {pairs : List (Sem Value × Sem Value)} {Q : Value → Shared → Prop} (hu : knd.room A)
    (hshape : (evalEachOpt keys env).zip ((evalEach values env).map fun v => do let x ← v; standAt pos; pure x) = pairs.map fun p => (some p.1, p.2)) (h0 : pairs ≠ []) (hlen : pairs.length ≤ 15)
    (h : wpAny (model prog w) A (evalPairs pairs) (fun vs s₁ => ∃ ps, CarriesH knd s₁.heap vs ps ∧ s₁.heap.DictOfH knd s.heap.objs.size [] ∧
      ∀ h' tk, h'.DictOfH knd s.heap.objs.size (storedAllH [] ps) → Heap.SameBut s.heap.objs.size s₁.heap h' → Q (.ref s.heap.objs.size) { s₁ with heap := h', toks := tk }) E
      { s with heap := s.heap.push { cls := .type "dict", data := .dict #[] } }) :
    wpAny (model prog w) A (eval (.Dict keys values pos) env) Q E s := by
  rw [arm_eval_Dict, hshape, dictDisplay_pairs pairs h0 (by omega)]
  exact wpAny_bind (wpAny_standAt (wpAny_bind (wpAny_subDictH (knd := knd) (Q := fun d s' => wpAny (model prog w) A (pure (Value.ref d)) Q E s') hu hlen
    (wpAny_mono h (fun vs s₁ h₁ => by obtain ⟨ps, hc, hm, hq⟩ := h₁; exact ⟨ps, hc, hm, fun h' tk a b => wpAny_pure (hq h' tk a b)⟩) fun _ _ e => e))))
def tDisp1N (P : Program) (w : World) (K : PySem.W.Frag) (tk tv : TE) : TE := fun σ H Q => ∀ p, H p = none → (p == sysModules) = false → tk σ (upd H p (.ext (dictRaw p .nil))) fun x H1 => tv σ H1 fun y H2 => H2 p = some (.ext (dictRaw p .nil)) ∧
  ∃ (a : Addr) (k : NestedKey), x = .ref a ∧ NkV K H2 k (.ref a) ∧ k.depth ≤ 8 ∧ ∀ (u : Value) (es : DEs), RelV y u → es.toList = [(k, a, u)].map (entryOfKey (nestedKind P w)) → Q (.ref p) (upd H2 p (.ext (dictRaw p es)))
theorem raw_dictOf {prog : Program} {w : World} {h : Heap} {p : Addr} (x : dictRaw p .nil h) : h.DictOfH (nestedKind prog w) p [] := by
  obtain ⟨o, h1, h2, h3⟩ := x
  exact ⟨o, #[], 0, h1, h2, h3, rfl, (fun _ hx => nomatch hx), List.nodup_nil⟩
theorem pe_disp1N {X : Cx} {k v : Expr} {tk tv : TE} {pos : Pos} (hu : X.A.units + 65 < cLine) (hk : PE X k tk) (hv : PE X v tv) : PE X (.Dict [some k] [v] pos) (tDisp1N X.prog X.w X.K tk tv) := by
  refine ⟨fun pins s σ H Q I q => ?_⟩
  have hn := I.hok.fresh (Nat.le_refl s.heap.objs.size)
  have I1 := I.laid (a := s.heap.objs.size) (o := .ext (dictRaw s.heap.objs.size .nil)) (h' := s.heap.push { cls := .type "dict", data := .dict #[] }) (t' := s.toks) (fun _ _ q => Heap.get?_push_of_some _ q) (Nat.le_refl _) (raw_ok (raw_new s.heap))
  have hb : (s.heap.objs.size == sysModules) = false := beq_eq_false_iff_ne.mpr (Ne.symm (Nat.ne_of_lt I.big))
  have hr : (nestedKind X.prog X.w).room X.A := by show X.A.units + 8 < cLine; omega
  refine Dict_oneH (pairs := pairTrees [some k] [v] X.env pos) hr (zip_pairTrees [some k] [v] X.env pos rfl rfl) (by intro z; cases z) (by show 1 ≤ 15; decide) ?_
  refine pairTrees_cons_walk (thn (hk.run pins _ σ _ _ I1 (q _ hn hb)) fun uk s1 ⟨x, H1, I2, rx, q1⟩ => thn (hv.run pins s1 σ H1 _ I2 q1) fun uv s2 ⟨y, H2, I3, ry, e, a, key, ex, nkv, dp, q2⟩ => ?_)
  subst ex
  obtain rfl : uk = Value.ref a := rx
  refine pairTrees_nil_walk ⟨[(key, a, uv)], ⟨rfl, rfl, ⟨nkv_is I3 key _ _ nkv rfl, dp⟩, True.intro⟩, raw_dictOf (I3.hok _ _ e).1, fun h' tk hd hs => ?_⟩
  obtain ⟨o', es', ep', ho', hc', hd', he', his', hn'⟩ := hd
  refine ⟨.ref s.heap.objs.size, _, ?_, rfl, q2 uv ⟨es', ep'⟩ ry he'⟩
  exact d_write I3 (by rw [e]; exact True.intro) hs ⟨o', ho'⟩ (raw_ok ⟨o', ho', hc', hd'⟩)
def eDisp1N (mk mv : ME) : ME := fun env h => (mk env h).bind fun k h1 => (mv env h1).bind fun v h2 => if (keyN k).isSome = true then .ok (.ref h2.length) (h2 ++ [.dN [(k, v)]]) else .stuck
theorem de_disp1N {X : Cx} {k v : Expr} {mk mv : ME} {pos : Pos} (hu : X.A.units + 65 < cLine) (hk : DE X k mk) (hv : DE X v mv) : DE X (.Dict [some k] [v] pos) (eDisp1N mk mv) :=
  ⟨fun W tk => pe_weak (pe_disp1N hu (hk.run W tk) (hv.run W tk)) fun σ H Q ⟨rho, env, hh, R, E, p⟩ pp hp hb => by
    obtain ⟨S0, R0, na⟩ := new_held (o := .ext (dictRaw pp .nil)) R hp
    refine ⟨rho.hold pp, env, hh, R0, E.step R S0, ?_⟩
    unfold eDisp1N at p
    cases e1 : mk env hh with
    | stuck => rw [e1] at p; exact p
    | err x h1 => rw [e1] at p; exact p.start S0
    | ok k1 h1 =>
      rw [e1, bind_ok] at p
      intro rho1 H1 vk S1 R1 q1
      refine ⟨rho1, env, h1, R1, (E.step R S0).step R0 S1, ?_⟩
      cases e2 : mv env h1 with
      | stuck => rw [e2] at p; exact p
      | err x h2 => rw [e2] at p; exact p.start (S0.trans S1)
      | ok v1 h2 =>
        rw [e2, bind_ok] at p
        intro rho2 H2 vv S2 R2 q2
        have S12 := S1.trans S2
        have hkk : H2 pp = some (.ext (dictRaw pp .nil)) := S12.keep pp _ upd_same na
        have hr : pp ∈ rho2.res := S12.kept pp List.mem_cons_self
        have ha : pp ∉ rho2.at_ := S12.out upd_same na
        split at p
        · rename_i hs
          obtain ⟨key, ek⟩ := Option.isSome_iff_exists.mp hs
          obtain ⟨z1, z2, ds, rfl⟩ := keyN_some ek
          have qk := Den.step R1 S2 _ _ q1
          have nkv := nkv_of _ _ _ qk z1
          have qk' := qk
          rw [Den] at qk'
          obtain ⟨a, vs, rfl, _⟩ := qk'
          refine ⟨hkk, a, key, rfl, nkv, z2, fun u es ru he => ?_⟩
          have S3 : Step rho H rho2 (upd H2 pp (.ext (dictRaw pp es))) := (S0.trans S12).since hp
          have R3 := R2.putH (o2 := .ext (dictRaw pp es)) hkk True.intro hr ha
          obtain ⟨ht, hl, hf⟩ := putH (G := Cx.gm X) (o2 := .ext (dictRaw pp es)) hkk True.intro hr
          refine p _ _ _ (S3.turn hp) (R3.turn hr ha ⟨[(key, a, u)], hb, (by rw [sizeLine_eq]; show 1 ≤ 16777216; decide), es, upd_same, .cons ⟨z1, den_same ht hl hf _ _ qk, vv, ru, den_same ht hl hf _ _ q2⟩ .nil, he, by simp, fun x hx => by
            rw [List.mem_singleton] at hx
            rw [hx]; exact z2⟩) ?_
          rw [Den]
          exact ⟨pp, by rw [← R3.len]; show (rho2.at_ ++ [pp])[_]? = _; rw [List.getElem?_append_right (Nat.le_refl _)]; simp, rfl⟩
        · exact p.elim⟩
def OptN (G : Gm) (rho : Rm) (H : Hp) : Option D → Option Value → Prop
  | some d, some u => ∃ v, RelV v u ∧ Den G rho H d v
  | none, none => True
  | _, _ => False
theorem DnR.getO {G : Gm} {rho : Rm} {H : Hp} {kvs : List (D × D)} {xs : List (NestedKey × Addr × Value)} {k : NestedKey} (h : DnR G rho H kvs xs) : OptN G rho H (getN kvs k) ((atKey xs k).map (·.2)) := by
  induction h with
  | nil => trivial
  | @cons p q ps qs r t ih =>
    unfold getN atKey at ih ⊢
    rw [List.find?_cons, List.find?_cons]
    by_cases hk : q.1 = k
    · rw [decide_eq_true hk, decide_eq_true (by rw [r.1, hk] : nk p.1 = some k)]
      exact r.2.2
    · rw [decide_eq_false hk, decide_eq_false (fun z => hk (Option.some.inj (r.1.symm.trans z)) : ¬ nk p.1 = some k)]
      exact ih
section
variable {X : Cx} {pins : List (Addr × Obj)} {σ : L2.St} {H : Hp} {s : Shared} {a : Addr}
end
section
variable {X : Cx} {o e f : Expr} {apos cpos : Pos} {td ty tx : TE}
end
section
variable {X : Cx} {o e f : Expr} {apos cpos : Pos} {md mk mx : ME}
end
end MR

namespace MR
open PySem PySem.Spec PyProof.Rows L2
end MR

namespace MR
open PySem PySem.Spec PyProof.Rows L2
end MR

namespace MR
open PySem PySem.Spec PyProof.Rows L2
section
variable {X : Cx} {e : Expr} {m : ME} {pos p : Pos} {x : Str}
end
end MR

namespace MR
open PySem PySem.Spec PyProof.Rows L2
end MR

namespace MR
open PySem PySem.Spec PyProof.Rows L2
section
variable {G : Gm} {rho : Rm} {H : Hp}
end
end MR

namespace PySem
open Spec PyProof.Rows
end PySem
namespace MR
open PySem PySem.Spec PyProof.Rows L2
section
variable {X : Cx} {pins : List (Addr × Obj)} {σ : L2.St} {H : Hp} {s : Shared}
end
end MR

namespace MR
open PySem PySem.Spec PyProof.Rows L2
end MR

namespace MR
open PySem PySem.Spec PyProof.Rows L2
section
variable {X : Cx} {pins : List (Addr × Obj)} {σ : L2.St} {H : Hp} {s : Shared}
end
section
variable {G : Gm} {rho : Rm} {H : Hp} {hh : Hh}
end
section
variable {X : Cx} {e : Expr} {m : ME} {pos p : Pos} {x : Str}
end
end MR

namespace MR
open PySem PySem.Spec PyProof.Rows L2
section
variable {X : Cx} {o e : Expr} {ma mb : ME} {apos pos : Pos}
end
section
variable {X : Cx} {e : Expr} {m : ME} {pos p : Pos} {x : Str}
end
end MR

namespace MR
open PySem PySem.Spec PyProof.Rows L2
end MR

namespace MR
open PySem PySem.Spec PyProof.Rows L2
def turned (i : Int) {α : Type} (xs : List α) : List α := if i = -1 then xs.reverse else xs
theorem Dens.turned {G : Gm} {rho : Rm} {H : Hp} {ds : List D} {vs : List V} (i : Int) (z : Dens G rho H ds vs) : Dens G rho H (turned i ds) (turned i vs) := by
  unfold MR.turned
  split
  · exact z.reverse
  · exact z
end MR

namespace MR
open PySem PySem.Spec PyProof.Rows L2
end MR

namespace MR
open PySem PySem.Spec PyProof.Rows L2
def eDict0S : ME := fun _ h => .ok (.dct [] []) h
theorem de_dict0S {X : Cx} {pos : Pos} : DE X (.Dict [] [] pos) eDict0S := ⟨fun W tk => pe_weak pe_dnewN fun σ H Q ⟨rho, env, hh, R, E, p⟩ pp hp hb => by
  have S0 : Step rho H rho (upd H pp (.ext (dictRaw pp .nil))) := .laid hp
  have R0 : Rep (Cx.gm X) rho hh (upd H pp (.ext (dictRaw pp .nil))) := R.laid hp
  have na : pp ∉ rho.at_ := fun hm => by
    obtain ⟨u, e, _⟩ := R.mut hm
    rw [hp] at e; cases e
  have nr : pp ∉ rho.res := fun hm => by
    obtain ⟨u, e⟩ := R.hd pp hm
    rw [hp] at e; cases e
  obtain ⟨us, f1, f2, f3, f4⟩ := dn_split (.nil : DnR (Cx.gm X) rho (upd H pp (.ext (dictRaw pp .nil))) [] [])
  refine p _ _ _ S0 R0 ?_
  rw [Den]
  exact ⟨pp, [], .nil, us, rfl, upd_same, na, nr, hb, Nat.zero_le _, f1, f2, rfl, List.nodup_nil, (fun x hx => nomatch hx), f3, f4⟩⟩
@[simp] theorem ev_dict0S (env : DEnv) (h : Hh) : eDict0S env h = .ok (.dct [] []) h := rfl
end MR

namespace MR
open PySem PySem.Spec PyProof.Rows L2
end MR

namespace MR
open PySem PySem.Spec PyProof.Rows L2
section
variable {prog : Program} {w : World} {A : Around} {E : Value → Shared → Prop} {s : Shared} {d : Addr} {o : Obj} {es : Array DictEntry} {ep : Nat} {hN : Int}
end
section
variable {X : Cx}
end
section
variable {X : Cx} {pos p1 p2 : Pos}
section
variable {CX : CXT} {k : Nat} {f : Addr} {fd : FuncData} {ps : List Str} {sp : Sp} {E : L2.St → XK} {a b e : Expr} {es : List Expr} {tc : TE} {t : TA}
end
end
end MR

set_option maxHeartbeats 1000000
namespace MR
open PySem PySem.Spec PyProof.Rows L2

structure SrcM where
  items : List D
  lives : List (Nat × List D)
def gsOk (gs : List (Nat × List D)) (h : Hh) : Prop := ∀ g ∈ gs, h[g.1]? = some (.lst g.2)
abbrev MIM := DEnv → Hh → Res SrcM
def WalkM (G : Gm) (rho1 : Rm) (H1 : Hp) (src : SrcM) (J : It) : Prop := src.items.length ≤ sizeLine ∧ ∀ rho hh H, Step rho1 H1 rho H → Rep G rho hh H → gsOk src.lives hh →
  (∀ i, i < src.items.length → J.go i H) ∧ J.stop src.items.length H ∧ ∀ i d x H', src.items[i]? = some d → J.yld i H x H' → Step rho H rho H' ∧ Rep G rho hh H' ∧ Den G rho H' d x
def TDiM (G : Gm) (W : WX) (m : MIM) : TI := fun σ H R => ∃ rho env hh, Rep G rho hh H ∧ EnvD G rho H env σ ∧ PostE G (WalkM G) (wAt W σ) rho H (m env hh) R
structure DIM (X : Cx) (tg iter : Expr) (m : MIM) : Prop where
  run : ∀ W, Takes X W → PI X tg iter (TDiM (Cx.gm X) W m)
open Classical in
section
variable {X : Cx} {G : Gm} {W : WX}
end

section
variable {X : Cx} {G : Gm} {rho : Rm} {hh : Hh} {H : Hp}
end
end MR

namespace MR
open PySem PySem.Spec PyProof.Rows L2
section
variable {X : Cx} {e : Expr} {m : ME} {pos p2 : Pos}
end
end MR

namespace MR
open PySem PySem.Spec PyProof.Rows L2
end MR

set_option maxHeartbeats 1000000
namespace MR
open PySem PySem.Spec PyProof.Rows L2
def Res.calm {α : Type} : Res α → Res α
  | .err _ _ => .stuck
  | r => r
structure DSN (X : Cx) (st : Stmt) (m : MS) : Prop where
  run : ∀ W, L2N.Takes X W → PS X st (TDs (Cx.gm X) W m)
structure DSNs (X : Cx) (st : List Stmt) (m : MS) : Prop where
  run : ∀ W, L2N.Takes X W → PSs X st (TDs (Cx.gm X) W m)
structure DXN (X : Cx) (e : Expr) (m : MX) : Prop where
  run : L2N.PMk X e (TDx (Cx.gm X) m)
def FnDN (P : Program) (w : World) (K : PySem.W.Frag) (mg : Str → Option Value) (base : Heap) (k : Nat) (f : Addr) (fd : FuncData) (ps : List Str) (F : MF) : Prop :=
  FnOk P w K mg base (L2N.CX P w) k f fd ps (spD ⟨P, w, K⟩ ps.length F)
section
variable {X : Cx} {st : Stmt} {rest : List Stmt} {m ms ms' : MS} {pos : Pos}
end
section
variable {X : Cx} {e : Expr} {es : List Expr} {ta : TA} {p pos : Pos}
end
section
variable {X : Cx} {e : Expr} {m : ME} {x f w1 : Str} {p pos : Pos}
end
section
variable {P : Program} {w : World} {K : PySem.W.Frag} {mg : Str → Option Value} {base : Heap}
end
section
variable {X : Cx} {k : Nat} {f : Addr} {fd : FuncData} {ps : List Str} {F : MF} {x g : Str} {p pos : Pos} {e : Expr} {es : List Expr} {ms : MA}
end
structure DSHs (X : Cx) (st : List Stmt) (m : MS) : Prop where
  run : L2H.HotC X → ∀ W, Takes X W → PSs X st (TDs (Cx.gm X) W m)
section
variable {X : Cx} {body suite : List Stmt} {b₀ : Stmt} {x c : Str} {np pos pos' : Pos} {mb ms : MS} {cs : List Str}
end
@[simp] theorem ev_calm_ok {α : Type} (a : α) (h : Hh) : (Res.ok a h).calm = .ok a h := rfl
@[simp] theorem ev_calm_err {α : Type} (x : Exn) (h : Hh) : (Res.err x h : Res α).calm = .stuck := rfl
@[simp] theorem ev_scalm_nx (e : DEnv) (h : Hh) : (RS.nx e h).calm = .nx e h := rfl
@[simp] theorem ev_scalm_rt (d : D) (h : Hh) : (RS.rt d h).calm = .rt d h := rfl
@[simp] theorem ev_scalm_bk (e : DEnv) (h : Hh) : (RS.bk e h).calm = .bk e h := rfl
@[simp] theorem ev_scalm_ct (e : DEnv) (h : Hh) : (RS.ct e h).calm = .ct e h := rfl
end MR

set_option maxHeartbeats 1000000
namespace MR
open PySem PySem.Spec PyProof.Rows L2
section
variable {X : Cx} {o : Expr} {mo : ME} {pos apos : Pos}
end
end MR

set_option maxHeartbeats 1000000
namespace MR
open PySem PySem.Spec PyProof.Rows L2
section
variable {X : Cx} {e : Expr} {m : ME} {pos p : Pos} {x : Str}
end
end MR

set_option maxHeartbeats 1000000
namespace MR
open PySem PySem.Spec PyProof.Rows L2
section
variable {X : Cx} {e : Expr} {m : ME} {x f w1 : Str} {p pos : Pos}
end
section
variable {X : Cx} {k : Nat} {f : Addr} {fd : FuncData} {ps : List Str} {F : MF} {x : Str} {p pos cp : Pos} {e tg : Expr} {es : List Expr} {ms : MA} {g : MG}
end
end MR

set_option maxHeartbeats 1000000
namespace MR
open PySem PySem.Spec PyProof.Rows L2
section
variable {X : Cx} {o e : Expr} {mo ma mb : ME} {pos apos : Pos}
end
end MR

set_option maxHeartbeats 1000000
namespace MR
open PySem PySem.Spec PyProof.Rows L2
end MR

set_option maxHeartbeats 1000000
namespace MR
open PySem PySem.Spec PyProof.Rows L2
end MR

set_option maxHeartbeats 1000000
namespace MR
open PySem PySem.Spec PyProof.Rows L2
section
variable {X : Cx} {pins : List (Addr × Obj)} {σ : L2.St} {H : Hp} {s : Shared} {a C : Addr} {oe : Obj} {vs : Array Value}
end
section
variable {X : Cx} {x n f : Str} {c : Value} {i j : Nat} {body suite : List Stmt} {b₀ : Stmt} {np pos pos' : Pos} {tb : WX → TS} {Wout : WX}
end
section
variable {X : Cx} {body : List Stmt} {n k c f : Str} {np np2 kp ap pos pos' : Pos} {mb : MS} {cs : List Str} {i j : Nat}
end
end MR

namespace MR
open PySem PySem.Spec PyProof.Rows L2
section
variable {prog : Program} {w : World} {A : Around} {E : Value → Shared → Prop} {s : Shared}
end
end MR

namespace MR
open PySem PySem.Spec PyProof.Rows L2
end MR

namespace MR
open PySem PySem.Spec PyProof.Rows L2
section
variable {X : Cx} {e : Expr} {m : ME} {pos p2 : Pos}
end
end MR

namespace MR
open PySem PySem.Spec PyProof.Rows L2
end MR

namespace MR
open PySem PySem.Spec PyProof.Rows L2
end MR

namespace MR
open PySem PySem.Spec PyProof.Rows L2
section
variable {G : Gm} {rho : Rm} {H : Hp} {hh : Hh}
end
section
variable {X : Cx} {tg : Expr}
end
end MR

namespace MR
open PySem PySem.Spec PyProof.Rows L2
section
variable {X : Cx} {tg : Expr}
end
end MR

namespace PySem.W
open PySem PySem.Calls PyProof.Rows PyProof.V PySem.Spec
section
variable {prog : Program} {w : World} {K : Type} [DecidableEq K] {knd : HeapKind prog w K} {A : Around} {E : Value → Shared → Prop} {s : Shared}
end
end PySem.W
namespace MR
open PySem PySem.Spec PyProof.Rows L2
end MR

namespace MR
open PySem PySem.Spec PyProof.Rows L2
section
variable {P : Program} {w : World} {B : Around} {X : Value → Shared → Prop} {st : Shared} {q : Addr}
end
end MR

namespace MR
open PySem PySem.Spec PyProof.Rows L2
section
variable {P : Program} {w : World} {B : Around} {X : Value → Shared → Prop} {st : Shared} {q : Addr}
theorem own_any {α : Type} {M : Model} {c : Code} {t : Sem α} {R : α → Shared → Prop} (h : ∀ g, wpOwn M { B with guards := some g } c t R X st) : wpOwn M B c t R X st := fun Γ p hc hΓ =>
  h (guardsOf Γ.below) Γ p hc ⟨hΓ.1, hΓ.2.1, hΓ.2.2.1, fun g hg => Option.some.inj hg, hΓ.2.2.2.2⟩
theorem tup_text {o : Obj} {vals : Array Value} {m : Nat} {txt : List Str} {R : Value → Shared → Prop} (ty : st.TypeIs (.ref q) "tuple") (ho : st.heap.get? q = some o) (hd : o.data = .seq vals m)
    (all : ReprAll P w vals.toList txt) (room : (tupleText txt).length ≤ sizeLine) (go : ∀ x u tk, R (.str x u) { st with toks := tk }) : wpAny (model P w) B (call (.builtin "tuple.__repr__") [.ref q]) R X st := by
  refine wpAny_call (codeAny_call_builtin_own (Code.quiet_builtin _ (by decide +kernel)) F.entry_tuple_repr (F.slot_tuple_repr.check _ _ _ _ _ _ _ _ ty (F.args_tuple_repr_1 _) ?_))
  refine own_any fun g => ?_
  show wpOwn _ _ _ (Builtin.tupleReprAt 0 ⟨[.ref q], []⟩) _ _ _
  rw [tuple_repr_tree, tupleReprUnderWay_eq]
  refine wpOwn_bind (wpOwn_stackTailAny (g := g) rfl (tupGuardF_off _) (tupGuardF_pos _) ?_)
  cases (g.any fun c => tupGuardF (.ref q) (c, default)) with
  | false => exact wpOwn_of_wpAny (wpAny_tupleReprRest ho hd all (fun u tk => go _ u tk) (by omega))
  | true =>
    refine wpOwn_of_wpAny ?_
    show wpAny _ _ (rule "tuple.repr.in-itself" >>= fun _ => retStr "(...)") _ _ _
    refine wpAny_bind (wpAny_rule ?_)
    unfold retStr
    refine wpAny_bind (wpAny_mkStr ?_)
    exact wpAny_pure (go _ _ _)
theorem str_tup {o : Obj} {vals : Array Value} {m : Nat} {txt : List Str} {R : Value → Shared → Prop} (ty : st.TypeIs (.ref q) "tuple") (ho : st.heap.get? q = some o) (hd : o.data = .seq vals m)
    (all : ∀ P w, ReprAll P w vals.toList txt) (room : (tupleText txt).length ≤ sizeLine) (hu : B.units + 6 < cLine) (go : ∀ x u tk, R (.str x u) { st with toks := tk }) : wpAny (model P w) B (call (.type "str") [.ref q]) R X st := by
  refine callType_new F.called_str (by decide) (F.typeCall_str_1 (.ref q)) (F.newCall_str_1 (.ref q)) (fun z => F.args_object_init_2 z (.ref q)) F.entry_str_new
    (S := fun A1 R1 s1 => A1.units + 4 < cLine ∧ s1.TypeIs (.ref q) "tuple" ∧ s1.heap.get? q = some o ∧ ∀ x u tk, R1 (.ok (.ret (.str x u))) { s1 with toks := tk }) ?_ ?_
  · refine meets_str_new fun P1 w1 A1 R1 s1 h1 => ?_
    obtain ⟨k1, k2, k3, k4⟩ := h1
    exact wpAny_strOf_slot (T := "tuple") (idr := "tuple.__repr__") rfl (by show A1.units + 1 + 1 < cLine; omega) k2 F.slot_tuple_str F.slot_tuple_repr
      (tup_text k2 k3 hd (all P1 w1) room fun x u tk => ⟨x, u, rfl, k4 x u tk⟩)
  · exact ⟨by show B.units + 1 + 4 < cLine; omega, ty, ho, fun x u tk => ⟨typeIs_str _ _ _, go x u tk⟩⟩
end
def flatT : D → Option Str
  | .non => some "None"
  | .bl b => some (if b then "True" else "False")
  | .int i => if i.natAbs < 2 ^ 60 then some (toString i : String) else none
  | .str x => if (reprText x).length ≤ 1000 then some (reprText x) else none
  | _ => none
def flatTs : List D → Option (List Str)
  | [] => some []
  | d :: ds => match flatT d, flatTs ds with
    | some t, some ts => some (t :: ts)
    | _, _ => none
def rStrW (K : PySem.W.Frag) : List V → Hp → VK → Prop := fun vs H Q => ∃ (a : Addr) (us : List V) (txt : List Str), vs = [V.ref a] ∧ SqT K H a us ∧ (∀ (rs : List Value), Vals us rs → ∀ P w, ReprAll P w rs txt) ∧ (tupleText txt).length ≤ sizeLine ∧ ∀ x : Str, Q (.str x) H
theorem cr_strW {X : Cx} (hu : X.A.units + 65 < cLine) : CallR X (.type "str") (rStrW X.K) := by
  intro pins s σ H vs us Q I r h
  obtain ⟨a, ws, txt, rfl, hs, all, room, q⟩ := h
  obtain ⟨its, rv, hl, _⟩ := I.tuple hs
  rw [Vals.ref1 r]
  obtain ⟨o, h1, h2, m, h3⟩ := hl
  have ty : s.TypeIs (.ref a) "tuple" := ⟨o, h1, h2⟩
  exact str_tup (vals := its.toArray) ty h1 h3 (fun P w => by simpa using all its rv P w) room (by omega) fun x u tk => ⟨.str x, H, I.kept fun _ _ e => e, ⟨_, rfl⟩, q x⟩
def strWO : OpN := fun ds h => match ds with
  | [.tup xs] => match flatTs xs with
    | some ts => if (tupleText ts).length ≤ sizeLine then some (.glb (.flt 0)) else none
    | none => none
  | _ => none
theorem flat_repr {G : Gm} {rho : Rm} {H : Hp} : ∀ {ds : List D} {vs : List V} {ts : List Str}, Dens G rho H ds vs → flatTs ds = some ts → ∀ rs : List Value, Vals vs rs → ∀ P w, ReprAll P w rs ts
  | [], vs, ts, q, e, rs, r, P, w => by
    rw [Dens] at q
    subst q
    cases e
    cases r
    exact .nil
  | d :: ds, vs, ts, q, e, rs, r, P, w => by
    rw [Dens] at q
    obtain ⟨v, vr, rfl, q1, q2⟩ := q
    unfold flatTs at e
    cases e1 : flatT d with
    | none => rw [e1] at e; cases e
    | some t =>
      cases e2 : flatTs ds with
      | none => rw [e1, e2] at e; cases e
      | some tr =>
        rw [e1, e2] at e
        cases e
        cases r with
        | cons r1 r2 =>
          rename_i u ur
          have tail := flat_repr q2 e2 _ r2 P w
          refine .cons ?_ tail
          unfold flatT at e1
          cases d with
          | non =>
            cases e1
            rw [Den] at q1
            subst q1
            have r1 : u = Value.none := r1
            subst r1
            exact ReprIs.none
          | bl b =>
            cases e1
            rw [Den] at q1
            subst q1
            have r1 : u = Value.bool b := r1
            subst r1
            have := ReprIs.bool (prog := P) (w := w) b
            cases b <;> exact this
          | int i =>
            dsimp only at e1
            split at e1
            · rename_i hi
              cases e1
              rw [Den] at q1
              subst q1
              obtain ⟨t, rfl⟩ : ∃ t, u = Value.int i t := r1
              refine ReprIs.int t ?_
              have : i.natAbs.log2 ≤ 60 := by
                by_cases z : i.natAbs = 0
                · rw [z]; decide
                · exact Nat.le_of_lt_succ ((Nat.log2_lt z).mpr (by omega))
              omega
            · cases e1
          | str x =>
            dsimp only at e1
            split at e1
            · rename_i hx
              cases e1
              rw [Den] at q1
              subst q1
              obtain ⟨t, rfl⟩ : ∃ t, u = Value.str x t := r1
              exact ReprIs.str x t (by have : sizeLine = 16777216 := rfl; omega)
            · cases e1
          | _ => cases e1
theorem rz_strW {G : Gm} : RzN G (rStrW G.K) strWO := fun rho hh H ds vs d Q R q e k => by
  unfold strWO at e
  split at e
  · rename_i xs
    obtain ⟨v, rfl, qv⟩ := dens_one q
    rw [Den] at qv
    obtain ⟨a, us, rfl, hs, l, z⟩ := qv
    split at e
    · rename_i ts et
      split at e
      · rename_i room
        cases e
        exact ⟨a, us, ts, rfl, hs.t, flat_repr z et, room, fun x => k _ H .refl R ⟨x, rfl⟩⟩
      · cases e
    · cases e
  · cases e
def isiWO : OpN := fun ds h => match ds with
  | [.glb (.flt _), .glb (.ty T)] => if T = "tuple" then some (.bl false) else none
  | ds => isiO ds h
theorem rz_isiW {X : Cx} : RzN (Cx.gm X) (rIsiA X.K) isiWO := fun rho hh H ds vs d Q R q e k => by
  unfold isiWO at e
  split at e
  · rename_i b T
    split at e
    · rename_i hT
      subst hT
      cases e
      rw [Dens] at q
      obtain ⟨v, vr, rfl, q1, q2⟩ := q
      obtain ⟨x, rfl⟩ : ∃ x, v = V.str x := q1
      refine rz_isi rho hh H [.str x, .glb (.ty "tuple")] _ (.bl false) Q R ?_ ?_ k
      · rw [Dens]
        exact ⟨_, _, rfl, rfl, q2⟩
      · rw [ev_isi]
        show (kitB "str" "tuple").map D.bl = _
        rw [kit_str.2.2.1]; rfl
    · cases e
  · exact rz_isi rho hh H _ vs d Q R q e k
end MR

namespace MR
open PySem PySem.Spec PyProof.Rows L2

inductive Sl where
  | v (d : D)
  | own (o : O)
  | bor (p : Nat) (o : O)
  /-- a thing that stands at p, held by another thing: no name of the def -/
  | hid (p : Nat) (o : O)
abbrev SEnv := List (Option Sl)
structure Fr where
  h0 : Hh
  B : List Nat
def Hs (s : SEnv) (i : Nat) (o : O) : Prop := s[i]? = some (some (Sl.own o)) ∨ ∃ p, s[i]? = some (some (Sl.bor p o))
structure Sat (F : Fr) (s : SEnv) (env : DEnv) (h : Hh) : Prop where
  len : env.length = s.length
  le : F.h0.length ≤ h.length
  keep : ∀ j : Nat, j < F.h0.length → j ∉ F.B → h[j]? = F.h0[j]?
  val : ∀ (i : Nat) (d : D), s[i]? = some (some (Sl.v d)) → env[i]? = some (some d)
  cell : ∀ (i : Nat) (o : O), Hs s i o → ∃ p : Nat, env[i]? = some (some (D.ref p)) ∧ h[p]? = some o
  own : ∀ (i : Nat) (o : O) (p : Nat), s[i]? = some (some (Sl.own o)) → env[i]? = some (some (D.ref p)) → F.h0.length ≤ p
  bor : ∀ (i p : Nat) (o : O), s[i]? = some (some (Sl.bor p o)) → env[i]? = some (some (D.ref p)) ∧ p < F.h0.length ∧ p ∈ F.B
  sep : ∀ (i j : Nat) (o o' : O) (p : Nat), i ≠ j → Hs s i o → Hs s j o' → env[i]? = some (some (D.ref p)) → env[j]? = some (some (D.ref p)) → False
  hid : ∀ (i p : Nat) (o : O), s[i]? = some (some (Sl.hid p o)) → h[p]? = some o
  hsep : ∀ (i j p : Nat) (o o' : O), i ≠ j → s[i]? = some (some (Sl.hid p o)) → s[j]? = some (some (Sl.hid p o')) → False
  hcs : ∀ (i j p : Nat) (o o' : O), Hs s i o → env[i]? = some (some (D.ref p)) → s[j]? = some (some (Sl.hid p o')) → False
def chS (s : SEnv) (i : Nat) (o' : O) : SEnv := match s[i]? with
  | some (some (Sl.own _)) => s.set i (some (.own o'))
  | some (some (Sl.bor p _)) => s.set i (some (.bor p o'))
  | _ => s
section
variable {F : Fr} {s s' s1 s2 : SEnv} {env env' env1 : DEnv} {h h' : Hh} {i j p : Nat} {o o' : O} {d : D}
theorem Sat.app (S : Sat F s env h) (g : Hh) : Sat F s env (h ++ g) where
  len := S.len
  le := by have := S.le; simp; omega
  keep := fun j a b => by rw [List.getElem?_append_left (by have := S.le; omega)]; exact S.keep j a b
  val := S.val
  cell := fun i o x => by
    obtain ⟨p, e, q⟩ := S.cell i o x
    exact ⟨p, e, by rw [List.getElem?_append_left (List.getElem?_eq_some_iff.mp q).1]; exact q⟩
  own := S.own
  bor := S.bor
  sep := S.sep
  hid := fun i p o e => by
    have a := S.hid i p o e
    rw [List.getElem?_append_left (List.getElem?_eq_some_iff.mp a).1]; exact a
  hsep := S.hsep
  hcs := S.hcs
theorem hs_set_v {i j : Nat} {x : Option Sl} {o : O} (h : Hs (s.set i x) j o) (n : i ≠ j) : Hs s j o := by
  unfold Hs at h ⊢
  rw [List.getElem?_set_ne n] at h
  exact h
theorem set_get {α : Type} {l : List α} {i : Nat} {x y : α} (h : (l.set i x)[i]? = some y) : y = x ∧ i < l.length := by
  by_cases hl : i < l.length
  · rw [List.getElem?_set_self hl] at h; exact ⟨(Option.some.inj h).symm, hl⟩
  · rw [List.getElem?_eq_none (by rw [List.length_set]; omega)] at h; cases h
theorem hs_set_plain {i j : Nat} {x : Option Sl} {o : O} (hx : x = none ∨ ∃ d, x = some (.v d)) (h : Hs (s.set i x) j o) : i ≠ j := by
  intro e
  subst e
  rcases h with h | ⟨p, h⟩
  · have := (set_get h).1
    rcases hx with hx | ⟨d, hx⟩ <;> rw [hx] at this <;> cases this
  · have := (set_get h).1
    rcases hx with hx | ⟨d, hx⟩ <;> rw [hx] at this <;> cases this
theorem hid_set {i j p : Nat} {x : Option Sl} {o : O} (hx : ∀ q u, x ≠ some (.hid q u)) (h : (s.set i x)[j]? = some (some (Sl.hid p o))) : i ≠ j ∧ s[j]? = some (some (Sl.hid p o)) := by
  by_cases n : i = j
  · subst n
    exact absurd (set_get h).1.symm (hx p o)
  · rw [List.getElem?_set_ne n] at h; exact ⟨n, h⟩
theorem Sat.setV (S : Sat F s env h) (i : Nat) (d : D) : Sat F (s.set i (some (Sl.v d))) (env.set i (some d)) h where
  len := by simp [S.len]
  le := S.le
  keep := S.keep
  val := fun j d' e => by
    by_cases hj : i = j
    · subst hj
      obtain ⟨e1, hl⟩ := set_get e
      cases e1
      rw [List.getElem?_set_self (by rw [S.len]; exact hl)]
    · rw [List.getElem?_set_ne hj] at e ⊢
      exact S.val j d' e
  cell := fun j o x => by
    have n := hs_set_plain (.inr ⟨d, rfl⟩) x
    obtain ⟨p, e, q⟩ := S.cell j o (hs_set_v x n)
    exact ⟨p, by rw [List.getElem?_set_ne n]; exact e, q⟩
  own := fun j o p e q => by
    have n := hs_set_plain (.inr ⟨d, rfl⟩) (Or.inl e : Hs _ j o)
    rw [List.getElem?_set_ne n] at e q
    exact S.own j o p e q
  bor := fun j p o e => by
    have n := hs_set_plain (.inr ⟨d, rfl⟩) (Or.inr ⟨p, e⟩ : Hs _ j o)
    rw [List.getElem?_set_ne n] at e ⊢
    exact S.bor j p o e
  sep := fun j k o o' p n a b e q => by
    have n1 := hs_set_plain (.inr ⟨d, rfl⟩) a
    have n2 := hs_set_plain (.inr ⟨d, rfl⟩) b
    rw [List.getElem?_set_ne n1] at e
    rw [List.getElem?_set_ne n2] at q
    exact S.sep j k o o' p n (hs_set_v a n1) (hs_set_v b n2) e q
  hid := fun j p o e => S.hid j p o (hid_set (fun _ _ z => by cases z) e).2
  hsep := fun j k p o o' n a b => S.hsep j k p o o' n (hid_set (fun _ _ z => by cases z) a).2 (hid_set (fun _ _ z => by cases z) b).2
  hcs := fun j k p o o' a e b => by
    have n1 := hs_set_plain (.inr ⟨d, rfl⟩) a
    rw [List.getElem?_set_ne n1] at e
    exact S.hcs j k p o o' (hs_set_v a n1) e (hid_set (fun _ _ z => by cases z) b).2
theorem Sat.setN (S : Sat F s env h) (i : Nat) : Sat F (s.set i none) (env.set i none) h where
  len := by simp [S.len]
  le := S.le
  keep := S.keep
  val := fun j d' e => by
    by_cases hj : i = j
    · subst hj
      obtain ⟨e1, hl⟩ := set_get e
      cases e1
    · rw [List.getElem?_set_ne hj] at e ⊢
      exact S.val j d' e
  cell := fun j o x => by
    have n := hs_set_plain (.inl rfl) x
    obtain ⟨p, e, q⟩ := S.cell j o (hs_set_v x n)
    exact ⟨p, by rw [List.getElem?_set_ne n]; exact e, q⟩
  own := fun j o p e q => by
    have n := hs_set_plain (.inl rfl) (Or.inl e : Hs _ j o)
    rw [List.getElem?_set_ne n] at e q
    exact S.own j o p e q
  bor := fun j p o e => by
    have n := hs_set_plain (.inl rfl) (Or.inr ⟨p, e⟩ : Hs _ j o)
    rw [List.getElem?_set_ne n] at e ⊢
    exact S.bor j p o e
  sep := fun j k o o' p n a b e q => by
    have n1 := hs_set_plain (.inl rfl) a
    have n2 := hs_set_plain (.inl rfl) b
    rw [List.getElem?_set_ne n1] at e
    rw [List.getElem?_set_ne n2] at q
    exact S.sep j k o o' p n (hs_set_v a n1) (hs_set_v b n2) e q
  hid := fun j p o e => S.hid j p o (hid_set (fun _ _ z => by cases z) e).2
  hsep := fun j k p o o' n a b => S.hsep j k p o o' n (hid_set (fun _ _ z => by cases z) a).2 (hid_set (fun _ _ z => by cases z) b).2
  hcs := fun j k p o o' a e b => by
    have n1 := hs_set_plain (.inl rfl) a
    rw [List.getElem?_set_ne n1] at e
    exact S.hcs j k p o o' (hs_set_v a n1) e (hid_set (fun _ _ z => by cases z) b).2
theorem Sat.setO (S : Sat F s env h) (i : Nat) (o : O) : Sat F (s.set i (some (Sl.own o))) (env.set i (some (D.ref h.length))) (h ++ [o]) := by
  have S' := S.app [o]
  have low : ∀ j o' p, Hs s j o' → env[j]? = some (some (D.ref p)) → p < h.length := fun j o' p x e => by
    obtain ⟨q, e1, e2⟩ := S.cell j o' x
    rw [e] at e1
    cases e1
    exact (List.getElem?_eq_some_iff.mp e2).1
  have self : ∀ j o', Hs (s.set i (some (Sl.own o))) j o' → i = j → o' = o ∧ (env.set i (some (D.ref h.length)))[j]? = some (some (D.ref h.length)) := fun j o' x e => by
    subst e
    rcases x with x | ⟨p, x⟩
    · obtain ⟨e1, hl⟩ := set_get x
      cases e1
      exact ⟨rfl, List.getElem?_set_self (by rw [S.len]; exact hl)⟩
    · have := (set_get x).1; cases this
  exact {
  len := by simp [S.len]
  le := S'.le
  keep := S'.keep
  val := fun j d' e => by
    by_cases hj : i = j
    · subst hj
      have := (set_get e).1; cases this
    · rw [List.getElem?_set_ne hj] at e ⊢
      exact S.val j d' e
  cell := fun j o' x => by
    by_cases hj : i = j
    · obtain ⟨rfl, e⟩ := self j o' x hj
      exact ⟨h.length, e, by simp⟩
    · obtain ⟨p, e, q⟩ := S'.cell j o' (hs_set_v x hj)
      exact ⟨p, by rw [List.getElem?_set_ne hj]; exact e, q⟩
  own := fun j o' p e q => by
    by_cases hj : i = j
    · obtain ⟨rfl, e1⟩ := self j o' (.inl e) hj
      rw [e1] at q
      cases q
      exact S.le
    · rw [List.getElem?_set_ne hj] at e q
      exact S.own j o' p e q
  bor := fun j p o' e => by
    by_cases hj : i = j
    · subst hj
      have := (set_get e).1; cases this
    · rw [List.getElem?_set_ne hj] at e ⊢
      exact S.bor j p o' e
  sep := fun j k a b p n x y e q => by
    by_cases hj : i = j
    · obtain ⟨_, e1⟩ := self j a x hj
      rw [e1] at e
      cases e
      have hk : i ≠ k := fun z => n (hj.symm.trans z)
      rw [List.getElem?_set_ne hk] at q
      exact absurd (low k b _ (hs_set_v y hk) q) (Nat.lt_irrefl _)
    · by_cases hk : i = k
      · obtain ⟨_, e1⟩ := self k b y hk
        rw [e1] at q
        cases q
        rw [List.getElem?_set_ne hj] at e
        exact absurd (low j a _ (hs_set_v x hj) e) (Nat.lt_irrefl _)
      · rw [List.getElem?_set_ne hj] at e
        rw [List.getElem?_set_ne hk] at q
        exact S.sep j k a b p n (hs_set_v x hj) (hs_set_v y hk) e q
  hid := fun j p o' e => S'.hid j p o' (hid_set (fun _ _ z => by cases z) e).2
  hsep := fun j k p a b n x y => S.hsep j k p a b n (hid_set (fun _ _ z => by cases z) x).2 (hid_set (fun _ _ z => by cases z) y).2
  hcs := fun j k p a b x e y => by
    have y' := (hid_set (fun _ _ z => by cases z) y).2
    by_cases hj : i = j
    · obtain ⟨_, e1⟩ := self j a x hj
      rw [e1] at e
      cases e
      have := (List.getElem?_eq_some_iff.mp (S.hid k _ b y')).1
      exact absurd this (Nat.lt_irrefl _)
    · rw [List.getElem?_set_ne hj] at e
      exact S.hcs j k p a b (hs_set_v x hj) e y' }
theorem chS_own (h : s[i]? = some (some (Sl.own o))) : chS s i o' = s.set i (some (.own o')) := by unfold chS; rw [h]
theorem chS_bor (h : s[i]? = some (some (Sl.bor p o))) : chS s i o' = s.set i (some (.bor p o')) := by unfold chS; rw [h]
theorem Sat.change (S : Sat F s env h) (x : Hs s i o) (e : env[i]? = some (some (D.ref p))) (o' : O) : Sat F (chS s i o') env (h.set p o') := by
  have hp : p < h.length := by
    obtain ⟨q, e1, e2⟩ := S.cell i o x
    rw [e] at e1; cases e1
    exact (List.getElem?_eq_some_iff.mp e2).1
  have hi : i < s.length := by
    rcases x with x | ⟨_, x⟩ <;> exact (List.getElem?_eq_some_iff.mp x).1
  obtain ⟨c, hc, hcc⟩ : ∃ c, chS s i o' = s.set i (some c) ∧ (c = .own o' ∧ s[i]? = some (some (Sl.own o)) ∨ ∃ q, c = .bor q o' ∧ s[i]? = some (some (Sl.bor q o))) := by
    rcases x with x | ⟨q, x⟩
    · exact ⟨_, chS_own x, .inl ⟨rfl, x⟩⟩
    · exact ⟨_, chS_bor x, .inr ⟨q, rfl, x⟩⟩
  rw [hc]
  have self : ∀ j a, Hs (s.set i (some c)) j a → i = j → a = o' := fun j a y z => by
    subst z
    rcases y with y | ⟨q, y⟩
    · have e1 := (set_get y).1
      rcases hcc with ⟨hcc, _⟩ | ⟨q, hcc, _⟩
      · rw [hcc] at e1; cases e1; rfl
      · rw [hcc] at e1; cases e1
    · have e1 := (set_get y).1
      rcases hcc with ⟨hcc, _⟩ | ⟨q, hcc, _⟩
      · rw [hcc] at e1; cases e1
      · rw [hcc] at e1; cases e1; rfl
  have back : ∀ j a, Hs (s.set i (some c)) j a → ∃ a', Hs s j a' := fun j a y => by
    by_cases hj : i = j
    · subst hj; exact ⟨o, x⟩
    · exact ⟨a, hs_set_v y hj⟩
  exact {
  len := by rw [S.len, List.length_set]
  le := by rw [List.length_set]; exact S.le
  keep := fun j a b => by
    have hj : p ≠ j := by
      rcases hcc with ⟨_, z⟩ | ⟨q, _, z⟩
      · have := S.own i o p z e; omega
      · obtain ⟨z1, z2, z3⟩ := S.bor i q o z
        rw [e] at z1
        cases z1
        intro z4
        subst z4
        exact b z3
    rw [List.getElem?_set_ne hj]
    exact S.keep j a b
  val := fun j d' e' => by
    by_cases hj : i = j
    · subst hj
      have e1 := (set_get e').1
      rcases hcc with ⟨hcc, _⟩ | ⟨q, hcc, _⟩ <;> rw [hcc] at e1 <;> cases e1
    · rw [List.getElem?_set_ne hj] at e'
      exact S.val j d' e'
  cell := fun j a y => by
    by_cases hj : i = j
    · have ea := self j a y hj
      subst hj
      subst ea
      exact ⟨p, e, List.getElem?_set_self hp⟩
    · obtain ⟨q, e1, e2⟩ := S.cell j a (hs_set_v y hj)
      refine ⟨q, e1, ?_⟩
      rw [List.getElem?_set_ne]
      · exact e2
      · intro z
        subst z
        exact S.sep i j o a p hj x (hs_set_v y hj) e e1
  own := fun j a q y z => by
    by_cases hj : i = j
    · subst hj
      rw [e] at z
      cases z
      have e1 := (set_get y).1
      rcases hcc with ⟨hcc, w⟩ | ⟨q, hcc, _⟩
      · exact S.own i o p w e
      · rw [hcc] at e1; cases e1
    · rw [List.getElem?_set_ne hj] at y
      exact S.own j a q y z
  bor := fun j q a y => by
    by_cases hj : i = j
    · subst hj
      have e1 := (set_get y).1
      rcases hcc with ⟨hcc, w⟩ | ⟨q', hcc, w⟩
      · rw [hcc] at e1; cases e1
      · rw [hcc] at e1; cases e1
        exact S.bor i q o w
    · rw [List.getElem?_set_ne hj] at y
      exact S.bor j q a y
  sep := fun j k a b q n y z e1 e2 => by
    obtain ⟨a', y'⟩ := back j a y
    obtain ⟨b', z'⟩ := back k b z
    exact S.sep j k a' b' q n y' z' e1 e2
  hid := fun j q a y => by
    have y' := (hid_set (fun _ _ w => by rcases hcc with ⟨w2, _⟩ | ⟨_, w2, _⟩ <;> rw [w2] at w <;> cases w) y).2
    have b := S.hid j q a y'
    rw [List.getElem?_set_ne (fun w => by subst w; exact S.hcs i j p o a x e y')]; exact b
  hsep := fun j k q a b n y z => by
    have y' := (hid_set (fun _ _ w => by rcases hcc with ⟨w2, _⟩ | ⟨_, w2, _⟩ <;> rw [w2] at w <;> cases w) y).2
    have z' := (hid_set (fun _ _ w => by rcases hcc with ⟨w2, _⟩ | ⟨_, w2, _⟩ <;> rw [w2] at w <;> cases w) z).2
    exact S.hsep j k q a b n y' z'
  hcs := fun j k q a b y e1 z => by
    obtain ⟨a', y'⟩ := back j a y
    have z' := (hid_set (fun _ _ w => by rcases hcc with ⟨w2, _⟩ | ⟨_, w2, _⟩ <;> rw [w2] at w <;> cases w) z).2
    exact S.hcs j k q a' b y' e1 z' }

inductive Weak : SEnv → SEnv → Prop where
  | nil : Weak [] []
  | same {x : Option Sl} {a b : SEnv} : Weak a b → Weak (x :: a) (x :: b)
  | drop {x : Option Sl} {a b : SEnv} : Weak a b → Weak (x :: a) (none :: b)
theorem Weak.refl : ∀ s : SEnv, Weak s s
  | [] => .nil
  | _ :: s => .same (Weak.refl s)
theorem Weak.len : ∀ {a b : SEnv}, Weak a b → a.length = b.length
  | _, _, .nil => rfl
  | _, _, .same w => by simp [w.len]
  | _, _, .drop w => by simp [w.len]
theorem Weak.get : ∀ {a b : SEnv}, Weak a b → ∀ {i : Nat} {c : Sl}, b[i]? = some (some c) → a[i]? = some (some c)
  | _, _, .nil, i, c, h => by simp at h
  | _, _, .same w, 0, c, h => h
  | _, _, .same w, i + 1, c, h => by
    simp only [List.getElem?_cons_succ] at h ⊢
    exact w.get h
  | _, _, .drop w, 0, c, h => by simp at h
  | _, _, .drop w, i + 1, c, h => by
    simp only [List.getElem?_cons_succ] at h ⊢
    exact w.get h
theorem Weak.hs (w : Weak s s') (x : Hs s' i o) : Hs s i o := by
  rcases x with x | ⟨p, x⟩
  · exact .inl (w.get x)
  · exact .inr ⟨p, w.get x⟩
theorem Sat.back (S : Sat F s env h) (S1 : Sat F s1 env1 h') (hl : s'.length = s.length) (hv : ∀ (i : Nat) (d : D), s'[i]? = some (some (Sl.v d)) → s[i]? = some (some (Sl.v d)))
    (ho : ∀ (i : Nat) (c : Sl), s'[i]? = some (some c) → (∀ d, c ≠ Sl.v d) → s1[i]? = some (some c) ∧ env1[i]? = env[i]?) : Sat F s' env h' where
  len := by rw [S.len, hl]
  le := S1.le
  keep := S1.keep
  val := fun i d e => S.val i d (hv i d e)
  cell := fun i o x => by
    rcases x with x | ⟨p, x⟩
    · obtain ⟨a, b⟩ := ho i _ x (fun d z => nomatch z)
      obtain ⟨q, e1, e2⟩ := S1.cell i o (.inl a)
      exact ⟨q, by rw [← b]; exact e1, e2⟩
    · obtain ⟨a, b⟩ := ho i _ x (fun d z => nomatch z)
      obtain ⟨q, e1, e2⟩ := S1.cell i o (.inr ⟨p, a⟩)
      exact ⟨q, by rw [← b]; exact e1, e2⟩
  own := fun i o p x q => by
    obtain ⟨a, b⟩ := ho i _ x (fun d z => nomatch z)
    exact S1.own i o p a (by rw [b]; exact q)
  bor := fun i p o x => by
    obtain ⟨a, b⟩ := ho i _ x (fun d z => nomatch z)
    rw [← b]
    exact S1.bor i p o a
  sep := fun i j o o' p n x y e q => by
    have f : ∀ k a, Hs s' k a → Hs s1 k a ∧ env1[k]? = env[k]? := fun k a z => by
      rcases z with z | ⟨r, z⟩
      · obtain ⟨u, w⟩ := ho k _ z (fun d z => nomatch z); exact ⟨.inl u, w⟩
      · obtain ⟨u, w⟩ := ho k _ z (fun d z => nomatch z); exact ⟨.inr ⟨r, u⟩, w⟩
    obtain ⟨x1, x2⟩ := f i o x
    obtain ⟨y1, y2⟩ := f j o' y
    exact S1.sep i j o o' p n x1 y1 (by rw [x2]; exact e) (by rw [y2]; exact q)
  hid := fun i p o x => S1.hid i p o (ho i _ x (fun d z => nomatch z)).1
  hsep := fun i j p o o' n x y => S1.hsep i j p o o' n (ho i _ x (fun d z => nomatch z)).1 (ho j _ y (fun d z => nomatch z)).1
  hcs := fun i j p o o' x e y => by
    have g : Hs s1 i o ∧ env1[i]? = env[i]? := by
      rcases x with z | ⟨r, z⟩
      · obtain ⟨u, w⟩ := ho i _ z (fun d z => nomatch z); exact ⟨.inl u, w⟩
      · obtain ⟨u, w⟩ := ho i _ z (fun d z => nomatch z); exact ⟨.inr ⟨r, u⟩, w⟩
    exact S1.hcs i j p o o' g.1 (by rw [g.2]; exact e) (ho j _ y (fun d z => nomatch z)).1
end

def QX (F : Fr) (s : SEnv) (m : ME) (d : D) (s' : SEnv) : Prop := ∀ env h, Sat F s env h → ∃ h', m env h = .ok d h' ∧ Sat F s' env h'
def QT (F : Fr) (s : SEnv) (m : MT) (b : Bool) (s' : SEnv) : Prop := ∀ env h, Sat F s env h → ∃ h', m env h = .ok b h' ∧ Sat F s' env h'
def QA (F : Fr) (s : SEnv) (m : MA) (ds : List D) (s' : SEnv) : Prop := ∀ env h, Sat F s env h → ∃ h', m env h = .ok ds h' ∧ Sat F s' env h'
section
variable {F : Fr} {s s' s1 s2 s3 : SEnv} {A B : ME} {d d1 d2 d3 : D} {i : Nat} {o : O}
theorem q_slot (i : Nat) (e : s[i]? = some (some (Sl.v d)) := by rfl) : QX F s (eSlot i) d s := fun env h S => ⟨h, by
  unfold eSlot
  rw [S.val i d e], S⟩
theorem q_c : QX F s (eC d) d s := fun env h S => ⟨h, rfl, S⟩
theorem q_op2 {f : Op2} (hA : QX F s A d1 s1) (hB : QX F s1 B d2 s2) (ho : ∀ h, f d1 d2 h = some d3) : QX F s (eOp2 f A B) d3 s2 := fun env h S => by
  obtain ⟨h1, e1, S1⟩ := hA env h S
  obtain ⟨h2, e2, S2⟩ := hB env h1 S1
  refine ⟨h2, ?_, S2⟩
  unfold eOp2
  rw [e1, bind_ok, e2, bind_ok, ho]
  rfl
theorem qa_nil : QA F s aNil [] s := fun env h S => ⟨h, rfl, S⟩
theorem qa_cons {ms : MA} {ds : List D} (hA : QX F s A d s1) (hB : QA F s1 ms ds s2) : QA F s (aCons A ms) (d :: ds) s2 := fun env h S => by
  obtain ⟨h1, e1, S1⟩ := hA env h S
  obtain ⟨h2, e2, S2⟩ := hB env h1 S1
  exact ⟨h2, by unfold aCons; rw [e1, bind_ok, e2, bind_ok], S2⟩
theorem q_tup {ms : MA} {ds : List D} (hA : QA F s ms ds s1) : QX F s (eTup ms) (.tup ds) s1 := fun env h S => by
  obtain ⟨h1, e1, S1⟩ := hA env h S
  exact ⟨h1, by unfold eTup; rw [e1, bind_ok], S1⟩
theorem q_frz {ms : MA} {ds : List D} (hA : QA F s ms ds s1) : QX F s (eFrz ms) (.lst ds) s1 := fun env h S => by
  obtain ⟨h1, e1, S1⟩ := hA env h S
  exact ⟨h1, by unfold eFrz; rw [e1, bind_ok], S1⟩
theorem qt_e {b : Bool} (hA : QX F s A (.bl b) s1) : QT F s (tE A) b s1 := fun env h S => by
  obtain ⟨h1, e1, S1⟩ := hA env h S
  exact ⟨h1, by unfold tE; rw [e1, bind_ok]; rfl, S1⟩
variable {a b : MT} {p q : Bool}
variable {C : ME}
end
end MR

namespace MR
open PySem PySem.Spec PyProof.Rows L2

inductive Wd where
  | rows | readers | writers | turns | passes | out | reads | rising | writes | raised | read | write | up | down | leave | stop | tick | steps | in_ | waits | no | ends | starves | within | never | alike | parts
  deriving DecidableEq, Inhabited
def Wd.val : Wd → Str
  | .rows => "rows" | .readers => "readers" | .writers => "writers" | .turns => "turns" | .passes => "passes" | .out => "out" | .reads => "reads" | .rising => "rising" | .writes => "writes" | .raised => "raised"
  | .read => "read" | .write => "write" | .up => "up" | .down => "down" | .leave => "leave" | .stop => "stop" | .tick => "tick" | .steps => "steps" | .in_ => "in" | .waits => "waits" | .no => "no" | .ends => "ends"
  | .starves => "starves" | .within => "within" | .never => "never" | .alike => "alike" | .parts => "parts"
def Wd.all : List Wd := [.rows, .readers, .writers, .turns, .passes, .out, .reads, .rising, .writes, .raised, .read, .write, .up, .down, .leave, .stop, .tick, .steps, .in_, .waits, .no, .ends, .starves, .within, .never, .alike, .parts]
def Wd.of (x : Str) : Option Wd := Wd.all.find? fun w => decide (w.val = x)
theorem Wd.of_val (w : Wd) : Wd.of w.val = some w := by cases w <;> decide +kernel
theorem Wd.val_inj {a b : Wd} (h : a.val = b.val) : a = b := by
  have := Wd.of_val a
  rw [h, Wd.of_val b] at this
  exact (Option.some.inj this).symm
theorem Wd.ok (w : Wd) : PyData.strOk w.val = true := by cases w <;> decide +kernel

def eN : Unit → D := fun _ => .non
def eW : Wd → D := fun w => .str w.val
section
variable {α β γ δ : Type}
def eO (e : α → D) : Option α → D := fun o => match o with | none => .non | some a => e a
def eS (e : α → D) : List α → D := fun l => .tup (l.map e)
def eL (e : α → D) : List α → D := fun l => .lst (l.map e)
def oL (e : α → D) : List α → O := fun l => .lst (l.map e)
def eT1 (a : α → D) : α → D := fun p => .tup [a p]
def eT2 (a : α → D) (b : β → D) : α × β → D := fun p => .tup [a p.1, b p.2]
def eT3 (a : α → D) (b : β → D) (c : γ → D) : α × β × γ → D := fun p => .tup [a p.1, b p.2.1, c p.2.2]
def eT4 (a : α → D) (b : β → D) (c : γ → D) (d : δ → D) : α × β × γ × δ → D := fun p => .tup [a p.1, b p.2.1, c p.2.2.1, d p.2.2.2]
end
inductive Deed where
  | ask (w : Wd) (g : Int) (l : Option Int)
  | mov (w : Wd) (g : Int)
  | tick
  deriving DecidableEq, Inhabited
def eDd : Deed → D
  | .ask w g l => .tup [eW w, .int g, eO D.int l]
  | .mov w g => .tup [eW w, .int g]
  | .tick => .tup [eW .tick]
def Deed.word : Deed → Wd
  | .ask w _ _ => w
  | .mov w _ => w
  | .tick => .tick
def Deed.guest : Deed → Int
  | .ask _ g _ => g
  | .mov _ g => g
  | .tick => 0
def Deed.left : Deed → Option Int
  | .ask _ _ l => l
  | _ => none
def Deed.isTick : Deed → Bool
  | .tick => true
  | _ => false
def Deed.size : Deed → Int
  | .ask _ _ _ => 3
  | .mov _ _ => 2
  | .tick => 1

class NR {α : Type} (e : α → D) : Prop where
  nr : ∀ a n, bel n (e a) = true
class NN {α : Type} (e : α → D) : Prop where
  nn : ∀ a h neg, isNO neg (e a) .non h = some (.bl neg)
class PyE {α : Type} [DecidableEq α] (e : α → D) where
  n : Nat
  py : α → PyData
  to : ∀ a, toPy (e a) = some (py a)
  lay : ∀ a, (py a).canLay0 = true
  dep : ∀ a, (py a).depth ≤ n
  eqv : ∀ a b, PyData.eqv (py a) (py b) = decide (a = b)
  nz : ∀ a, PyData.eqv PyData.none (py a) = false ∧ PyData.eqv (py a) PyData.none = false
section
variable {α β γ δ : Type}
theorem bels_map {e : α → D} [NR e] (n : Nat) : ∀ l : List α, bels n (l.map e) = true
  | [] => rfl
  | x :: xs => by rw [List.map_cons, bels, NR.nr x n, bels_map n xs]; rfl
instance : NR eN := ⟨fun _ _ => rfl⟩
instance : NR D.int := ⟨fun _ _ => rfl⟩
instance : NR D.bl := ⟨fun _ _ => rfl⟩
instance : NR D.str := ⟨fun _ _ => rfl⟩
instance : NR eW := ⟨fun _ _ => rfl⟩
instance {e : α → D} [NR e] : NR (eO e) := ⟨fun a n => by cases a with | none => rfl | some a => exact NR.nr a n⟩
instance {e : α → D} [NR e] : NR (eS e) := ⟨fun a n => by show bels n _ = true; exact bels_map n a⟩
instance {e : α → D} [NR e] : NR (eL e) := ⟨fun a n => by show bels n _ = true; exact bels_map n a⟩
instance {a : α → D} [NR a] : NR (eT1 a) := ⟨fun p n => by show bels n [_] = true; simp [bels, NR.nr (e := a)]⟩
instance {a : α → D} {b : β → D} [NR a] [NR b] : NR (eT2 a b) := ⟨fun p n => by show bels n [_, _] = true; simp [bels, NR.nr (e := a), NR.nr (e := b)]⟩
instance {a : α → D} {b : β → D} {c : γ → D} [NR a] [NR b] [NR c] : NR (eT3 a b c) := ⟨fun p n => by show bels n [_, _, _] = true; simp [bels, NR.nr (e := a), NR.nr (e := b), NR.nr (e := c)]⟩
instance {a : α → D} {b : β → D} {c : γ → D} {d : δ → D} [NR a] [NR b] [NR c] [NR d] : NR (eT4 a b c d) := ⟨fun p n => by show bels n [_, _, _, _] = true; simp [bels, NR.nr (e := a), NR.nr (e := b), NR.nr (e := c), NR.nr (e := d)]⟩
instance : NR eDd := ⟨fun a n => by
  cases a with
  | ask w g l => show bels n [_, _, _] = true; simp [bels, NR.nr (e := eW), NR.nr (e := eO D.int), bel]
  | mov w g => show bels n [_, _] = true; simp [bels, NR.nr (e := eW), bel]
  | tick => rfl⟩
instance : NN D.int := ⟨fun _ _ _ => rfl⟩
instance : NN D.bl := ⟨fun _ _ _ => rfl⟩
instance : NN D.str := ⟨fun _ _ _ => rfl⟩
instance : NN eW := ⟨fun _ _ _ => rfl⟩
instance {e : α → D} : NN (eS e) := ⟨fun _ _ _ => rfl⟩
instance {e : α → D} : NN (eL e) := ⟨fun _ _ _ => rfl⟩
instance {a : α → D} : NN (eT1 a) := ⟨fun _ _ _ => rfl⟩
instance {a : α → D} {b : β → D} : NN (eT2 a b) := ⟨fun _ _ _ => rfl⟩
instance {a : α → D} {b : β → D} {c : γ → D} : NN (eT3 a b c) := ⟨fun _ _ _ => rfl⟩
instance {a : α → D} {b : β → D} {c : γ → D} {d : δ → D} : NN (eT4 a b c d) := ⟨fun _ _ _ => rfl⟩
instance : NN eDd := ⟨fun a _ _ => by cases a <;> rfl⟩
instance pyE_int : PyE D.int := ⟨0, PyData.int, fun _ => rfl, fun _ => rfl, fun _ => Nat.le_refl _, fun a b => by show (a == b) = _; exact deq, fun a => ⟨rfl, rfl⟩⟩
instance pyE_bl : PyE D.bl := ⟨0, PyData.bool, fun _ => rfl, fun _ => rfl, fun _ => Nat.le_refl _, fun a b => by cases a <;> cases b <;> rfl, fun a => ⟨rfl, rfl⟩⟩
instance pyE_w : PyE eW := ⟨0, fun w => PyData.str w.val, fun _ => rfl, fun w => w.ok, fun _ => Nat.le_refl _, fun a b => by
  show (a.val == b.val) = _
  rw [deq]
  by_cases h : a = b
  · subst h; simp
  · rw [decide_eq_false h, decide_eq_false fun z => h (Wd.val_inj z)], fun a => ⟨rfl, rfl⟩⟩
def pyOpt (f : α → PyData) : Option α → PyData
  | none => .none
  | some a => f a
class PyEO {α : Type} [DecidableEq α] (e : α → D) where
  n : Nat
  py : α → PyData
  to : ∀ a, toPy (e a) = some (py a)
  lay : ∀ a, (py a).canLay0 = true
  dep : ∀ a, (py a).depth ≤ n
  eqv : ∀ a b, PyData.eqv (py a) (py b) = decide (a = b)
variable [DecidableEq α] [DecidableEq β] [DecidableEq γ] [DecidableEq δ]
instance pyEO_of {e : α → D} [i : PyE e] : PyEO e := ⟨i.n, i.py, i.to, i.lay, i.dep, i.eqv⟩
instance pyEO_opt {e : α → D} [i : PyE e] : PyEO (eO e) := ⟨i.n, pyOpt i.py, fun a => by cases a with | none => rfl | some a => exact i.to a, fun a => by cases a with | none => rfl | some a => exact i.lay a,
  fun a => by cases a with | none => exact Nat.zero_le _ | some a => exact i.dep a, fun a b => by
  cases a with
  | none => cases b with
    | none => rfl
    | some b => exact (i.nz b).1
  | some a => cases b with
    | none => exact (i.nz a).2
    | some b =>
      show PyData.eqv (i.py a) (i.py b) = _
      rw [i.eqv]
      by_cases h : a = b
      · subst h; simp
      · rw [decide_eq_false h, decide_eq_false fun z => h (Option.some.inj z)]⟩
theorem toPys_map {e : α → D} [i : PyEO e] : ∀ l : List α, toPys (l.map e) = some (l.map i.py)
  | [] => rfl
  | x :: xs => by rw [List.map_cons, toPys, i.to x, toPys_map xs]; rfl
theorem lay_map {e : α → D} [i : PyEO e] : ∀ l : List α, PyData.canLayAll0 (l.map i.py) = true
  | [] => rfl
  | x :: xs => by rw [List.map_cons, PyData.canLayAll0, i.lay x, lay_map xs]; rfl
theorem dep_map {e : α → D} [i : PyEO e] : ∀ l : List α, PyData.depthAll (l.map i.py) ≤ i.n + 1
  | [] => by rw [List.map_nil, PyData.depthAll]; omega
  | x :: xs => by rw [List.map_cons, PyData.depthAll]; have := i.dep x; have := dep_map (e := e) xs; omega
theorem eqv_map {e : α → D} [i : PyEO e] : ∀ l m : List α, PyData.eqvAll (l.map i.py) (m.map i.py) = decide (l = m)
  | [], [] => rfl
  | [], y :: ys => rfl
  | x :: xs, [] => rfl
  | x :: xs, y :: ys => by
    rw [List.map_cons, List.map_cons, PyData.eqvAll, i.eqv x y, eqv_map xs ys]
    by_cases h1 : x = y
    · subst h1
      by_cases h2 : xs = ys
      · subst h2; simp
      · simp [h2]
    · simp [h1]
instance pyE_seq {e : α → D} [i : PyEO e] : PyE (eS e) := ⟨i.n + 2, fun l => .tuple (l.map i.py), fun l => by show (toPys (l.map e)).map PyData.tuple = _; rw [toPys_map]; rfl, fun l => by rw [PyData.canLay0]; exact lay_map l,
  fun l => by rw [PyData.depth]; have := dep_map (e := e) l; omega, fun l m => by rw [PyData.eqv]; exact eqv_map l m, fun l => ⟨rfl, rfl⟩⟩
instance pyE_lst {e : α → D} [i : PyEO e] : PyE (eL e) := ⟨i.n + 2, fun l => .list (l.map i.py), fun l => by show (toPys (l.map e)).map PyData.list = _; rw [toPys_map]; rfl, fun l => by rw [PyData.canLay0]; exact lay_map l,
  fun l => by rw [PyData.depth]; have := dep_map (e := e) l; omega, fun l m => by rw [PyData.eqv]; exact eqv_map l m, fun l => ⟨rfl, rfl⟩⟩
theorem dec_and {p q r : Prop} [Decidable p] [Decidable q] [Decidable r] (h : r ↔ p ∧ q) : (decide p && decide q) = decide r := by
  by_cases hp : p <;> by_cases hq : q <;> simp [hp, hq, h]
instance pyE_t1 {a : α → D} [i : PyEO a] : PyE (eT1 a) := ⟨i.n + 1, fun p => .tuple [i.py p], fun p => by show (toPys [_]).map _ = _; simp [toPys, i.to], fun p => by simp [PyData.canLay0, PyData.canLayAll0, i.lay],
  fun p => by simp only [PyData.depth, PyData.depthAll]; have := i.dep p; omega, fun p q => by simp [PyData.eqv, PyData.eqvAll, i.eqv], fun l => ⟨rfl, rfl⟩⟩
instance pyE_t2 {a : α → D} {b : β → D} [i : PyEO a] [j : PyEO b] : PyE (eT2 a b) := ⟨i.n + j.n + 1, fun p => .tuple [i.py p.1, j.py p.2], fun p => by show (toPys [_, _]).map _ = _; simp [toPys, i.to, j.to], fun p => by simp [PyData.canLay0, PyData.canLayAll0, i.lay, j.lay],
  fun p => by simp only [PyData.depth, PyData.depthAll]; have := i.dep p.1; have := j.dep p.2; omega, fun p q => by
    obtain ⟨p1, p2⟩ := p; obtain ⟨q1, q2⟩ := q
    simp only [PyData.eqv, PyData.eqvAll, i.eqv, j.eqv, Bool.and_true]
    exact dec_and (by rw [Prod.mk.injEq]), fun l => ⟨rfl, rfl⟩⟩
instance pyE_t3 {a : α → D} {b : β → D} {c : γ → D} [i : PyEO a] [j : PyEO b] [k : PyEO c] : PyE (eT3 a b c) := ⟨i.n + j.n + k.n + 1, fun p => .tuple [i.py p.1, j.py p.2.1, k.py p.2.2], fun p => by show (toPys [_, _, _]).map _ = _; simp [toPys, i.to, j.to, k.to], fun p => by simp [PyData.canLay0, PyData.canLayAll0, i.lay, j.lay, k.lay],
  fun p => by simp only [PyData.depth, PyData.depthAll]; have := i.dep p.1; have := j.dep p.2.1; have := k.dep p.2.2; omega, fun p q => by
    obtain ⟨p1, p2, p3⟩ := p; obtain ⟨q1, q2, q3⟩ := q
    simp only [PyData.eqv, PyData.eqvAll, i.eqv, j.eqv, k.eqv, Bool.and_true]
    rw [dec_and (p := p2 = q2) (q := p3 = q3) (r := p2 = q2 ∧ p3 = q3) Iff.rfl]
    exact dec_and (by rw [Prod.mk.injEq, Prod.mk.injEq]), fun l => ⟨rfl, rfl⟩⟩
instance pyE_t4 {a : α → D} {b : β → D} {c : γ → D} {d : δ → D} [i : PyEO a] [j : PyEO b] [k : PyEO c] [l : PyEO d] : PyE (eT4 a b c d) := ⟨i.n + j.n + k.n + l.n + 1, fun p => .tuple [i.py p.1, j.py p.2.1, k.py p.2.2.1, l.py p.2.2.2], fun p => by show (toPys [_, _, _, _]).map _ = _; simp [toPys, i.to, j.to, k.to, l.to], fun p => by simp [PyData.canLay0, PyData.canLayAll0, i.lay, j.lay, k.lay, l.lay],
  fun p => by simp only [PyData.depth, PyData.depthAll]; have := i.dep p.1; have := j.dep p.2.1; have := k.dep p.2.2.1; have := l.dep p.2.2.2; omega, fun p q => by
    obtain ⟨p1, p2, p3, p4⟩ := p; obtain ⟨q1, q2, q3, q4⟩ := q
    simp only [PyData.eqv, PyData.eqvAll, i.eqv, j.eqv, k.eqv, l.eqv, Bool.and_true]
    rw [dec_and (p := p3 = q3) (q := p4 = q4) (r := p3 = q3 ∧ p4 = q4) Iff.rfl, dec_and (p := p2 = q2) (q := p3 = q3 ∧ p4 = q4) (r := p2 = q2 ∧ p3 = q3 ∧ p4 = q4) Iff.rfl]
    exact dec_and (by rw [Prod.mk.injEq, Prod.mk.injEq, Prod.mk.injEq]), fun l => ⟨rfl, rfl⟩⟩
def Deed.py : Deed → PyData
  | .ask w g l => .tuple [.str w.val, .int g, pyOpt PyData.int l]
  | .mov w g => .tuple [.str w.val, .int g]
  | .tick => .tuple [.str Wd.tick.val]
instance pyE_deed : PyE eDd := ⟨2, Deed.py, fun d => by
    cases d with
    | ask w g l => cases l <;> rfl
    | mov w g => rfl
    | tick => rfl, fun d => by
    cases d with
    | ask w g l => cases l <;> simp [Deed.py, PyData.canLay0, PyData.canLayAll0, pyOpt, w.ok]
    | mov w g => simp [Deed.py, PyData.canLay0, PyData.canLayAll0, w.ok]
    | tick => simp [Deed.py, PyData.canLay0, PyData.canLayAll0, Wd.ok], fun d => by
    cases d with
    | ask w g l => cases l <;> simp [Deed.py, PyData.depth, PyData.depthAll, pyOpt]
    | mov w g => simp [Deed.py, PyData.depth, PyData.depthAll]
    | tick => simp [Deed.py, PyData.depth, PyData.depthAll], fun a b => by
    have eW' : ∀ v w : Wd, PyData.eqv (.str v.val) (.str w.val) = decide (v = w) := fun v w => pyE_w.eqv v w
    have eI : ∀ v w : Int, PyData.eqv (.int v) (.int w) = decide (v = w) := fun v w => pyE_int.eqv v w
    have eP : ∀ v w : Option Int, PyData.eqv (pyOpt PyData.int v) (pyOpt PyData.int w) = decide (v = w) := fun v w => (pyEO_opt (e := D.int)).eqv v w
    cases a with
    | ask w g l =>
      cases b with
      | ask w' g' l' =>
        simp only [Deed.py, PyData.eqv, PyData.eqvAll, eW', eI, eP, Bool.and_true]
        have eW'' : ∀ v w : Wd, (v.val == w.val) = decide (v = w) := eW'
        have eI' : ∀ v w : Int, (v == w) = decide (v = w) := eI
        simp [eW'', eI']
      | mov w' g' => simp [Deed.py, PyData.eqv, PyData.eqvAll]
      | tick => simp [Deed.py, PyData.eqv, PyData.eqvAll]
    | mov w g =>
      cases b with
      | ask w' g' l' => simp [Deed.py, PyData.eqv, PyData.eqvAll]
      | mov w' g' =>
        have eW'' : ∀ v w : Wd, (v.val == w.val) = decide (v = w) := eW'
        simp [Deed.py, PyData.eqv, PyData.eqvAll, eW'']
        have eI' : ∀ v w : Int, (v == w) = decide (v = w) := eI
        simp [eI']
      | tick => simp [Deed.py, PyData.eqv, PyData.eqvAll]
    | tick =>
      cases b with
      | ask w' g' l' => simp [Deed.py, PyData.eqv, PyData.eqvAll]
      | mov w' g' => simp [Deed.py, PyData.eqv, PyData.eqvAll]
      | tick => simp [Deed.py, PyData.eqv, PyData.eqvAll], fun d => by cases d <;> exact ⟨rfl, rfl⟩⟩

theorem shaped_of (e : α → D) [i : PyEO e] (hn : i.n ≤ 64) (x : α) : SeqAt.shaped (i.py x) = true := by
  unfold SeqAt.shaped
  rw [i.lay, decide_eq_true (by have := i.dep x; omega)]; rfl
theorem py_of (e : α → D) [i : PyEO e] (hn : i.n ≤ 64) (x : α) (h : Hh) : pyOf (e x) h = some (i.py x) := by
  have ed : deref (e x) h = e x := by
    have := i.to x
    cases he : e x with
    | ref j => rw [he, toPy] at this; cases this
    | _ => rfl
  unfold pyOf
  rw [ed, i.to]
  show (if SeqAt.shaped (i.py x) = true then some (i.py x) else none) = _
  rw [if_pos (shaped_of e hn x)]
theorem o_eq (e : α → D) [i : PyEO e] (x y : α) (hn : i.n ≤ 64 := by decide) (h : Hh) : eqO (e x) (e y) h = some (.bl (decide (x = y))) := by
  unfold eqO
  rw [py_of e hn, py_of e hn]
  show some (D.bl (PyData.eqv _ _)) = _
  rw [i.eqv]
theorem o_ne (e : α → D) [i : PyEO e] (x y : α) (hn : i.n ≤ 64 := by decide) (h : Hh) : neO (e x) (e y) h = some (.bl (!decide (x = y))) := by
  unfold neO
  rw [py_of e hn, py_of e hn]
  show some (D.bl (!PyData.eqv _ _)) = _
  rw [i.eqv]
end
end MR

namespace MR
open PySem PySem.Spec PyProof.Rows L2

section
variable {α β γ δ : Type}
def inR (l : List α) (i : Int) : Prop := -(l.length : Int) ≤ i ∧ i < l.length
instance (l : List α) (i : Int) : Decidable (inR l i) := inferInstanceAs (Decidable (_ ∧ _))
def atZ [Inhabited α] (l : List α) (i : Int) : α := ((if 0 ≤ i then l[i.toNat]? else l[(i + l.length).toNat]?) : Option α).getD default
theorem atI_at [Inhabited α] (l : List α) (i : Int) (hi : inR l i) : atI l i = some (atZ l i) := by
  unfold inR at hi
  unfold atZ
  by_cases h : 0 ≤ i
  · rw [ev_atIp l i h, if_pos h, List.getElem?_eq_getElem (by omega)]; rfl
  · rw [ev_atIm l i (by omega), if_neg h, if_pos hi.1, List.getElem?_eq_getElem (by omega)]; rfl
theorem atI_map [Inhabited α] (e : α → D) (l : List α) (i : Int) (hi : inR l i) : atI (l.map e) i = some (e (atZ l i)) := by
  have h2 : atI (l.map e) i = (atI l i).map e := by
    unfold atI ixN
    simp only [List.length_map]
    split
    · split <;> simp
    · split <;> simp
  rw [h2, atI_at l i hi]; rfl
theorem o_ixL [Inhabited α] (e : α → D) (l : List α) (i : Int) (hi : inR l i) (h : Hh) : ixA (eL e l) (.int i) h = some (e (atZ l i)) := by
  show ixA (.lst (l.map e)) (.int i) h = _
  rw [ev_ixL]; exact atI_map e l i hi
theorem o_mod (i j : Int) (hj : 0 < j) (h : Hh) : modO (.int i) (.int j) h = some (.int (i % j)) := if_pos hj
variable {F : Fr} {s s1 s2 : SEnv} {A B : ME} {i : Nat}
def rngT (lo hi : Int) : List Int := (List.range (hi - lo).toNat).map fun i : Nat => lo + (i : Int)
theorem rng_map (lo hi : Int) : rangeD lo hi = (rngT lo hi).map D.int := by unfold rangeD rngT; rw [List.map_map]; rfl
def QL (F : Fr) (s : SEnv) (m : MA) (e : α → D) (l : List α) (s' : SEnv) : Prop := ∀ env h, Sat F s env h → ∃ h', m env h = .ok (l.map e) h' ∧ Sat F s' env h'
theorem ql_frz {e : α → D} {l : List α} {m : MA} (hA : QL F s m e l s1) : QX F s (eFrz m) (eL e l) s1 := q_frz (ds := l.map e) hA
theorem ql_nil {e : α → D} : QL F s aNil e [] s := qa_nil
theorem ql_cons {e : α → D} {x : α} {l : List α} {m : MA} (hA : QX F s A (e x) s1) (hB : QL F s1 m e l s2) : QL F s (aCons A m) e (x :: l) s2 := qa_cons (ds := l.map e) hA hB
variable {e : β → D} {xs : List β} {T : Tg} {vs : List Nat} {t : MT} {el : ME} {e2 : α → D} {p : β → Bool} {f : β → α} {mi : MI}
end
end MR

namespace MR
open PySem PySem.Spec PyProof.Rows L2

section
variable {α β L : Type} {F : Fr} {s s0 : SEnv} {i : Nat}
end

inductive Ctl (S L R X : Type) where
  | nx (s : S)
  | rt (r : R)
  | bk (l : L)
  | ct (l : L)
  | er (x : X)
section
variable {S S' L R X α β : Type}
def Ctl.bind (c : Ctl S L R X) (f : S → Ctl S' L R X) : Ctl S' L R X := match c with
  | .nx s => f s
  | .rt r => .rt r
  | .bk l => .bk l
  | .ct l => .ct l
  | .er x => .er x
def Ctl.All (c : Ctl S L R X) (p : S → Prop) : Prop := match c with
  | .nx s => p s
  | _ => True
@[simp] theorem Ctl.bind_nx (s : S) (f : S → Ctl S' L R X) : (Ctl.nx s : Ctl S L R X).bind f = f s := rfl
@[simp] theorem Ctl.bind_rt (r : R) (f : S → Ctl S' L R X) : (Ctl.rt r : Ctl S L R X).bind f = .rt r := rfl
@[simp] theorem Ctl.bind_bk (r : L) (f : S → Ctl S' L R X) : (Ctl.bk r : Ctl S L R X).bind f = .bk r := rfl
@[simp] theorem Ctl.bind_ct (r : L) (f : S → Ctl S' L R X) : (Ctl.ct r : Ctl S L R X).bind f = .ct r := rfl
@[simp] theorem Ctl.bind_er (r : X) (f : S → Ctl S' L R X) : (Ctl.er r : Ctl S L R X).bind f = .er r := rfl
@[simp] theorem Ctl.bind_ite (p : Prop) [Decidable p] (a b : Ctl S L R X) (f : S → Ctl S' L R X) : (if p then a else b).bind f = if p then a.bind f else b.bind f := by split <;> rfl
@[simp] theorem Ctl.all_nx (s : S) (p : S → Prop) : (Ctl.nx s : Ctl S L R X).All p ↔ p s := Iff.rfl
@[simp] theorem Ctl.all_rt (r : R) (p : S → Prop) : (Ctl.rt r : Ctl S L R X).All p ↔ True := Iff.rfl
@[simp] theorem Ctl.all_bk (r : L) (p : S → Prop) : (Ctl.bk r : Ctl S L R X).All p ↔ True := Iff.rfl
@[simp] theorem Ctl.all_ct (r : L) (p : S → Prop) : (Ctl.ct r : Ctl S L R X).All p ↔ True := Iff.rfl
@[simp] theorem Ctl.all_er (r : X) (p : S → Prop) : (Ctl.er r : Ctl S L R X).All p ↔ True := Iff.rfl
@[simp] theorem Ctl.all_ite (c : Prop) [Decidable c] (a b : Ctl S L R X) (p : S → Prop) : (if c then a else b).All p ↔ (c → a.All p) ∧ (¬ c → b.All p) := by split <;> simp [*]
def letC (v : α) (f : α → β) : β := f v
@[simp] theorem letC_eq (v : α) (f : α → β) : letC v f = f v := rfl
def Ctl.get [Inhabited R] (c : Ctl S L R X) : R := match c with
  | .rt r => r
  | _ => default
@[simp] theorem Ctl.get_rt [Inhabited R] (r : R) : (Ctl.rt r : Ctl S L R X).get = r := rfl
@[simp] theorem Ctl.get_ite [Inhabited R] (p : Prop) [Decidable p] (a b : Ctl S L R X) : (if p then a else b).get = if p then a.get else b.get := by split <;> rfl

open Classical in
end
structure Kf (L R X : Type) where
  F : Fr
  Z : R → D → Hh → Prop
  EX : X → Exn → Prop
  EL : L → SEnv
def Agree (F : Fr) (h : Hh) : Prop := F.h0.length ≤ h.length ∧ ∀ j, j < F.h0.length → j ∉ F.B → h[j]? = F.h0[j]?
theorem Sat.agree {F : Fr} {s : SEnv} {env : DEnv} {h : Hh} (S : Sat F s env h) : Agree F h := ⟨S.le, S.keep⟩
section
variable {S S' S1 S2 L R X α β : Type}
def OutOk (k : Kf L R X) (E : S → SEnv) : RS → Ctl S L R X → Prop
  | .nx env h, .nx x => Sat k.F (E x) env h
  | .rt d h, .rt r => k.Z r d h
  | .bk env h, .bk l => Sat k.F (k.EL l) env h
  | .ct env h, .ct l => Sat k.F (k.EL l) env h
  | .er x _ h, .er y => k.EX y x ∧ Agree k.F h
  | _, _ => False
def QS (k : Kf L R X) (s : SEnv) (m : MS) (E : S → SEnv) (c : Ctl S L R X) : Prop := ∀ env h, Sat k.F s env h → OutOk k E (m env h) c
variable {k : Kf L R X} {s s1 s2 : SEnv} {a b : MS} {E : S → SEnv} {E1 : S1 → SEnv} {E2 : S2 → SEnv} {c : Ctl S L R X}
def Nvr (m : MS) : Prop := ∀ env h env' h', m env h ≠ .nx env' h'
theorem nv_ret {A : ME} : Nvr (sRet A) := fun env h env' h' e => by
  unfold sRet at e
  cases q : A env h with
  | ok a h1 => rw [q] at e; cases e
  | err x h1 => rw [q] at e; cases e
  | stuck => rw [q] at e; cases e
theorem qs_ifr {t : MT} {r : MS} {p : Bool} {ca cb : Ctl S L R X} (ht : QT k.F s t p s1) (nv : Nvr a) (ha : p = true → QS k s1 a E ca) (hb : p = false → QS k s1 r E cb) : QS k s (sSeq (sIf t a sNext) r) E (if p = true then ca else cb) := fun env h Sx => by
  obtain ⟨h1, e1, S1⟩ := ht env h Sx
  unfold sSeq sIf
  rw [e1]
  cases p with
  | true =>
    show OutOk k E ((a env h1).seq r) ca
    have o := ha rfl env h1 S1
    cases e : a env h1 with
    | nx env' h' => exact absurd e (nv _ _ _ _)
    | rt d h' => rw [e] at o; exact o
    | bk d h' => rw [e] at o; exact o
    | ct d h' => rw [e] at o; exact o
    | er x d h' => rw [e] at o; exact o
    | stuck => rw [e] at o; exact o
  | false => exact hb rfl env h1 S1
def Ctl.map (c : Ctl S L R X) (g : S → S') : Ctl S' L R X := c.bind fun x => .nx (g x)
def ZB {R T : Type} (F : Fr) (eR : R → D) (p : Nat) (oc : T → O) : R × T → D → Hh → Prop := fun r d h => d = eR r.1 ∧ Agree F h ∧ h[p]? = some (oc r.2)
theorem qs_retB {T : Type} {F : Fr} {EX : X → Exn → Prop} {EL : L → SEnv} {eR : R → D} {A : ME} {v : R} {p i : Nat} {oc : T → O} {l : T} (hA : QX F s A (eR v) s1) (hi : s1[i]? = some (some (Sl.bor p (oc l)))) : QS ⟨F, ZB F eR p oc, EX, EL⟩ s (sRet A) E (.rt (v, l)) := fun env h Sx => by
  obtain ⟨h1, e1, S1⟩ := hA env h Sx
  unfold sRet
  rw [e1]
  refine ⟨rfl, S1.agree, ?_⟩
  obtain ⟨q, a, b⟩ := S1.cell i (oc l) (.inr ⟨p, hi⟩)
  have := (S1.bor i p _ hi).1
  rw [a] at this
  cases this
  exact b
end

section
variable {R T : Type} {n : Nat} {N : List Str} {b : MS} {ds : List D} {h : Hh}
def begB (N : List Str) (p : Nat) (o : O) (ds : List D) : SEnv := some (Sl.bor p o) :: (ds.map (fun d => some (Sl.v d)) ++ List.replicate (N.length - (ds.length + 1)) none)
theorem begB_sat {F : Fr} {p : Nat} {o : O} (hN : ds.length + 1 ≤ N.length) (hF : F.h0 = h) (hB : p ∈ F.B) (hp : h[p]? = some o) : Sat F (begB N p o ds) (startD N (.ref p :: ds)) h := by
  have hl : p < h.length := (List.getElem?_eq_some_iff.mp hp).1
  have val : ∀ (i : Nat) (c : Sl), (begB N p o ds)[i]? = some (some c) → i = 0 ∧ c = .bor p o ∨ ∃ d, c = .v d ∧ (startD N (.ref p :: ds))[i]? = some (some d) := fun i c e => by
    cases i with
    | zero =>
      left
      have e : some (some (Sl.bor p o)) = some (some c) := e
      cases e
      exact ⟨rfl, rfl⟩
    | succ i =>
      right
      have e : (ds.map (fun d => some (Sl.v d)) ++ List.replicate (N.length - (ds.length + 1)) none)[i]? = some (some c) := e
      show ∃ d, c = .v d ∧ (ds.map some ++ List.replicate (N.length - (ds.length + 1)) none)[i]? = some (some d)
      by_cases hi : i < ds.length
      · rw [List.getElem?_append_left (by simpa using hi), List.getElem?_map, List.getElem?_eq_getElem hi] at e ⊢
        cases e
        exact ⟨_, rfl, rfl⟩
      · rw [List.getElem?_append_right (by simpa using hi), List.getElem?_replicate] at e
        split at e <;> cases e
  have nc : ∀ (i : Nat) (o' : O), Hs (begB N p o ds) i o' → i = 0 ∧ o' = o := fun i o' x => by
    rcases x with x | ⟨q, x⟩
    · rcases val i _ x with ⟨_, e⟩ | ⟨d, e, _⟩ <;> cases e
    · rcases val i _ x with ⟨h1, e⟩ | ⟨d, e, _⟩
      · cases e; exact ⟨h1, rfl⟩
      · cases e
  exact {
    len := by simp [begB, startD]
    le := by rw [hF]; exact Nat.le_refl _
    keep := fun j _ _ => by rw [hF]
    val := fun i d e => by
      rcases val i _ e with ⟨_, e1⟩ | ⟨d', e1, e2⟩
      · cases e1
      · cases e1; exact e2
    cell := fun i o' x => by
      obtain ⟨rfl, rfl⟩ := nc i o' x
      exact ⟨p, rfl, hp⟩
    own := fun i o' q x _ => by
      rcases val i _ x with ⟨_, e⟩ | ⟨d, e, _⟩ <;> cases e
    bor := fun i q o' x => by
      rcases val i _ x with ⟨h1, e⟩ | ⟨d, e, _⟩
      · cases e; subst h1; exact ⟨rfl, by rw [hF]; exact hl, hB⟩
      · cases e
    sep := fun i j o1 o2 q n x y _ _ => n ((nc i o1 x).1.trans (nc j o2 y).1.symm)
    hid := fun i q o' x => by rcases val i _ x with ⟨_, e⟩ | ⟨d, e, _⟩ <;> cases e
    hsep := fun i j q o' o'' _ x _ => by rcases val i _ x with ⟨_, e⟩ | ⟨d, e, _⟩ <;> cases e
    hcs := fun i j q o' o'' _ _ x => by rcases val j _ x with ⟨_, e⟩ | ⟨d, e, _⟩ <;> cases e }
theorem fn_bor {eR : R → D} {e : T → D} [NR eR] [NR e] [Inhabited R] [Inhabited T] {p : Nat} {l : List T} {c : Ctl Empty Empty (R × List T) Empty} (hp : h[p]? = some (oL e l)) (hq : QS (⟨⟨h, [p]⟩, ZB ⟨h, [p]⟩ eR p (oL e), fun x _ => x.elim, fun l => l.elim⟩ : Kf Empty (R × List T) Empty) (begB N p (oL e l) ds) b (fun x => x.elim) c) (hn : ds.length + 1 = n := by rfl) (hN : ds.length + 1 ≤ N.length := by decide) :
    dropF (runF n N b) (.ref p :: ds) h = .ok (eR c.get.1) (h.set p (oL e c.get.2)) := by
  have o := hq (startD N (.ref p :: ds)) h (begB_sat hN rfl (by simp) hp)
  have hl : p < h.length := (List.getElem?_eq_some_iff.mp hp).1
  cases c with
  | nx x => exact x.elim
  | bk x => exact x.elim
  | ct x => exact x.elim
  | er x => exact x.elim
  | rt r =>
    cases e1 : b (startD N (.ref p :: ds)) h with
    | rt d h' =>
      rw [e1] at o
      obtain ⟨e2, ⟨o1, o2⟩, o3⟩ := o
      have e3 : runF n N b (.ref p :: ds) h = .ok (eR r.1) h' := by
        rw [run_eq (ds := .ref p :: ds) hn, e1, ev_out_rt, e2]
      have e4 : h'.take h.length = h.set p (oL e r.2) := by
        apply List.ext_getElem?
        intro j
        by_cases hj : j < h.length
        · rw [List.getElem?_take_of_lt hj]
          by_cases hpj : p = j
          · subst hpj; rw [o3, List.getElem?_set_self hl]
          · rw [List.getElem?_set_ne hpj]; exact o2 j hj (by simpa using Ne.symm hpj)
        · rw [List.getElem?_eq_none (by rw [List.length_take]; omega), List.getElem?_eq_none (by rw [List.length_set]; omega)]
      show _ = Res.ok (eR r.1) (h.set p (oL e r.2))
      rw [← e4]
      refine dropF_of e3 (NR.nr _ _) o1 fun i ob hi e5 => ?_
      by_cases hpi : p = i
      · subst hpi
        rw [o3] at e5
        cases e5
        right
        show bels h.length (r.2.map e) = true
        exact bels_map _ _
      · left
        rw [← o2 i hi (by simpa using Ne.symm hpi)]; exact e5
    | nx d h' => rw [e1] at o; exact o.elim
    | bk d h' => rw [e1] at o; exact o.elim
    | ct d h' => rw [e1] at o; exact o.elim
    | er x d h' => rw [e1] at o; exact o.elim
    | stuck => rw [e1] at o; exact o.elim
end
end MR

namespace MR
open PySem PySem.Spec PyProof.Rows L2

mutual
/-- what was made stands still from now on -/
def frzD (n : Nat) (h : Hh) : D → Option D
  | .ref i => if i < n then some (D.ref i) else match h[i]? with
    | some (.lst xs) => if bels n xs = true then some (D.lst xs) else none
    | some (.dN kvs) => if (bels n (kvs.map (·.1)) && bels n (kvs.map (·.2))) = true then some (D.dct (kvs.map (·.1)) (kvs.map (·.2))) else none
    | _ => none
  | .tup ds => (frzDs n h ds).map D.tup
  | .wtp ds => (frzDs n h ds).map D.wtp
  | .lst ds => if bels n ds = true then some (D.lst ds) else none
  | .non => some .non
  | .bl b => some (.bl b)
  | .int b => some (.int b)
  | .str b => some (.str b)
  | .glb b => some (.glb b)
  | .scr b => some (.scr b)
  | .dct ks ds => if (bels n ks && bels n ds) = true then some (D.dct ks ds) else none
def frzDs (n : Nat) (h : Hh) : List D → Option (List D)
  | [] => some []
  | d :: ds => match frzD n h d, frzDs n h ds with
    | some x, some xs => some (x :: xs)
    | _, _ => none
end
mutual
theorem den_frz {G : Gm} {rho rho' : Rm} {H H' : Hp} {hh g : Hh} (R : Rep G rho hh H) (S : Step rho H rho' H') (R' : Rep G rho' (hh ++ g) H') : ∀ (d d' : D) (v : V), Den G rho' H' d v → frzD hh.length (hh ++ g) d = some d' → Den G rho H' d' v
  | .ref i, d', v, q, e => by
    rw [frzD] at e
    rw [Den] at q
    obtain ⟨a, e1, rfl⟩ := q
    obtain ⟨ex, ee, hex⟩ := S.ext
    split at e
    · rename_i hi
      cases e
      rw [Den]
      refine ⟨a, ?_, rfl⟩
      rw [ee, List.getElem?_append_left (by rw [R.len]; exact hi)] at e1
      exact e1
    · rename_i hi
      split at e
      · rename_i xs e2
        split at e
        · rename_i hb
          cases e
          obtain ⟨vs, e3, l, q⟩ := R'.ob i a _ e1 e2
          have hae : a ∈ ex := by
            rw [ee, List.getElem?_append_right (by rw [R.len]; omega)] at e1
            exact List.mem_of_getElem? e1
          have hn : H a = none := hex a hae
          rw [Den]
          refine ⟨a, vs, rfl, e3, fun hm => ?_, fun hm => ?_, l, ?_⟩
          · obtain ⟨u, e4, _⟩ := R.mut hm
            rw [hn] at e4; cases e4
          · obtain ⟨u, e4⟩ := R.hd a hm
            rw [hn] at e4; cases e4
          · exact Dens.res ⟨ex, ee⟩ (fun a _ n m => n (S.kept a m)) xs vs q (by rw [R.len]; exact hb)
        · cases e
      · rename_i kvs e2
        split at e
        · rename_i hb
          cases e
          rw [Bool.and_eq_true] at hb
          obtain ⟨xs, l0, l1, es, e3, q, k3, k4, k5⟩ := R'.ob i a _ e1 e2
          have hae : a ∈ ex := by
            rw [ee, List.getElem?_append_right (by rw [R.len]; omega)] at e1
            exact List.mem_of_getElem? e1
          have hn : H a = none := hex a hae
          obtain ⟨us, k1, k2, d1, d2⟩ := dn_split q
          rw [Den]
          refine ⟨a, xs, es, us, rfl, e3, fun hm => ?_, fun hm => ?_, l0, l1, k1, k2, k3, k4, k5, ?_, ?_⟩
          · obtain ⟨u, e4, _⟩ := R.mut hm
            rw [hn] at e4; cases e4
          · obtain ⟨u, e4⟩ := R.hd a hm
            rw [hn] at e4; cases e4
          · exact Dens.res ⟨ex, ee⟩ (fun a _ n m => n (S.kept a m)) _ _ d1 (by rw [R.len]; exact hb.1)
          · exact Dens.res ⟨ex, ee⟩ (fun a _ n m => n (S.kept a m)) _ us d2 (by rw [R.len]; exact hb.2)
        · cases e
      · cases e
  | .tup ds, d', v, q, e => by
    rw [frzD] at e
    obtain ⟨ds', e1, rfl⟩ := Option.map_eq_some_iff.mp e
    rw [Den] at q ⊢
    obtain ⟨a, vs, e2, q1, l, q2⟩ := q
    exact ⟨a, vs, e2, q1, l, dens_frz R S R' ds ds' vs q2 e1⟩
  | .wtp ds, d', v, q, e => by
    rw [frzD] at e
    obtain ⟨ds', e1, rfl⟩ := Option.map_eq_some_iff.mp e
    rw [Den] at q ⊢
    obtain ⟨a, vs, e2, q1, l, q2⟩ := q
    exact ⟨a, vs, e2, q1, l, dens_frz R S R' ds ds' vs q2 e1⟩
  | .lst ds, d', v, q, e => by
    rw [frzD] at e
    split at e
    · rename_i hb
      cases e
      obtain ⟨ex, ee, hex⟩ := S.ext
      exact Den.res ⟨ex, ee⟩ (fun a _ n m => n (S.kept a m)) _ v q (by rw [MR.bel, R.len]; exact hb)
    · cases e
  | .non, d', v, q, e => by rw [frzD] at e; cases e; exact q
  | .bl _, d', v, q, e => by rw [frzD] at e; cases e; exact q
  | .int _, d', v, q, e => by rw [frzD] at e; cases e; exact q
  | .str _, d', v, q, e => by rw [frzD] at e; cases e; exact q
  | .glb _, d', v, q, e => by rw [frzD] at e; cases e; exact q
  | .scr _, d', v, q, e => by rw [frzD] at e; cases e; rw [Den] at q ⊢; exact q
  | .dct ks ds, d', v, q, e => by
    rw [frzD] at e
    split at e
    · rename_i hb
      cases e
      obtain ⟨ex, ee, hex⟩ := S.ext
      exact Den.res ⟨ex, ee⟩ (fun a _ n m => n (S.kept a m)) _ v q (by rw [MR.bel, R.len]; exact hb)
    · cases e
theorem dens_frz {G : Gm} {rho rho' : Rm} {H H' : Hp} {hh g : Hh} (R : Rep G rho hh H) (S : Step rho H rho' H') (R' : Rep G rho' (hh ++ g) H') : ∀ (ds ds' : List D) (vs : List V), Dens G rho' H' ds vs → frzDs hh.length (hh ++ g) ds = some ds' → Dens G rho H' ds' vs
  | [], ds', vs, q, e => by rw [frzDs] at e; cases e; exact q
  | d :: ds, ds', vs, q, e => by
    rw [frzDs] at e
    rw [Dens] at q
    obtain ⟨v, r, rfl, q1, q2⟩ := q
    cases e1 : frzD hh.length (hh ++ g) d with
    | none => rw [e1] at e; cases e
    | some x =>
      cases e2 : frzDs hh.length (hh ++ g) ds with
      | none => rw [e1, e2] at e; cases e
      | some xs =>
        rw [e1, e2] at e
        cases e
        rw [Dens]
        exact ⟨v, r, rfl, den_frz R S R' d x v q1 e1, dens_frz R S R' ds xs r q2 e2⟩
end
noncomputable def frzF (F : MF) : MF := fun ds h => match F ds h with
  | .ok d h' => open Classical in if ∃ g, h' = h ++ g then (match frzD h.length h' d with | some d' => .ok d' h | none => .stuck) else .stuck
  | .err x h' => .err x h'
  | .stuck => .stuck
theorem frzF_of {F : MF} {ds : List D} {h g : Hh} {d d' : D} (e : F ds h = .ok d (h ++ g)) (b : frzD h.length (h ++ g) d = some d') : frzF F ds h = .ok d' h := by
  unfold frzF
  rw [e]
  show (open Classical in if ∃ g', h ++ g = h ++ g' then (match frzD h.length (h ++ g) d with | some d' => Res.ok d' h | none => .stuck) else .stuck) = _
  rw [if_pos ⟨g, rfl⟩, b]
theorem FnD.frz {P : Program} {w : World} {K : PySem.W.Frag} {mg : Str → Option Value} {base : Heap} {k : Nat} {f : Addr} {fd : FuncData} {ps : List Str} {F : MF} (h : FnD P w K mg base k f fd ps F) : FnD P w K mg base k f fd ps (frzF F) :=
  FnOk.imp h fun vs H Q E ⟨hl, rho, hh, ds, R, q, p⟩ => ⟨hl, rho, hh, ds, R, q, by
    unfold frzF at p
    cases e : F ds hh with
    | ok d hh' =>
      rw [e] at p
      simp only at p
      split at p
      · rename_i hc
        obtain ⟨g, rfl⟩ := hc
        cases e2 : frzD hh.length (hh ++ g) d with
        | none => rw [e2] at p; exact p.elim
        | some d' =>
          rw [e2] at p
          intro rho' H' v S R' q'
          obtain ⟨ex, ee, hex⟩ := S.ext
          have h2 : ∀ a, a ∉ rho'.at_ → a ∉ rho'.res → a ∉ rho.res := fun a _ n m => n (S.kept a m)
          exact p rho H' v S.drop (R.drop S ⟨ex, ee⟩ h2 R') (den_frz R S R' d d' v q' e2)
      · exact p.elim
    | err x hh' => rw [e] at p; exact p
    | stuck => rw [e] at p; exact p⟩
mutual
theorem frz_bel (n : Nat) (h : Hh) : ∀ d : D, bel 0 d = true → frzD n h d = some d
  | .ref i, e => by rw [bel] at e; simp at e
  | .tup ds, e => by rw [bel] at e; rw [frzD, frzs_bel n h ds e]; rfl
  | .wtp ds, e => by rw [bel] at e; rw [frzD, frzs_bel n h ds e]; rfl
  | .lst ds, e => by rw [bel] at e; rw [frzD, if_pos (bels_up ds e)]
  | .non, _ => rfl
  | .bl _, _ => rfl
  | .int _, _ => rfl
  | .str _, _ => rfl
  | .glb _, _ => rfl
  | .scr _, _ => rfl
  | .dct ks ds, e => by
    rw [bel, Bool.and_eq_true] at e
    rw [frzD, bels_up ks e.1, bels_up ds e.2]; rfl
theorem frzs_bel (n : Nat) (h : Hh) : ∀ ds : List D, bels 0 ds = true → frzDs n h ds = some ds
  | [], _ => rfl
  | d :: ds, e => by
    rw [bels, Bool.and_eq_true] at e
    rw [frzDs, frz_bel n h d e.1, frzs_bel n h ds e.2]
theorem bel_up {n : Nat} : ∀ d : D, bel 0 d = true → bel n d = true
  | .ref i, e => by rw [bel] at e; simp at e
  | .tup ds, e => by rw [bel] at e ⊢; exact bels_up ds e
  | .wtp ds, e => by rw [bel] at e ⊢; exact bels_up ds e
  | .lst ds, e => by rw [bel] at e ⊢; exact bels_up ds e
  | .non, _ => rfl
  | .bl _, _ => rfl
  | .int _, _ => rfl
  | .str _, _ => rfl
  | .glb _, _ => rfl
  | .scr _, _ => rfl
  | .dct ks ds, e => by
    rw [bel, Bool.and_eq_true] at e
    rw [bel, bels_up ks e.1, bels_up ds e.2]; rfl
theorem bels_up {n : Nat} : ∀ ds : List D, bels 0 ds = true → bels n ds = true
  | [], _ => rfl
  | d :: ds, e => by
    rw [bels, Bool.and_eq_true] at e ⊢
    exact ⟨bel_up d e.1, bels_up ds e.2⟩
end
instance : NR D.scr := ⟨fun _ _ => rfl⟩
inductive Cp where
  | val (x : D)
  | slot (i : Nat)
def Cp.res (env : DEnv) : Cp → D
  | .val x => x
  | .slot i => (env[i]?.join).getD D.non
section
variable {S S' S1 S2 L R X α β γ δ : Type} {F : Fr} {s s1 s2 : SEnv} {A B : ME} {i : Nat} {E : S → SEnv} {EX : X → Exn → Prop} {EL : L → SEnv} {eR : R → D}
inductive Fzs (s : SEnv) : List Cp → List D → Prop where
  | nil : Fzs s [] []
  | v {α : Type} {e : α → D} {x : α} {cs ds} (nr : NR e := by infer_instance) : Fzs s cs ds → Fzs s (.val (e x) :: cs) (e x :: ds)
  | o {α : Type} {e : α → D} {l : List α} {i : Nat} {cs ds} (nr : NR e := by infer_instance) : s[i]? = some (some (Sl.own (oL e l))) → Fzs s cs ds → Fzs s (.slot i :: cs) (eL e l :: ds)
theorem q_some {e : α → D} {v : α} {m : ME} (h : QX F s m (e v) s1) : QX F s m (eO e (some v)) s1 := h
theorem q_none {e : α → D} : QX F s (eC .non) (eO e none) s := q_c
variable {ea : α → D} {eb : β → D} {ec : γ → D} {ed : δ → D} {a : α} {b : β} {c : γ} {d : δ} {C D' : ME} {s3 s4 : SEnv}
theorem q_dask {w : Wd} {g : Int} {l : Option Int} (hA : QX F s A (eW w) s1) (hB : QX F s1 B (.int g) s2) (hC : QX F s2 C (eO D.int l) s3) : QX F s (eTup (aCons A (aCons B (aCons C aNil)))) (eDd (.ask w g l)) s3 := q_tup (qa_cons hA (qa_cons hB (qa_cons hC qa_nil)))
theorem q_dmov {w : Wd} {g : Int} (hA : QX F s A (eW w) s1) (hB : QX F s1 B (.int g) s2) : QX F s (eTup (aCons A (aCons B aNil))) (eDd (.mov w g)) s2 := q_tup (qa_cons hA (qa_cons hB qa_nil))
theorem q_dtick (hA : QX F s A (eW .tick) s1) : QX F s (eTup (aCons A aNil)) (eDd .tick) s1 := q_tup (qa_cons hA qa_nil)
theorem o_isiB (b : Bool) (h : Hh) : isiO [.bl b, .glb (.ty "bool")] h = some (.bl true) := by rw [ev_isi, ev_tyB]; show (kitB "bool" "bool").map D.bl = _; rw [kit_bool.2.2.2.2.1]; rfl
end
end MR

namespace MR
open PySem PySem.Spec PyProof.Rows L2

section
variable {S S' S1 S2 L R X α β γ δ ρ : Type} {F : Fr} {s s1 s2 : SEnv} {A B : ME} {i j : Nat} {E : S → SEnv} {k : Kf L R X} {b : MS}
theorem q_callB2 {G : MF} {ms : MA} {ds : List D} {o o0 o' : O} {d : D} (h0 : Hs s i o0) (hB : QA F s ms ds s1) (hx : Hs s1 i o) (ho : ∀ h p, h[p]? = some o → G (.ref p :: ds) h = .ok d (h.set p o')) : QX F s (eCall G (aCons (eSlot i) ms)) d (chS s1 i o') := fun env h S => by
  obtain ⟨p0, e0, _⟩ := S.cell i o0 h0
  obtain ⟨h1, e1, S1⟩ := hB env h S
  obtain ⟨p, e2, e3⟩ := S1.cell i o hx
  rw [e0] at e2
  cases e2
  refine ⟨h1.set p0 o', ?_, S1.change hx e0 o'⟩
  unfold eCall aCons eSlot
  rw [e0]
  show (((ms env h).bind fun xs h2 => Res.ok (D.ref p0 :: xs) h2).bind fun ds h1 => G ds h1) = _
  rw [e1, bind_ok, bind_ok, ho h1 p0 e3]
theorem qs_letX {r : ρ} {ed : ρ → D} {Ev : ρ → SEnv} {c2 : ρ → Ctl S L R X} {ok : ρ → Prop} (hA : QX k.F s A (ed r) (Ev r)) (hok : ok r) (h2 : ∀ r, ok r → QS k ((Ev r).set i (some (.v (ed r)))) b E (c2 r)) : QS k s (sSeq (sAsg A (gName i)) b) E (letC r c2) := fun env h Sx => by
  obtain ⟨h1, e1, S1⟩ := hA env h Sx
  have := h2 r hok (env.set i (some (ed r))) h1 (S1.setV i (ed r))
  unfold sSeq sAsg
  rw [e1]
  exact this
end
end MR

namespace MR
open PySem PySem.Spec PyProof.Rows L2

section
variable {S S' S1 S2 L R X α β γ δ ρ : Type}
variable {F : Fr} {s s1 s2 : SEnv} {A B : ME} {i : Nat} {E : S → SEnv} {k : Kf L R X} {b : MS}
end
end MR

namespace MR
open PySem PySem.Spec PyProof.Rows L2
section
variable {S S' S1 S2 L R X α β γ δ ρ : Type} {k : Kf L R X} {s s1 s2 : SEnv} {a b : MS} {E : S → SEnv} {E1 : S1 → SEnv} {A : ME} {i j : Nat}
end
end MR
namespace MR
open PySem PySem.Spec PyProof.Rows L2
section
variable {S S' S1 S2 L R X α β γ δ ρ : Type} {k : Kf L R X} {s s1 s2 : SEnv} {b : MS} {E : S → SEnv} {A B : ME} {i j : Nat} {F : Fr}
end
end MR

namespace MR
open PySem PySem.Spec PyProof.Rows L2

section
variable {S S' S1 S2 L R X α β γ δ ρ : Type}
@[simp] theorem ctl_ite_rt (c : Prop) [Decidable c] (a b : R) : (if c then (Ctl.rt a : Ctl S L R X) else .rt b) = .rt (if c then a else b) := by split <;> rfl
theorem mem_rngT {lo hi k : Int} : k ∈ rngT lo hi ↔ lo ≤ k ∧ k < hi := by
  unfold rngT
  rw [List.mem_map]
  constructor
  · rintro ⟨i, h, rfl⟩
    have := List.mem_range.mp h
    omega
  · rintro ⟨h1, h2⟩
    exact ⟨(k - lo).toNat, List.mem_range.mpr (by omega), by omega⟩
theorem rngT_len (lo hi : Int) : (rngT lo hi).length = (hi - lo).toNat := by unfold rngT; simp
theorem at_atZ [Inhabited α] {l : List α} {i : Int} (h0 : 0 ≤ i) (h1 : i < l.length) : l[i.toNat]? = some (atZ l i) := by
  unfold atZ
  rw [if_pos h0, List.getElem?_eq_getElem (by omega)]; rfl
theorem atZ_mem [Inhabited α] {l : List α} {i : Int} (h0 : 0 ≤ i) (h1 : i < l.length) : atZ l i ∈ l := List.mem_of_getElem? (at_atZ h0 h1)
theorem inR_of {l : List α} {i : Int} (h0 : 0 ≤ i) (h1 : i < l.length) : inR l i := ⟨by omega, h1⟩
@[simp] theorem atZ_zero [Inhabited α] (x : α) (l : List α) : atZ (x :: l) (0 : Int) = x := rfl
theorem nodup_le : ∀ (n : Nat) (l : List Int), l.Nodup → (∀ x ∈ l, 0 ≤ x ∧ x < n) → l.length ≤ n := fun n l nd h => by
  have := nodup_len n (l.map Int.toNat) (by
    rw [List.Nodup, List.pairwise_map]
    refine List.Pairwise.imp_of_mem ?_ nd
    intro a b ha hb hne e
    have := h a ha; have := h b hb; omega) fun x m => by
    obtain ⟨y, hy, rfl⟩ := List.mem_map.mp m
    have := h y hy; omega
  simpa using this
end
end MR

namespace MR
open PySem PySem.Spec PyProof.Rows L2
abbrev TRule := Wd × Int × Int × Int
abbrev TEn := Int × Wd × Int × Option Int
abbrev TRoom := List Wd × List TEn
def PlW : List Wd := [.out, .reads, .rising, .writes, .raised]
structure RmOk (n : Nat) (m : TRoom) : Prop where
  len : m.1.length = n
  pl : ∀ w ∈ m.1, w ∈ PlW
  gs : ∀ e ∈ m.2, 0 ≤ e.1 ∧ e.1 < n
  out : ∀ e ∈ m.2, m.1[e.1.toNat]? = some Wd.out
  rw : ∀ e ∈ m.2, e.2.1 = Wd.read ∨ e.2.1 = Wd.write
  nd : (m.2.map (·.1)).Nodup
theorem RmOk.few {n : Nat} {m : TRoom} (R : RmOk n m) : m.2.length ≤ n := by
  have := nodup_le n (m.2.map (·.1)) R.nd fun x hx => by
    obtain ⟨e, he, rfl⟩ := List.mem_map.mp hx
    exact R.gs e he
  simpa using this
theorem nodup_inj {α β : Type} {f : α → β} : ∀ {l : List α}, (l.map f).Nodup → ∀ {a b : α}, a ∈ l → b ∈ l → f a = f b → a = b
  | [], _, _, _, h, _, _ => by cases h
  | x :: xs, nd, a, b, ha, hb, h => by
    rw [List.map_cons, List.nodup_cons] at nd
    rcases List.mem_cons.mp ha with e1 | h1
    · rcases List.mem_cons.mp hb with e2 | h2
      · rw [e1, e2]
      · exact absurd (List.mem_map.mpr ⟨b, h2, by rw [← h, e1]⟩) nd.1
    · rcases List.mem_cons.mp hb with e2 | h2
      · exact absurd (List.mem_map.mpr ⟨a, h1, by rw [h, e2]⟩) nd.1
      · exact nodup_inj nd.2 h1 h2 h
theorem RmOk.one {n : Nat} {m : TRoom} (R : RmOk n m) {e f : TEn} (he : e ∈ m.2) (hf : f ∈ m.2) (h : e.1 = f.1) : e = f := nodup_inj (f := fun x : TEn => x.1) R.nd he hf h
structure DdOk (n : Nat) (d : Deed) : Prop where
  gs : d.isTick = false → 0 ≤ d.guest ∧ d.guest < n
  wd : match d with
    | .ask w _ l => (w = Wd.read ∨ w = Wd.write) ∧ (l = none ∨ ∃ k : Int, l = some k ∧ 0 ≤ k ∧ k ≤ 9)
    | .mov w _ => w = Wd.up ∨ w = Wd.down ∨ w = Wd.leave ∨ w = Wd.stop
    | .tick => True
def stays (m : TRoom) (g : Int) : Bool := decide (g ∈ m.2.map (fun e : TEn => e.1))
def offT (g : Int) (es : List TEn) : List TEn := es.filter fun e => !decide (e.1 = g)
theorem RmOk.sub {n : Nat} {ws : List Wd} {es : List TEn} (R : RmOk n (ws, es)) (p : TEn → Bool) : RmOk n (ws, es.filter p) :=
  ⟨R.len, R.pl, fun e he => R.gs e (List.mem_filter.mp he).1, fun e he => R.out e (List.mem_filter.mp he).1, fun e he => R.rw e (List.mem_filter.mp he).1, List.Nodup.sublist (List.Sublist.map _ List.filter_sublist) R.nd⟩
theorem RmOk.put {n : Nat} {ws : List Wd} {es : List TEn} (R : RmOk n (ws, es)) {g : Int} (h0 : 0 ≤ g) {w : Wd} (hw : w ∈ PlW) : RmOk n (ws.set g.toNat w, offT g es) := by
  have R' := R.sub fun e => !decide (e.1 = g)
  refine ⟨by rw [List.length_set]; exact R.len, fun x hx => ?_, R'.gs, fun e he => ?_, R'.rw, R'.nd⟩
  · rcases List.mem_or_eq_of_mem_set hx with q | q
    · exact R.pl x q
    · rw [q]; exact hw
  · have h1 := List.mem_filter.mp he
    have h2 : e.1 ≠ g := by simpa using h1.2
    have h3 := (R.gs e h1.1).1
    rw [List.getElem?_set_ne (by omega)]
    exact R.out e h1.1
theorem RmOk.ask {n : Nat} {m : TRoom} (R : RmOk n m) {g : Int} (h0 : 0 ≤ g) (h1 : g < n) (ho : atZ m.1 g = Wd.out) (hs : stays m g = false) {w : Wd} (hw : w = Wd.read ∨ w = Wd.write) (mk : Int) (l : Option Int) : RmOk n (m.1, m.2 ++ [(g, w, mk, l)]) := by
  have len := R.len
  refine ⟨R.len, R.pl, fun e he => ?_, fun e he => ?_, fun e he => ?_, ?_⟩
  · rcases List.mem_append.mp he with h | h
    · exact R.gs e h
    · rw [List.mem_singleton.mp h]; exact ⟨h0, h1⟩
  · rcases List.mem_append.mp he with h | h
    · exact R.out e h
    · rw [List.mem_singleton.mp h]
      have := at_atZ (l := m.1) h0 (by omega)
      rw [ho] at this; exact this
  · rcases List.mem_append.mp he with h | h
    · exact R.rw e h
    · rw [List.mem_singleton.mp h]; exact hw
  · show ((m.2 ++ [(g, w, mk, l)]).map (fun e : TEn => e.1)).Nodup
    rw [List.map_append, List.nodup_append]
    refine ⟨R.nd, by simp, fun a ha b hb => ?_⟩
    have : b = g := by simpa using hb
    subst this
    intro z
    subst z
    exact absurd ha (of_decide_eq_false hs)
class FitE {α : Type} (e : α → D) where
  n : Nat
  f : ∀ a, fit n (e a) = true
section
variable {α β γ δ : Type}
instance : FitE D.int := ⟨1, fun _ => rfl⟩
instance : FitE D.bl := ⟨1, fun _ => rfl⟩
instance : FitE eW := ⟨1, fun w => w.ok⟩
instance {e : α → D} [i : FitE e] : FitE (eO e) := ⟨i.n + 1, fun a => by
  cases a with
  | none => rfl
  | some a => exact fit_le (Nat.le_succ _) (i.f a)⟩
theorem fit_list {e : α → D} [i : FitE e] (l : List α) : (l.map e).all (fit i.n) = true := List.all_eq_true.mpr fun d hd => by
  obtain ⟨a, _, rfl⟩ := List.mem_map.mp hd
  exact i.f a
instance {e : α → D} [i : FitE e] : FitE (eS e) := ⟨i.n + 1, fun l => fit_list l⟩
instance {e : α → D} [i : FitE e] : FitE (eL e) := ⟨i.n + 1, fun l => fit_list l⟩
instance {a : α → D} [i : FitE a] : FitE (eT1 a) := ⟨i.n + 1, fun p => fit_tup.mpr fun d hd => by
  rw [List.mem_singleton.mp hd]; exact i.f p⟩
instance {a : α → D} {b : β → D} [i : FitE a] [j : FitE b] : FitE (eT2 a b) := ⟨max i.n j.n + 1, fun p => fit_tup.mpr fun d hd => by
  simp only [List.mem_cons, List.not_mem_nil, or_false] at hd
  rcases hd with rfl | rfl
  · exact fit_le (Nat.le_max_left _ _) (i.f _)
  · exact fit_le (Nat.le_max_right _ _) (j.f _)⟩
instance {a : α → D} {b : β → D} {c : γ → D} [i : FitE a] [j : FitE b] [k : FitE c] : FitE (eT3 a b c) := ⟨max i.n (max j.n k.n) + 1, fun p => fit_tup.mpr fun d hd => by
  simp only [List.mem_cons, List.not_mem_nil, or_false] at hd
  rcases hd with rfl | rfl | rfl
  · exact fit_le (by omega) (i.f _)
  · exact fit_le (by omega) (j.f _)
  · exact fit_le (by omega) (k.f _)⟩
instance {a : α → D} {b : β → D} {c : γ → D} {d : δ → D} [i : FitE a] [j : FitE b] [k : FitE c] [l : FitE d] : FitE (eT4 a b c d) := ⟨max i.n (max j.n (max k.n l.n)) + 1, fun p => fit_tup.mpr fun d hd => by
  simp only [List.mem_cons, List.not_mem_nil, or_false] at hd
  rcases hd with rfl | rfl | rfl | rfl
  · exact fit_le (by omega) (i.f _)
  · exact fit_le (by omega) (j.f _)
  · exact fit_le (by omega) (k.f _)
  · exact fit_le (by omega) (l.f _)⟩
instance : FitE eDd := ⟨3, fun d => by
  cases d with
  | ask w g l =>
    refine fit_tup.mpr fun d hd => ?_
    simp only [List.mem_cons, List.not_mem_nil, or_false] at hd
    rcases hd with rfl | rfl | rfl
    · exact w.ok
    · rfl
    · cases l <;> rfl
  | mov w g =>
    refine fit_tup.mpr fun d hd => ?_
    simp only [List.mem_cons, List.not_mem_nil, or_false] at hd
    rcases hd with rfl | rfl
    · exact w.ok
    · rfl
  | tick =>
    refine fit_tup.mpr fun d hd => ?_
    simp only [List.mem_cons, List.not_mem_nil, or_false] at hd
    rw [hd]
    exact Wd.ok _⟩
end
end MR

namespace MR
open PySem PySem.Spec PyProof.Rows L2
section
variable {α β γ : Type} {F : Fr} {s s1 s2 s3 : SEnv} {d d2 : D}
end
end MR

namespace MR
open PySem PySem.Spec PyProof.Rows L2
section
variable {S L R X α : Type} {k : Kf L R X} {s s1 s2 : SEnv} {E : S → SEnv} {c : Ctl S L R X} {m : MS}
end
end MR

namespace MR
open PySem PySem.Spec PyProof.Rows L2
section
variable {F : Fr} {s s' s0 s1 s2 s3 : SEnv} {env env' : DEnv} {h h' : Hh} {i j p q : Nat} {o o' : O} {d d2 d3 : D} {A B : ME} {ms : MA} {ds : List D}
inductive Hid (s : SEnv) : List (Nat × Nat × O) → Prop where
  | nil : Hid s []
  | cons {j q : Nat} {o : O} {xs : List (Nat × Nat × O)} : s[j]? = some (some (Sl.hid q o)) → Hid s xs → Hid s ((j, q, o) :: xs)
theorem Hid.all : ∀ {xs : List (Nat × Nat × O)}, Hid s xs → ∀ x ∈ xs, s[x.1]? = some (some (Sl.hid x.2.1 x.2.2))
  | _, .nil, _, m => nomatch m
  | _, .cons e t, x, m => by
    rcases List.mem_cons.mp m with rfl | m
    · exact e
    · exact t.all x m
inductive Chg (s : SEnv) (F : Fr) : List (Nat × Nat × O) → Prop where
  | nil : Chg s F []
  | cons {j q : Nat} {o o' : O} {xs : List (Nat × Nat × O)} : s[j]? = some (some (Sl.hid q o)) → (F.h0.length ≤ q ∨ q ∈ F.B) → Chg s F xs → Chg s F ((j, q, o') :: xs)
theorem Chg.set {xs : List (Nat × Nat × O)} {j q : Nat} {o : O} (c : Chg s F xs) (n : j ∉ xs.map (·.1)) : Chg (s.set j (some (.hid q o))) F xs := by
  induction c with
  | nil => exact .nil
  | cons e b t ih =>
    rw [List.map_cons, List.mem_cons, not_or] at n
    exact .cons (by rw [List.getElem?_set_ne n.1]; exact e) b (ih n.2)
variable {α β γ : Type}
variable {S S' S1 L R X T : Type} {k : Kf L R X} {E : S → SEnv} {b : MS} {c : Ctl S L R X}
theorem bel_oL {e : α → D} [NR e] (n : Nat) (l : List α) : O.bel n (oL e l) := bels_map _ _
end
end MR
namespace MR
open PySem PySem.Spec PyProof.Rows L2
section
variable {S L R X ρ : Type} {k : Kf L R X} {s s1 : SEnv} {E : S → SEnv} {a b m : MS} {c : Ctl S L R X} {A : ME} {i : Nat}
end
end MR
namespace MR
open PySem PySem.Spec PyProof.Rows L2
section
variable {S L R X ρ : Type} {k : Kf L R X} {s s1 : SEnv} {E : S → SEnv} {a b m : MS} {c : Ctl S L R X} {A : ME} {i j p : Nat}
end
end MR

namespace MR
open PySem PySem.Spec PyProof.Rows L2

section
variable {S S' S1 S2 L R X α β γ δ ρ : Type}
variable {F : Fr} {s s1 s2 : SEnv} {A B C : ME} {i : Nat} {E : S → SEnv} {k : Kf L R X} {b : MS}
end
end MR

namespace MR
open PySem PySem.Spec PyProof.Rows L2
section
variable {F : Fr} {s s1 : SEnv} {A : ME}
end
end MR

namespace MR
open PySem PySem.Spec PyProof.Rows L2
end MR

namespace MR
open PySem PySem.Spec PyProof.Rows L2

structure Tx where
  val : Str
  ok : PyData.strOk val = true
theorem Tx.ext {a b : Tx} (h : a.1 = b.1) : a = b := by
  cases a; cases b
  cases h; rfl
instance : DecidableEq Tx := fun a b => if h : a.1 = b.1 then isTrue (Tx.ext h) else isFalse fun z => h (by rw [z])
def eX : Tx → D := fun t => .str t.1
theorem ok_iff {x : Str} : PyData.strOk x = true ↔ ∀ c ∈ x.cps.toList, c < 0x110000 := by
  unfold PyData.strOk
  rw [← Array.all_toList, List.all_eq_true]
  constructor
  · intro h c hc; exact of_decide_eq_true (h c hc)
  · intro h c hc; exact decide_eq_true (h c hc)
theorem ok_of (s : String) : PyData.strOk (Str.ofString s) = true := by
  rw [ok_iff]
  intro c hc
  have e : (Str.ofString s).cps.toList = s.toList.map Char.toNat := by
    show (cpsOfBytes 0 0 s.toByteArray.data.toList).toArray.toList = _
    rw [cpsOfBytes_string]
  rw [e] at hc
  obtain ⟨x, _, rfl⟩ := List.mem_map.mp hc
  have h := x.valid
  simp only [UInt32.isValidChar, Nat.isValidChar] at h
  show x.val.toNat < _
  omega
theorem ok_empty : PyData.strOk Str.empty = true := by decide +kernel
def Tx.len (t : Tx) : Nat := t.1.length
def tZ : Tx := ⟨Str.empty, ok_empty⟩
instance : Inhabited Tx := ⟨tZ⟩
def tI (i : Int) : Tx := ⟨Str.ofString (toString i), ok_of _⟩
instance : NR eX := ⟨fun _ _ => rfl⟩
instance : NN eX := ⟨fun _ _ _ => rfl⟩
instance : FitE eX := ⟨1, fun t => t.2⟩
instance pyE_x : PyE eX := ⟨0, fun t => PyData.str t.1, fun _ => rfl, fun t => t.2, fun _ => Nat.le_refl _, fun a b => by
  show (a.1 == b.1) = _
  rw [deq]
  by_cases h : a = b
  · subst h; simp
  · rw [decide_eq_false h, decide_eq_false fun z => h (Tx.ext z)], fun a => ⟨rfl, rfl⟩⟩
section
variable {F : Fr} {s s1 s2 : SEnv} {A B : ME} {α : Type} {i : Nat}
def _root_.MR.Deed.tail : Deed → List (Option Int)
  | .ask _ _ l => [l]
  | _ => []
def eDash : Option Int → D := fun o => match o with
  | none => .str "-"
  | some i => .int i
instance : NR eDash := ⟨fun a n => by cases a <;> rfl⟩
section
variable {S L R X : Type} {k : Kf L R X} {E : S → SEnv} {b : MS} {c : Ctl S L R X}
end
end
end MR

namespace MR
open PySem PySem.Spec PyProof.Rows L2
theorem frz_bl {F : MF} {ds : List D} {h : Hh} {b : Bool} (e : F ds h = .ok (.bl b) h) : frzF F ds h = .ok (.bl b) h := frzF_of (g := []) (by rw [e, List.append_nil]) rfl
end MR

namespace MR
open PySem PySem.Spec PyProof.Rows L2
section
variable {S L R : Type} {k : Kf L R Exn} {s s1 : SEnv} {E : S → SEnv}
end
end MR

namespace MR
open PySem PySem.Spec PyProof.Rows L2
def eT5 {α β γ δ ε : Type} (a : α → D) (b : β → D) (c : γ → D) (d : δ → D) (e : ε → D) : α × β × γ × δ × ε → D := fun p => .tup [a p.1, b p.2.1, c p.2.2.1, d p.2.2.2.1, e p.2.2.2.2]
instance {α β γ δ ε : Type} {a : α → D} {b : β → D} {c : γ → D} {d : δ → D} {e : ε → D} [NR a] [NR b] [NR c] [NR d] [NR e] : NR (eT5 a b c d e) := ⟨fun p n => by show bels n [_, _, _, _, _] = true; simp [bels, NR.nr (e := a), NR.nr (e := b), NR.nr (e := c), NR.nr (e := d), NR.nr (e := e)]⟩
instance {α β γ δ ε : Type} {a : α → D} {b : β → D} {c : γ → D} {d : δ → D} {e : ε → D} : NN (eT5 a b c d e) := ⟨fun _ _ _ => rfl⟩
mutual
theorem den_fd {G : Gm} {rho rho' : Rm} {H H' : Hp} {hh hh' : Hh} (R : Rep G rho hh H) (S : Step rho H rho' H') (R' : Rep G rho' hh' H') : ∀ (d d' : D) (v : V), Den G rho' H' d v → frzD hh.length hh' d = some d' → Den G rho H' d' v
  | .ref i, d', v, q, e => by
    rw [frzD] at e
    rw [Den] at q
    obtain ⟨a, e1, rfl⟩ := q
    obtain ⟨ex, ee, hex⟩ := S.ext
    split at e
    · rename_i hi
      cases e
      rw [Den]
      refine ⟨a, ?_, rfl⟩
      rw [ee, List.getElem?_append_left (by rw [R.len]; exact hi)] at e1
      exact e1
    · rename_i hi
      split at e
      · rename_i xs e2
        split at e
        · rename_i hb
          cases e
          obtain ⟨vs, e3, l, q⟩ := R'.ob i a _ e1 e2
          have hae : a ∈ ex := by
            rw [ee, List.getElem?_append_right (by rw [R.len]; omega)] at e1
            exact List.mem_of_getElem? e1
          have hn : H a = none := hex a hae
          rw [Den]
          refine ⟨a, vs, rfl, e3, fun hm => ?_, fun hm => ?_, l, ?_⟩
          · obtain ⟨u, e4, _⟩ := R.mut hm
            rw [hn] at e4; cases e4
          · obtain ⟨u, e4⟩ := R.hd a hm
            rw [hn] at e4; cases e4
          · exact Dens.res ⟨ex, ee⟩ (fun a _ n m => n (S.kept a m)) xs vs q (by rw [R.len]; exact hb)
        · cases e
      · rename_i kvs e2
        split at e
        · rename_i hb
          cases e
          rw [Bool.and_eq_true] at hb
          obtain ⟨xs, l0, l1, es, e3, q, k3, k4, k5⟩ := R'.ob i a _ e1 e2
          have hae : a ∈ ex := by
            rw [ee, List.getElem?_append_right (by rw [R.len]; omega)] at e1
            exact List.mem_of_getElem? e1
          have hn : H a = none := hex a hae
          obtain ⟨us, k1, k2, d1, d2⟩ := dn_split q
          rw [Den]
          refine ⟨a, xs, es, us, rfl, e3, fun hm => ?_, fun hm => ?_, l0, l1, k1, k2, k3, k4, k5, ?_, ?_⟩
          · obtain ⟨u, e4, _⟩ := R.mut hm
            rw [hn] at e4; cases e4
          · obtain ⟨u, e4⟩ := R.hd a hm
            rw [hn] at e4; cases e4
          · exact Dens.res ⟨ex, ee⟩ (fun a _ n m => n (S.kept a m)) _ _ d1 (by rw [R.len]; exact hb.1)
          · exact Dens.res ⟨ex, ee⟩ (fun a _ n m => n (S.kept a m)) _ us d2 (by rw [R.len]; exact hb.2)
        · cases e
      · cases e
  | .tup ds, d', v, q, e => by
    rw [frzD] at e
    obtain ⟨ds', e1, rfl⟩ := Option.map_eq_some_iff.mp e
    rw [Den] at q ⊢
    obtain ⟨a, vs, e2, q1, l, q2⟩ := q
    exact ⟨a, vs, e2, q1, l, dens_fd R S R' ds ds' vs q2 e1⟩
  | .wtp ds, d', v, q, e => by
    rw [frzD] at e
    obtain ⟨ds', e1, rfl⟩ := Option.map_eq_some_iff.mp e
    rw [Den] at q ⊢
    obtain ⟨a, vs, e2, q1, l, q2⟩ := q
    exact ⟨a, vs, e2, q1, l, dens_fd R S R' ds ds' vs q2 e1⟩
  | .lst ds, d', v, q, e => by
    rw [frzD] at e
    split at e
    · rename_i hb
      cases e
      obtain ⟨ex, ee, hex⟩ := S.ext
      exact Den.res ⟨ex, ee⟩ (fun a _ n m => n (S.kept a m)) _ v q (by rw [MR.bel, R.len]; exact hb)
    · cases e
  | .non, d', v, q, e => by rw [frzD] at e; cases e; exact q
  | .bl _, d', v, q, e => by rw [frzD] at e; cases e; exact q
  | .int _, d', v, q, e => by rw [frzD] at e; cases e; exact q
  | .str _, d', v, q, e => by rw [frzD] at e; cases e; exact q
  | .glb _, d', v, q, e => by rw [frzD] at e; cases e; exact q
  | .scr _, d', v, q, e => by rw [frzD] at e; cases e; rw [Den] at q ⊢; exact q
  | .dct ks ds, d', v, q, e => by
    rw [frzD] at e
    split at e
    · rename_i hb
      cases e
      obtain ⟨ex, ee, hex⟩ := S.ext
      exact Den.res ⟨ex, ee⟩ (fun a _ n m => n (S.kept a m)) _ v q (by rw [MR.bel, R.len]; exact hb)
    · cases e
theorem dens_fd {G : Gm} {rho rho' : Rm} {H H' : Hp} {hh hh' : Hh} (R : Rep G rho hh H) (S : Step rho H rho' H') (R' : Rep G rho' hh' H') : ∀ (ds ds' : List D) (vs : List V), Dens G rho' H' ds vs → frzDs hh.length hh' ds = some ds' → Dens G rho H' ds' vs
  | [], ds', vs, q, e => by rw [frzDs] at e; cases e; exact q
  | d :: ds, ds', vs, q, e => by
    rw [frzDs] at e
    rw [Dens] at q
    obtain ⟨v, r, rfl, q1, q2⟩ := q
    cases e1 : frzD hh.length hh' d with
    | none => rw [e1] at e; cases e
    | some x =>
      cases e2 : frzDs hh.length hh' ds with
      | none => rw [e1, e2] at e; cases e
      | some xs =>
        rw [e1, e2] at e
        cases e
        rw [Dens]
        exact ⟨v, r, rfl, den_fd R S R' d x v q1 e1, dens_fd R S R' ds xs r q2 e2⟩
end
noncomputable def fdF (F : MF) : MF := fun ds h => match F ds h with
  | .ok d h' => open Classical in if h.length ≤ h'.length ∧ ∀ (i : Nat) o, i < h.length → h'[i]? = some o → h[i]? = some o ∨ O.bel h.length o then (match frzD h.length h' d with | some d' => .ok d' (h'.take h.length) | none => .stuck) else .stuck
  | .err x h' => .err x h'
  | .stuck => .stuck
theorem fdF_of {F : MF} {ds : List D} {h h' : Hh} {d d' : D} (e : F ds h = .ok d h') (hl : h.length ≤ h'.length) (ho : ∀ (i : Nat) o, i < h.length → h'[i]? = some o → h[i]? = some o ∨ O.bel h.length o) (b : frzD h.length h' d = some d') :
    fdF F ds h = .ok d' (h'.take h.length) := by
  unfold fdF
  rw [e]
  dsimp only
  rw [if_pos ⟨hl, ho⟩, b]
theorem FnD.fd {P : Program} {w : World} {K : PySem.W.Frag} {mg : Str → Option Value} {base : Heap} {k : Nat} {f : Addr} {fd : FuncData} {ps : List Str} {F : MF} (h : FnD P w K mg base k f fd ps F) : FnD P w K mg base k f fd ps (fdF F) :=
  FnOk.imp h fun vs H Q E ⟨hl, rho, hh, ds, R, q, p⟩ => ⟨hl, rho, hh, ds, R, q, by
    unfold fdF at p
    cases e : F ds hh with
    | ok d hh' =>
      rw [e] at p
      simp only at p
      split at p
      · rename_i hc
        obtain ⟨hle, ho⟩ := hc
        cases e2 : frzD hh.length hh' d with
        | none => rw [e2] at p; exact p.elim
        | some d' =>
          rw [e2] at p
          intro rho' H' v S R' q'
          obtain ⟨ex, ee, hex⟩ := S.ext
          have h2 : ∀ a, a ∉ rho'.at_ → a ∉ rho'.res → a ∉ rho.res := fun a _ n m => n (S.kept a m)
          refine p rho H' v S.drop ⟨R.nd, fun a m => let ⟨o', e⟩ := R.hd a m; S.there a o' e, by rw [List.length_take, R.len]; omega, fun i a o e1 e2 => ?_⟩ (den_fd R S R' d d' v q' e2)
          have hi : i < hh.length := by rw [← R.len]; exact (List.getElem?_eq_some_iff.mp e1).1
          have e3 : hh'[i]? = some o := by
            rw [List.getElem?_take] at e2
            simpa [hi] using e2
          refine (R'.ob i a o (S.get e1) e3).res ⟨ex, ee⟩ h2 ?_
          rcases ho i o hi e3 with z | z
          · exact (R.ob i a o e1 z).bel
          · rw [R.len]; exact z
      · exact p.elim
    | err x hh' => rw [e] at p; exact p
    | stuck => rw [e] at p; exact p⟩
section
variable {S L R X T : Type} {F : Fr} {s s1 s2 : SEnv} {A : ME} {E : S → SEnv} {EX : X → Exn → Prop} {EL : L → SEnv} {eR : R → D}
end
end MR

namespace MR
open PySem PySem.Spec PyProof.Rows L2
class NkE {α : Type} (e : α → D) where
  key : α → NestedKey
  n : Nat
  nk : ∀ a, MR.nk (e a) = some (key a)
  inj : ∀ a b, key a = key b → a = b
  dep : ∀ a, (key a).depth ≤ n
theorem nks_map {α : Type} {e : α → D} [i : NkE e] : ∀ l : List α, nks (l.map e) = some (l.map i.key)
  | [] => rfl
  | a :: l => by rw [List.map_cons, nks, i.nk, nks_map l]; rfl
theorem ndep_map {α : Type} {e : α → D} [i : NkE e] : ∀ l : List α, NestedKey.depthAll (l.map i.key) ≤ i.n
  | [] => Nat.zero_le _
  | a :: l => by rw [List.map_cons, NestedKey.depthAll]; exact Nat.max_le.mpr ⟨i.dep a, ndep_map l⟩
theorem ninj_map {α : Type} {e : α → D} [i : NkE e] : ∀ l m : List α, l.map i.key = m.map i.key → l = m
  | [], [], _ => rfl
  | [], _ :: _, h => by simp at h
  | _ :: _, [], h => by simp at h
  | a :: l, b :: m, h => by
    simp only [List.map_cons, List.cons.injEq] at h
    rw [i.inj a b h.1, ninj_map l m h.2]
instance : NkE D.int := ⟨NestedKey.num, 0, fun _ => rfl, fun a b h => NestedKey.num.inj h, fun _ => Nat.le_refl _⟩
instance : NkE eW := ⟨fun w => NestedKey.text w.val, 0, fun _ => rfl, fun a b h => Wd.val_inj (NestedKey.text.inj h), fun _ => Nat.le_refl _⟩
def nkOpt {α : Type} (f : α → NestedKey) : Option α → NestedKey
  | none => .none
  | some a => f a
class NkN {α : Type} (e : α → D) [i : NkE e] : Prop where
  nn : ∀ a, i.key a ≠ .none
instance : NkN D.int := ⟨fun _ h => nomatch h⟩
instance : NkN eW := ⟨fun _ h => nomatch h⟩
instance nkE_opt {α : Type} {e : α → D} [i : NkE e] [j : NkN e] : NkE (eO e) := ⟨nkOpt i.key, i.n, fun a => by cases a with | none => rfl | some a => exact i.nk a, fun a b h => by
  cases a with
  | none => cases b with
    | none => rfl
    | some b => exact absurd h.symm (j.nn b)
  | some a => cases b with
    | none => exact absurd h (j.nn a)
    | some b => rw [i.inj a b h], fun a => by cases a with | none => exact Nat.zero_le _ | some a => exact i.dep a⟩
instance nkE_seq {α : Type} {e : α → D} [i : NkE e] : NkE (eS e) := ⟨fun l => .tup (l.map i.key), i.n + 1, fun l => by show (nks (l.map e)).map NestedKey.tup = _; rw [nks_map]; rfl, fun a b h => ninj_map a b (NestedKey.tup.inj h), fun l => by
  rw [NestedKey.depth]; exact Nat.succ_le_succ (ndep_map l)⟩
instance nkE_t2 {α β : Type} {a : α → D} {b : β → D} [i : NkE a] [j : NkE b] : NkE (eT2 a b) := ⟨fun p => .tup [i.key p.1, j.key p.2], max i.n j.n + 1, fun p => by show (nks [_, _]).map _ = _; simp [nks, i.nk, j.nk], fun p q h => by
  have := NestedKey.tup.inj h
  simp only [List.cons.injEq, and_true] at this
  exact Prod.ext (i.inj _ _ this.1) (j.inj _ _ this.2), fun p => by
  have h1 := i.dep p.1
  have h2 := j.dep p.2
  simp only [NestedKey.depth, NestedKey.depthAll]; omega⟩
instance nkE_t3 {α β γ : Type} {a : α → D} {b : β → D} {c : γ → D} [i : NkE a] [j : NkE b] [k : NkE c] : NkE (eT3 a b c) := ⟨fun p => .tup [i.key p.1, j.key p.2.1, k.key p.2.2], max i.n (max j.n k.n) + 1, fun p => by show (nks [_, _, _]).map _ = _; simp [nks, i.nk, j.nk, k.nk], fun p q h => by
  have := NestedKey.tup.inj h
  simp only [List.cons.injEq, and_true] at this
  exact Prod.ext (i.inj _ _ this.1) (Prod.ext (j.inj _ _ this.2.1) (k.inj _ _ this.2.2)), fun p => by
  have h1 := i.dep p.1
  have h2 := j.dep p.2.1
  have h3 := k.dep p.2.2
  simp only [NestedKey.depth, NestedKey.depthAll]; omega⟩
instance nkE_t4 {α β γ δ : Type} {a : α → D} {b : β → D} {c : γ → D} {d : δ → D} [i : NkE a] [j : NkE b] [k : NkE c] [l : NkE d] : NkE (eT4 a b c d) := ⟨fun p => .tup [i.key p.1, j.key p.2.1, k.key p.2.2.1, l.key p.2.2.2], max i.n (max j.n (max k.n l.n)) + 1, fun p => by show (nks [_, _, _, _]).map _ = _; simp [nks, i.nk, j.nk, k.nk, l.nk], fun p q h => by
  have := NestedKey.tup.inj h
  simp only [List.cons.injEq, and_true] at this
  exact Prod.ext (i.inj _ _ this.1) (Prod.ext (j.inj _ _ this.2.1) (Prod.ext (k.inj _ _ this.2.2.1) (l.inj _ _ this.2.2.2))), fun p => by
  have h1 := i.dep p.1
  have h2 := j.dep p.2.1
  have h3 := k.dep p.2.2.1
  have h4 := l.dep p.2.2.2
  simp only [NestedKey.depth, NestedKey.depthAll]; omega⟩
class NkT {α : Type} (e : α → D) [i : NkE e] : Prop where
  tup : ∀ a, ∃ ds, e a = .tup ds
  few : i.n ≤ 8
def eDic {κ α : Type} (eK : κ → D) (e : α → D) (l : List (κ × α)) : D := .dct (l.map fun p => eK p.1) (l.map fun p => e p.2)
section
variable {κ α : Type} [DecidableEq κ] {eK : κ → D} {e : α → D} [i : NkE eK]
variable [j : NkT eK]
end
section
variable {S S' S1 S2 L R X α β γ δ ρ κ : Type} {k : Kf L R X} {s s0 s1 s2 s3 : SEnv} {b : MS} {E : S → SEnv} {A B V I : ME} {i j q : Nat} {F : Fr} {eK : κ → D} {e : α → D}
end
instance {κ α : Type} {eK : κ → D} {e : α → D} [NR eK] [NR e] : NR (eDic eK e) := ⟨fun l n => by
  show (bels n _ && bels n _) = true
  rw [show (l.map fun p => eK p.1) = (l.map (·.1)).map eK by rw [List.map_map]; rfl, show (l.map fun p => e p.2) = (l.map (·.2)).map e by rw [List.map_map]; rfl, bels_map, bels_map]; rfl⟩
instance {κ α : Type} {eK : κ → D} {e : α → D} : NN (eDic eK e) := ⟨fun _ _ _ => rfl⟩
end MR

namespace MR
open PySem PySem.Spec PyProof.Rows L2
def lastT {α : Type} [Inhabited α] (l : List α) : α := l.getLast?.getD default
section
variable {κ α : Type} [DecidableEq κ] {eK : κ → D} {e : α → D} [i : NkE eK] [j : NkT eK]
end
end MR

namespace MR
open PySem PySem.Spec PyProof.Rows L2
section
variable {F : Fr} {s : SEnv} {env : DEnv} {h : Hh} {i j q : Nat} {o : O}
end
section
variable {S S' S1 S2 L R X α β : Type} {k : Kf L R X} {s s1 : SEnv} {b : MS} {E : S → SEnv} {c : Ctl S L R X}
end
end MR

namespace MR
open PySem PySem.Spec PyProof.Rows L2
section
variable {F : Fr} {s s1 : SEnv} {κ α : Type} {eK : κ → D} {e : α → D} {A : ME} {i j : Nat}
end
section
variable {α β L : Type} {F : Fr} {s s0 : SEnv} {i : Nat}
end
section
variable {S S' S1 S2 L R X ρ α : Type} {k : Kf L R X} {s : SEnv} {b : MS} {E : S → SEnv}
end
end MR

namespace MR
open PySem PySem.Spec PyProof.Rows L2
section
variable {α β : Type}
instance inh_sum [Inhabited α] : Inhabited (α ⊕ β) := ⟨.inl default⟩
def eHR (a : α → D) (b : β → D) : α ⊕ β → D
  | .inl x => .tup [.str "alike", a x]
  | .inr y => .tup [.str "parts", b y]
variable {a : α → D} {b : β → D}
instance [NR a] [NR b] : NR (eHR a b) := ⟨fun p n => by
  cases p with
  | inl x => show bels n [_, _] = true; simp [bels, NR.nr (e := a), bel]
  | inr x => show bels n [_, _] = true; simp [bels, NR.nr (e := b), bel]⟩
instance : NN (eHR a b) := ⟨fun p _ _ => by cases p <;> rfl⟩
theorem fit_two {x y : D} {n : Nat} (h1 : fit n x = true) (h2 : fit n y = true) : fit (n + 1) (.tup [x, y]) = true := fit_tup.mpr fun d hd => by
  simp only [List.mem_cons, List.not_mem_nil, or_false] at hd
  rcases hd with rfl | rfl
  · exact h1
  · exact h2
theorem fit_w {n : Nat} (h : 1 ≤ n) : fit n (.str "alike") = true ∧ fit n (.str "parts") = true := ⟨fit_le h (by decide +kernel), fit_le h (by decide +kernel)⟩
instance [i : FitE a] [j : FitE b] : FitE (eHR a b) := ⟨max (max i.n j.n) 1 + 1, fun p => by
  cases p with
  | inl x => exact fit_two (fit_w (by omega)).1 (fit_le (by omega) (i.f x))
  | inr x => exact fit_two (fit_w (by omega)).2 (fit_le (by omega) (j.f x))⟩
def pyHR (f : α → PyData) (g : β → PyData) : α ⊕ β → PyData
  | .inl x => .tuple [.str "alike", f x]
  | .inr y => .tuple [.str "parts", g y]
variable [DecidableEq α] [DecidableEq β]
instance [i : PyEO a] [j : PyEO b] : PyE (eHR a b) := ⟨i.n + j.n + 1, pyHR i.py j.py, fun p => by
  cases p with
  | inl x => show (toPys [_, _]).map _ = _; simp [toPys, i.to, toPy, pyHR]
  | inr x => show (toPys [_, _]).map _ = _; simp [toPys, j.to, toPy, pyHR], fun p => by
  cases p with
  | inl x =>
    simp only [pyHR, PyData.canLay0, PyData.canLayAll0, i.lay]
    decide +kernel
  | inr x =>
    simp only [pyHR, PyData.canLay0, PyData.canLayAll0, j.lay]
    decide +kernel, fun p => by
  cases p with
  | inl x => simp only [pyHR, PyData.depth, PyData.depthAll]; have := i.dep x; omega
  | inr x => simp only [pyHR, PyData.depth, PyData.depthAll]; have := j.dep x; omega, fun p q => by
  have n1 : (("alike" : Str) == ("parts" : Str)) = false := by decide
  have n2 : (("parts" : Str) == ("alike" : Str)) = false := by decide
  cases p with
  | inl x => cases q with
    | inl y => simp only [pyHR, PyData.eqv, PyData.eqvAll, i.eqv, Bool.and_true, beq_self_eq_true, Bool.true_and]; exact decide_eq_decide.mpr (by simp)
    | inr y => simp [pyHR, PyData.eqv, PyData.eqvAll, n1]
  | inr x => cases q with
    | inl y => simp [pyHR, PyData.eqv, PyData.eqvAll, n2]
    | inr y => simp only [pyHR, PyData.eqv, PyData.eqvAll, j.eqv, Bool.and_true, beq_self_eq_true, Bool.true_and]; exact decide_eq_decide.mpr (by simp), fun p => by cases p <;> exact ⟨rfl, rfl⟩⟩
end
section
variable {α β : Type} {F : Fr} {s s1 : SEnv} {A : ME} {a : α → D} {b : β → D}
end
end MR

namespace MR
open PySem PySem.Spec PyProof.Rows L2
section
variable {α β : Type} {a : α → D} {b : β → D}
end
end MR

namespace MR
open PySem PySem.Spec PyProof.Rows L2
section
variable {F : Fr} {s s1 s2 : SEnv} {A B : ME}
end
end MR

namespace MR
open PySem PySem.Spec PyProof.Rows L2
section
variable {S L R X α : Type} {k : Kf L R X} {s s1 s2 : SEnv} {b : MS} {E : S → SEnv} {A B : ME} {c : Ctl S L R X} {F : Fr}
end
end MR

namespace MR
open PySem PySem.Spec PyProof.Rows L2
inductive Od where
  | int (i : Int) | bl (b : Bool) | non | str (t : Tx)
def eOd : Od → D
  | .int i => .int i
  | .bl b => .bl b
  | .non => .non
  | .str t => .str t.1
inductive Rw where
  | row (l : List Deed) | lst (l : List Deed) | non
def eRw : Rw → D
  | .row l => eS eDd l
  | .lst l => eL eDd l
  | .non => .non
inductive Th where
  | four (w : Wd) (o : Od) (a b : Rw) | five (w : Wd) (o : Od) (a b : Rw) | three (w : Wd) (o : Od) (a : Rw) | lst4 (w : Wd) (o : Od) (a b : Rw)
  | non | bl (b : Bool) | int (i : Int) | str (w : Wd) | nil | one (w : Wd) | lnil | dct
def eTh : Th → D
  | .four w o a b => .tup [eW w, eOd o, eRw a, eRw b]
  | .five w o a b => .tup [eW w, eOd o, eRw a, eRw b, .int 0]
  | .three w o a => .tup [eW w, eOd o, eRw a]
  | .lst4 w o a b => .lst [eW w, eOd o, eRw a, eRw b]
  | .non => .non
  | .bl b => .bl b
  | .int i => .int i
  | .str w => eW w
  | .nil => .tup []
  | .one w => .tup [eW w]
  | .lnil => .lst []
  | .dct => .dct [] []
instance : Inhabited Od := ⟨.non⟩
instance : Inhabited Rw := ⟨.non⟩
instance : Inhabited Th := ⟨.non⟩
instance : NR eOd := ⟨fun a n => by cases a <;> rfl⟩
instance : NR eRw := ⟨fun a n => by
  cases a with
  | row l => exact NR.nr (e := eS eDd) l n
  | lst l => exact NR.nr (e := eL eDd) l n
  | non => rfl⟩
instance : NR eTh := ⟨fun a n => by
  cases a <;> first | rfl | (show bels n _ = true; simp [bels, NR.nr (e := eW), NR.nr (e := eOd), NR.nr (e := eRw), bel])⟩
section
variable {F : Fr} {s s1 s2 : SEnv} {A B : ME}
end
end MR

namespace MR
open PySem PySem.Spec PyProof.Rows L2
section
variable {S L R X : Type} {k : Kf L R X} {s s1 s2 : SEnv} {E : S → SEnv}
end
end MR

namespace MR
open PySem PySem.Spec PyProof.Rows L2
section
variable {S L R X ρ : Type} {k : Kf L R X} {s s1 s2 : SEnv} {E : S → SEnv} {b sm : MS} {F0 : MF} {ms : MA} {as : List D} {cond : Bool} {r : ρ} {e : ρ → D} {psf : ρ → List D} {c2 : ρ → Ctl S L R X} {ok : ρ → Prop} {cs : List Str} {cl : Str} {x : Exn} {v : R}
end
section
variable {F : Fr} {s s1 s2 : SEnv} {A B : ME}
end
end MR

namespace MR
open PySem PySem.Spec PyProof.Rows L2
section
variable {κ α : Type} [DecidableEq κ] {eK : κ → D} {e : α → D} [i : NkE eK] [j : NkT eK]
end
end MR

namespace MR
open PySem PySem.Spec PyProof.Rows L2
section
variable {S L R X α β : Type} {k : Kf L R X} {s : SEnv} {E : S → SEnv} {ea : α → D} {eb : β → D}
end
section
variable {S L R X α β : Type} {k : Kf L R X} {s : SEnv} {E : S → SEnv} {ea : α → D} {eb : β → D}
end
section
variable {F : Fr} {s : SEnv} {d : D}
end
end MR

namespace MR
open PySem PySem.Spec PyProof.Rows L2
section
variable {F : DEnv → Prop} {s s1 : SEnv} {A : ME} {i : Nat}
section
variable {S L R X : Type} {k : Kf L R X} {E : S → SEnv} {b : MS} {c : Ctl S L R X}
end
end
end MR

namespace MR
open PySem PySem.Spec PyProof.Rows L2
section
variable {P : Program} {w : World} {K : PySem.W.Frag} {mg : Str → Option Value} {base : Heap}
theorem FnDN.frz {k : Nat} {f : Addr} {fd : FuncData} {ps : List Str} {F : MF} (h : FnDN P w K mg base k f fd ps F) : FnDN P w K mg base k f fd ps (frzF F) :=
  FnOk.imp h fun vs H Q E ⟨hl, rho, hh, ds, R, q, p⟩ => ⟨hl, rho, hh, ds, R, q, by
    unfold frzF at p
    cases e : F ds hh with
    | ok d hh' =>
      rw [e] at p
      simp only at p
      split at p
      · rename_i hc
        obtain ⟨g, rfl⟩ := hc
        cases e2 : frzD hh.length (hh ++ g) d with
        | none => rw [e2] at p; exact p.elim
        | some d' =>
          rw [e2] at p
          intro rho' H' v S R' q'
          obtain ⟨ex, ee, hex⟩ := S.ext
          have h2 : ∀ a, a ∉ rho'.at_ → a ∉ rho'.res → a ∉ rho.res := fun a _ n m => n (S.kept a m)
          exact p rho H' v S.drop (R.drop S ⟨ex, ee⟩ h2 R') (den_frz R S R' d d' v q' e2)
      · exact p.elim
    | err x hh' => rw [e] at p; exact p
    | stuck => rw [e] at p; exact p⟩
end
end MR

set_option maxHeartbeats 1000000
namespace MR
open PySem PySem.Spec PyProof.Rows L2
section
variable {S L R X ρ : Type} {F : Fr} {k : Kf L R X} {s s1 : SEnv} {E : S → SEnv} {a b m : MS} {c : Ctl S L R X} {A : ME}
end
end MR

namespace MR
open PySem PySem.Spec PyProof.Rows L2
end MR

namespace MR
open PySem PySem.Spec PyProof.Rows L2
section
variable {F : Fr} {s s1 : SEnv} {A : ME} {α κ : Type} {e : α → D} {eK : κ → D}
end
end MR

namespace MR
open PySem PySem.Spec PyProof.Rows L2
section
variable {κ α : Type} [DecidableEq κ] {eK : κ → D} {e : α → D} [i : NkE eK]
end
section
variable {S L R X : Type} {k : Kf L R X} {s : SEnv} {b : MS} {E : S → SEnv}
end
end MR

namespace MR
open PySem PySem.Spec PyProof.Rows L2
mutual
theorem den_frzG {G : Gm} {rho rho' : Rm} {H H' : Hp} {hh hg : Hh} (R : Rep G rho hh H) (S : Step rho H rho' H') (R' : Rep G rho' hg H') : ∀ (d d' : D) (v : V), Den G rho' H' d v → frzD hh.length hg d = some d' → Den G rho H' d' v
  | .ref i, d', v, q, e => by
    rw [frzD] at e
    rw [Den] at q
    obtain ⟨a, e1, rfl⟩ := q
    obtain ⟨ex, ee, hex⟩ := S.ext
    split at e
    · rename_i hi
      cases e
      rw [Den]
      refine ⟨a, ?_, rfl⟩
      rw [ee, List.getElem?_append_left (by rw [R.len]; exact hi)] at e1
      exact e1
    · rename_i hi
      split at e
      · rename_i xs e2
        split at e
        · rename_i hb
          cases e
          obtain ⟨vs, e3, l, q⟩ := R'.ob i a _ e1 e2
          have hae : a ∈ ex := by
            rw [ee, List.getElem?_append_right (by rw [R.len]; omega)] at e1
            exact List.mem_of_getElem? e1
          have hn : H a = none := hex a hae
          rw [Den]
          refine ⟨a, vs, rfl, e3, fun hm => ?_, fun hm => ?_, l, ?_⟩
          · obtain ⟨u, e4, _⟩ := R.mut hm
            rw [hn] at e4; cases e4
          · obtain ⟨u, e4⟩ := R.hd a hm
            rw [hn] at e4; cases e4
          · exact Dens.res ⟨ex, ee⟩ (fun a _ n m => n (S.kept a m)) xs vs q (by rw [R.len]; exact hb)
        · cases e
      · rename_i kvs e2
        split at e
        · rename_i hb
          cases e
          rw [Bool.and_eq_true] at hb
          obtain ⟨xs, l0, l1, es, e3, q, k3, k4, k5⟩ := R'.ob i a _ e1 e2
          have hae : a ∈ ex := by
            rw [ee, List.getElem?_append_right (by rw [R.len]; omega)] at e1
            exact List.mem_of_getElem? e1
          have hn : H a = none := hex a hae
          obtain ⟨us, k1, k2, d1, d2⟩ := dn_split q
          rw [Den]
          refine ⟨a, xs, es, us, rfl, e3, fun hm => ?_, fun hm => ?_, l0, l1, k1, k2, k3, k4, k5, ?_, ?_⟩
          · obtain ⟨u, e4, _⟩ := R.mut hm
            rw [hn] at e4; cases e4
          · obtain ⟨u, e4⟩ := R.hd a hm
            rw [hn] at e4; cases e4
          · exact Dens.res ⟨ex, ee⟩ (fun a _ n m => n (S.kept a m)) _ _ d1 (by rw [R.len]; exact hb.1)
          · exact Dens.res ⟨ex, ee⟩ (fun a _ n m => n (S.kept a m)) _ us d2 (by rw [R.len]; exact hb.2)
        · cases e
      · cases e
  | .tup ds, d', v, q, e => by
    rw [frzD] at e
    obtain ⟨ds', e1, rfl⟩ := Option.map_eq_some_iff.mp e
    rw [Den] at q ⊢
    obtain ⟨a, vs, e2, q1, l, q2⟩ := q
    exact ⟨a, vs, e2, q1, l, dens_frzG R S R' ds ds' vs q2 e1⟩
  | .wtp ds, d', v, q, e => by
    rw [frzD] at e
    obtain ⟨ds', e1, rfl⟩ := Option.map_eq_some_iff.mp e
    rw [Den] at q ⊢
    obtain ⟨a, vs, e2, q1, l, q2⟩ := q
    exact ⟨a, vs, e2, q1, l, dens_frzG R S R' ds ds' vs q2 e1⟩
  | .lst ds, d', v, q, e => by
    rw [frzD] at e
    split at e
    · rename_i hb
      cases e
      obtain ⟨ex, ee, hex⟩ := S.ext
      exact Den.res ⟨ex, ee⟩ (fun a _ n m => n (S.kept a m)) _ v q (by rw [MR.bel, R.len]; exact hb)
    · cases e
  | .non, d', v, q, e => by rw [frzD] at e; cases e; exact q
  | .bl _, d', v, q, e => by rw [frzD] at e; cases e; exact q
  | .int _, d', v, q, e => by rw [frzD] at e; cases e; exact q
  | .str _, d', v, q, e => by rw [frzD] at e; cases e; exact q
  | .glb _, d', v, q, e => by rw [frzD] at e; cases e; exact q
  | .scr _, d', v, q, e => by rw [frzD] at e; cases e; rw [Den] at q ⊢; exact q
  | .dct ks ds, d', v, q, e => by
    rw [frzD] at e
    split at e
    · rename_i hb
      cases e
      obtain ⟨ex, ee, hex⟩ := S.ext
      exact Den.res ⟨ex, ee⟩ (fun a _ n m => n (S.kept a m)) _ v q (by rw [MR.bel, R.len]; exact hb)
    · cases e
theorem dens_frzG {G : Gm} {rho rho' : Rm} {H H' : Hp} {hh hg : Hh} (R : Rep G rho hh H) (S : Step rho H rho' H') (R' : Rep G rho' hg H') : ∀ (ds ds' : List D) (vs : List V), Dens G rho' H' ds vs → frzDs hh.length hg ds = some ds' → Dens G rho H' ds' vs
  | [], ds', vs, q, e => by rw [frzDs] at e; cases e; exact q
  | d :: ds, ds', vs, q, e => by
    rw [frzDs] at e
    rw [Dens] at q
    obtain ⟨v, r, rfl, q1, q2⟩ := q
    cases e1 : frzD hh.length hg d with
    | none => rw [e1] at e; cases e
    | some x =>
      cases e2 : frzDs hh.length hg ds with
      | none => rw [e1, e2] at e; cases e
      | some xs =>
        rw [e1, e2] at e
        cases e
        rw [Dens]
        exact ⟨v, r, rfl, den_frzG R S R' d x v q1 e1, dens_frzG R S R' ds xs r q2 e2⟩
end

end MR

namespace MR
open PySem PySem.Spec PyProof.Rows L2
section
variable {R : Type} {h : Hh} {p : Nat} {b : MS} {ds : List D}
end
end MR

section
set_option maxHeartbeats 4000000
namespace LK
open MR PySem PySem.Spec PyProof.Rows L2
def topS (i : Nat) : Stmt := PySem.Challenge.pw_manyreaders_k11_deeds_or_none.main.body.getD i (.Pass ⟨0, 0, 0, 0⟩)
abbrev c_ASKS : D := .tup [.str "read", .str "write"]
abbrev c_MOVES : D := .tup [.str "up", .str "down", .str "leave", .str "stop"]
abbrev c_LONGEST_LEFT : D := .int 9
abbrev s_is_between : Stmt := topS 1
abbrev N_is_between : List Str := ["thing", "low", "high"]
theorem sc_is_between : FnScope N_is_between ["thing", "low", "high"] (defScope s_is_between) := ⟨rfl, rfl, rfl, by decide +kernel, rfl, by decide +kernel, by decide +kernel⟩
noncomputable def b_is_between : MS :=
 (sRet (eAnd (eOpN isiO (aCons (eSlot 0) (aCons (eC (.glb (.ty "int"))) aNil))) (eAnd (eNot (eOpN isiO (aCons (eSlot 0) (aCons (eC (.glb (.ty "bool"))) aNil)))) (eChain leO leO (eSlot 1) (eSlot 0) (eSlot 2)))))
noncomputable def F_is_between : MF := frzF (runF 3 N_is_between b_is_between)
abbrev s_is_deed : Stmt := topS 6
abbrev N_is_deed : List Str := ["n", "thing"]
theorem sc_is_deed : FnScope N_is_deed ["n", "thing"] (defScope s_is_deed) := ⟨rfl, rfl, rfl, by decide +kernel, rfl, by decide +kernel, by decide +kernel⟩
noncomputable def b_is_deed : MS :=
 (sSeq (sIf (tOr (tNot (tE (eOpN isiWO (aCons (eSlot 1) (aCons (eC (.glb (.ty "tuple"))) aNil))))) (tOr (tE (eOp2 eqO (eOpN lenO (aCons (eSlot 1) aNil)) (eC (.int 0)))) (tNot (tE (eOpN isiWO (aCons (eOp2 ixA (eSlot 1) (eC (.int 0))) (aCons (eC (.glb (.ty "str"))) aNil))))))) (sRet (eC (.bl false))) sNext)
 (sSeq (sIf (tE (eOp2 eqO (eOp2 ixA (eSlot 1) (eC (.int 0))) (eC (.str "tick")))) (sRet (eOp2 eqO (eOpN lenO (aCons (eSlot 1) aNil)) (eC (.int 1)))) sNext)
 (sSeq (sIf (tOr (tE (eOp2 ltO (eOpN lenO (aCons (eSlot 1) aNil)) (eC (.int 2)))) (tNot (tE (eCall F_is_between (aCons (eOp2 ixA (eSlot 1) (eC (.int 1))) (aCons (eC (.int 0)) (aCons (eOp2 subO (eSlot 0) (eC (.int 1))) aNil))))))) (sRet (eC (.bl false))) sNext)
 (sSeq (sIf (tE (eOp2 (inO false) (eOp2 ixA (eSlot 1) (eC (.int 0))) (eC c_ASKS))) (sRet (eAnd (eOp2 eqO (eOpN lenO (aCons (eSlot 1) aNil)) (eC (.int 3))) (eOr (eOp2 (isNO false) (eOp2 ixA (eSlot 1) (eC (.int 2))) (eC .non)) (eCall F_is_between (aCons (eOp2 ixA (eSlot 1) (eC (.int 2))) (aCons (eC (.int 0)) (aCons (eC c_LONGEST_LEFT) aNil))))))) sNext)
 (sRet (eAnd (eOp2 (inO false) (eOp2 ixA (eSlot 1) (eC (.int 0))) (eC c_MOVES)) (eOp2 eqO (eOpN lenO (aCons (eSlot 1) aNil)) (eC (.int 2)))))))))
noncomputable def F_is_deed : MF := frzF (runF 2 N_is_deed b_is_deed)
abbrev s__law_cell_at : Stmt := topS 8
abbrev N__law_cell_at : List Str := ["_law_script", "_law_k"]
theorem sc__law_cell_at : FnScope N__law_cell_at ["_law_script", "_law_k"] (defScope s__law_cell_at) := ⟨rfl, rfl, rfl, by decide +kernel, rfl, by decide +kernel, by decide +kernel⟩
noncomputable def b__law_cell_at : MS :=
 (sSeq (sIf (tE (eOp2 ltO (eSlot 1) (eOpN lenO (aCons (eSlot 0) aNil)))) (sRet (eOp2 ixA (eSlot 0) (eSlot 1))) sNext)
 (sRet (eC (.int 0))))
noncomputable def F__law_cell_at : MF := runF 2 N__law_cell_at b__law_cell_at
abbrev s__law_far : Stmt := topS 10
abbrev N__law_far : List Str := ["_law_far_here", "_law_k"]
theorem sc__law_far : FnScope N__law_far [] (defScope s__law_far) := ⟨rfl, rfl, rfl, by decide +kernel, rfl, by decide +kernel, by decide +kernel⟩
noncomputable def L__law_far_0 : MS :=
 (sAsg (eOp2 mulB (eSlot 0) (eOp2 powO (eC (.int 10)) (eC (.int 60)))) (gName 0))
noncomputable def b__law_far : MS :=
 (sSeq (sAsg (eC (.int 1)) (gName 0))
 (sSeq (sFor (iA rng1 (aCons (eC (.int 10)) aNil)) (.name 1) L__law_far_0)
 (sRet (eSlot 0))))
noncomputable def F__law_far : MF := runF 0 N__law_far b__law_far
abbrev s__law_left : Stmt := topS 9
abbrev N__law_left : List Str := ["_law_script", "_law_k", "_law_cell", "_law_seed"]
theorem sc__law_left : FnScope N__law_left ["_law_script", "_law_k"] (defScope s__law_left) := ⟨rfl, rfl, rfl, by decide +kernel, rfl, by decide +kernel, by decide +kernel⟩
noncomputable def b__law_left : MS :=
 (sSeq (sAsg (eCall F__law_cell_at (aCons (eSlot 0) (aCons (eOp2 modO (eSlot 1) (eOpN max2O (aCons (eC (.int 1)) (aCons (eOpN lenO (aCons (eSlot 0) aNil)) aNil)))) aNil))) (gName 2))
 (sSeq (sAsg (eOp2 modO (eOp2 mulB (eOp2 addO (eOp2 addO (eOp2 modO (eSlot 2) (eC (.int 2147483629))) (eOp2 mulB (eOp2 mulB (eC (.int 7919)) (eSlot 1)) (eSlot 1))) (eC (.int 11))) (eC (.int 48271))) (eC (.int 2147483647))) (gName 3))
 (sSeq (sAsg (eOp2 modO (eOp2 addO (eOp2 addO (eOp2 mulB (eSlot 3) (eC (.int 39373))) (eOp2 mulB (eC (.int 7)) (eSlot 1))) (eC (.int 1))) (eC (.int 2147483629))) (gName 3))
 (sSeq (sIf (tE (eOp2 ltO (eSlot 2) (eOp2 powO (eC (.int 10)) (eC (.int 18))))) (sAsg (eC (.int 0)) (gName 2)) sNext)
 (sRet (eNew (aCons (eOp2 modO (eSlot 2) (eCall F__law_far aNil)) (aCons (eSlot 3) (aCons (eC (.int 0)) aNil)))))))))
noncomputable def F__law_left : MF := runF 2 N__law_left b__law_left
abbrev s__law_pick : Stmt := topS 11
abbrev N__law_pick : List Str := ["_law_left_here", "_law_many", "_law_digit"]
theorem sc__law_pick : FnScope N__law_pick ["_law_left_here", "_law_many"] (defScope s__law_pick) := ⟨rfl, rfl, rfl, by decide +kernel, rfl, by decide +kernel, by decide +kernel⟩
noncomputable def b__law_pick : MS :=
 (sSeq (sIf (tE (eOp2 gtO (eOp2 ixA (eSlot 0) (eC (.int 0))) (eC (.int 0)))) (sSeq (sAsg (eOp2 modO (eOp2 ixA (eSlot 0) (eC (.int 0))) (eSlot 1)) (gName 2))
 (sSeq (sAsg (eOp2 fdivO (eOp2 ixA (eSlot 0) (eC (.int 0))) (eSlot 1)) (gSubD (eSlot 0) (eC (.int 0)) setO))
 (sRet (eSlot 2)))) sNext)
 (sSeq (sAsg (eOp2 addO (eOp2 ixA (eSlot 0) (eC (.int 2))) (eC (.int 1))) (gSubD (eSlot 0) (eC (.int 2)) setO))
 (sSeq (sAsg (eOp2 modO (eOp2 addO (eOp2 addO (eOp2 mulB (eOp2 ixA (eSlot 0) (eC (.int 1))) (eC (.int 48271))) (eC (.int 12345))) (eOp2 mulB (eC (.int 7)) (eOp2 ixA (eSlot 0) (eC (.int 2))))) (eC (.int 2147483647))) (gSubD (eSlot 0) (eC (.int 1)) setO))
 (sRet (eOp2 modO (eOp2 fdivO (eOp2 modO (eOp2 mulB (eOp2 ixA (eSlot 0) (eC (.int 1))) (eOp2 ixA (eSlot 0) (eC (.int 1)))) (eC (.int 1999999973))) (eC (.int 64))) (eSlot 1))))))
noncomputable def F__law_pick : MF := runF 2 N__law_pick b__law_pick
abbrev s__law_deed : Stmt := topS 12
abbrev N__law_deed : List Str := ["_law_left_here", "_law_n", "_law_guest", "_law_way"]
theorem sc__law_deed : FnScope N__law_deed ["_law_left_here", "_law_n"] (defScope s__law_deed) := ⟨rfl, rfl, rfl, by decide +kernel, rfl, by decide +kernel, by decide +kernel⟩
noncomputable def b__law_deed : MS :=
 (sSeq (sAsg (eCall F__law_pick (aCons (eSlot 0) (aCons (eSlot 1) aNil))) (gName 2))
 (sSeq (sAsg (eCall F__law_pick (aCons (eSlot 0) (aCons (eC (.int 12)) aNil))) (gName 3))
 (sSeq (sIf (tE (eOp2 ltO (eSlot 3) (eC (.int 6)))) (sRet (eTup (aCons (eOp2 ixA (eFrz (aCons (eC (.str "read")) (aCons (eC (.str "write")) aNil))) (eOp2 modO (eSlot 3) (eC (.int 2)))) (aCons (eSlot 2) (aCons (eOp2 ixA (eFrz (aCons (eC .non) (aCons (eC .non) (aCons (eC .non) (aCons (eC (.int 0)) (aCons (eC (.int 1)) (aCons (eC (.int 9)) aNil))))))) (eCall F__law_pick (aCons (eSlot 0) (aCons (eC (.int 6)) aNil)))) aNil))))) sNext)
 (sSeq (sIf (tE (eOp2 eqO (eSlot 3) (eC (.int 11)))) (sRet (eTup (aCons (eC (.str "tick")) aNil))) sNext)
 (sRet (eTup (aCons (eOp2 ixA (eFrz (aCons (eC (.str "up")) (aCons (eC (.str "down")) (aCons (eC (.str "leave")) (aCons (eC (.str "leave")) (aCons (eC (.str "stop")) aNil)))))) (eOp2 subO (eSlot 3) (eC (.int 6)))) (aCons (eSlot 2) aNil))))))))
noncomputable def F__law_deed : MF := dropF (runF 2 N__law_deed b__law_deed)
abbrev s__law_whole : Stmt := topS 13
abbrev N__law_whole : List Str := ["_law_thing", "_law_least", "_law_most"]
theorem sc__law_whole : FnScope N__law_whole ["_law_thing", "_law_least", "_law_most"] (defScope s__law_whole) := ⟨rfl, rfl, rfl, by decide +kernel, rfl, by decide +kernel, by decide +kernel⟩
noncomputable def b__law_whole : MS :=
 (sRet (eAnd (eOpN isiO (aCons (eSlot 0) (aCons (eC (.glb (.ty "int"))) aNil))) (eAnd (eNot (eOpN isiO (aCons (eSlot 0) (aCons (eC (.glb (.ty "bool"))) aNil)))) (eChain leO leO (eSlot 1) (eSlot 0) (eSlot 2)))))
noncomputable def F__law_whole : MF := frzF (runF 3 N__law_whole b__law_whole)
abbrev s__law_is_deed : Stmt := topS 14
abbrev N__law_is_deed : List Str := ["_law_n", "_law_thing", "_law_sizes"]
theorem sc__law_is_deed : FnScope N__law_is_deed ["_law_n", "_law_thing"] (defScope s__law_is_deed) := ⟨rfl, rfl, rfl, by decide +kernel, rfl, by decide +kernel, by decide +kernel⟩
noncomputable def b__law_is_deed : MS :=
 (sSeq (sIf (tOr (tNot (tE (eOpN isiWO (aCons (eSlot 1) (aCons (eC (.glb (.ty "tuple"))) aNil))))) (tOr (tE (eOp2 eqO (eOpN lenO (aCons (eSlot 1) aNil)) (eC (.int 0)))) (tNot (tE (eOpN isiWO (aCons (eOp2 ixA (eSlot 1) (eC (.int 0))) (aCons (eC (.glb (.ty "str"))) aNil))))))) (sRet (eC (.bl false))) sNext)
 (sSeq (sAsg (eDisp (((eC (.str "read")), (eC (.int 3))) :: (((eC (.str "write")), (eC (.int 3))) :: (((eC (.str "up")), (eC (.int 2))) :: (((eC (.str "down")), (eC (.int 2))) :: (((eC (.str "leave")), (eC (.int 2))) :: (((eC (.str "stop")), (eC (.int 2))) :: (((eC (.str "tick")), (eC (.int 1))) :: [])))))))) (gName 2))
 (sSeq (sIf (tE (eOp2 neO (eDGet2 (eSlot 2) (eOp2 ixA (eSlot 1) (eC (.int 0))) (eC (.int 0))) (eOpN lenO (aCons (eSlot 1) aNil)))) (sRet (eC (.bl false))) sNext)
 (sSeq (sIf (tAnd (tE (eOp2 gtO (eOpN lenO (aCons (eSlot 1) aNil)) (eC (.int 1)))) (tNot (tE (eCall F__law_whole (aCons (eOp2 ixA (eSlot 1) (eC (.int 1))) (aCons (eC (.int 0)) (aCons (eOp2 subO (eSlot 0) (eC (.int 1))) aNil))))))) (sRet (eC (.bl false))) sNext)
 (sRet (eOr (eOp2 ltO (eOpN lenO (aCons (eSlot 1) aNil)) (eC (.int 3))) (eOr (eOp2 (isNO false) (eOp2 ixA (eSlot 1) (eC (.int 2))) (eC .non)) (eCall F__law_whole (aCons (eOp2 ixA (eSlot 1) (eC (.int 2))) (aCons (eC (.int 0)) (aCons (eC (.int 9)) aNil)))))))))))
noncomputable def F__law_is_deed : MF := frzF (runF 2 N__law_is_deed b__law_is_deed)
abbrev s__law_bent : Stmt := topS 15
abbrev N__law_bent : List Str := ["_law_left_here", "_law_n", "_law_deed_here", "_law_words", "_law_odd", "_law_word", "_law_thing", "_law_some"]
theorem sc__law_bent : FnScope N__law_bent ["_law_left_here", "_law_n", "_law_deed_here"] (defScope s__law_bent) := ⟨rfl, rfl, rfl, by decide +kernel, rfl, by decide +kernel, by decide +kernel⟩
noncomputable def b__law_bent : MS :=
 (sSeq (sAsg (eFrz (aCons (eC (.str "read")) (aCons (eC (.str "write")) (aCons (eC (.str "up")) (aCons (eC (.str "down")) (aCons (eC (.str "leave")) (aCons (eC (.str "stop")) (aCons (eC (.str "tick")) (aCons (eC (.str "reads")) (aCons (eC (.str "")) (aCons (eC (.str "Read")) (aCons (eC (.str "ticks")) aNil)))))))))))) (gName 3))
 (sSeq (sAsg (eFrz (aCons (eSlot 1) (aCons (eNeg (eC (.int 1))) (aCons (eOp2 subO (eSlot 1) (eC (.int 1))) (aCons (eC (.bl true)) (aCons (eC (.bl false)) (aCons (eC .non) (aCons (eC (.str "0")) (aCons (eTup (aCons (eC (.int 0)) aNil)) (aCons (eFrz (aCons (eC (.int 0)) aNil)) (aCons (eOp2 powO (eC (.int 10)) (eC (.int 30))) (aCons (eC (.int 9)) (aCons (eC (.int 10)) aNil))))))))))))) (gName 4))
 (sSeq (sPar 5 6 (aCons (eOp2 ixA (eSlot 3) (eCall F__law_pick (aCons (eSlot 0) (aCons (eC (.int 11)) aNil)))) (aCons (eOp2 ixA (eSlot 4) (eCall F__law_pick (aCons (eSlot 0) (aCons (eC (.int 12)) aNil)))) aNil)))
 (sSeq (sAsg (eFrz (aCons (eFrz (aSeq (eSlot 2))) (aCons (eOp2 addO (eSlot 2) (eTup (aCons (eC .non) aNil))) (aCons (eOp2 addO (eSlot 2) (eTup (aCons (eSlot 6) aNil))) (aCons (eSlice (eSlot 2) oNone (oSome (eNeg (eC (.int 1))))) (aCons (eSlice (eSlot 2) oNone (oSome (eC (.int 1)))) (aCons (eTup (aCons (eSlot 2) aNil)) (aCons (eOp2 addO (eTup (aCons (eSlot 5) aNil)) (eSlice (eSlot 2) (oSome (eC (.int 1))) oNone)) aNil)))))))) (gName 7))
 (sSeq (sAsg (eOp2 addO (eSlot 7) (eFrz (aCons (eOp2 addO (eOp2 addO (eSlice (eSlot 2) oNone (oSome (eC (.int 1)))) (eTup (aCons (eSlot 6) aNil))) (eSlice (eSlot 2) (oSome (eC (.int 2))) oNone)) (aCons (eOp2 addO (eSlice (eSlot 2) oNone (oSome (eC (.int 2)))) (eTup (aCons (eSlot 6) aNil))) (aCons (eSlice (eSlot 2) (oSome (eC (.int 1))) oNone) (aCons (eOp2 addO (eTup (aCons (eSlot 6) aNil)) (eSlice (eSlot 2) (oSome (eC (.int 1))) oNone)) aNil)))))) (gName 7))
 (sSeq (sAsg (eOp2 addO (eSlot 7) (eFrz (aCons (eOp2 addO (eSlice (eSlot 2) oNone (oSome (eC (.int 2)))) (eTup (aCons (eOp2 ixA (eFrz (aCons (eC .non) (aCons (eC (.int 0)) (aCons (eC (.int 9)) aNil)))) (eCall F__law_pick (aCons (eSlot 0) (aCons (eC (.int 3)) aNil)))) aNil))) (aCons (eSlice (eSlot 2) oNone (oSome (eC (.int 2)))) (aCons (eOpN strWO (aCons (eSlot 2) aNil)) (aCons (eDisp1N (eSlot 2) (eC (.bl true))) aNil)))))) (gName 7))
 (sRet (eOp2 ixA (eSlot 7) (eCall F__law_pick (aCons (eSlot 0) (aCons (eC (.int 15)) aNil)))))))))))
noncomputable def F__law_bent : MF := fdF (runF 3 N__law_bent b__law_bent)
abbrev s__law_nested : Stmt := topS 16
abbrev N__law_nested : List Str := ["_law_thing", "_law_deep", "_law_turn"]
theorem sc__law_nested : FnScope N__law_nested ["_law_thing", "_law_deep"] (defScope s__law_nested) := ⟨rfl, rfl, rfl, by decide +kernel, rfl, by decide +kernel, by decide +kernel⟩
noncomputable def L__law_nested_0 : MS :=
 (sAsg (eTup (aCons (eSlot 0) (aCons (eC (.int 0)) aNil))) (gName 0))
noncomputable def b__law_nested : MS :=
 (sSeq (sFor (iA rng1 (aCons (eSlot 1) aNil)) (.name 2) L__law_nested_0)
 (sRet (eSlot 0)))
noncomputable def F__law_nested : MF := runF 2 N__law_nested b__law_nested
abbrev s_law : Stmt := topS 17
abbrev N_law : List Str := ["_law_script", "_law_k", "_law_left_here", "_law_n", "_law_some", "_law_turn", "_law_deed_here", "_law_thing", "_law_found", "_law_deep"]
theorem sc_law : FnScope N_law ["_law_script"] (defScope s_law) := ⟨rfl, rfl, rfl, by decide +kernel, rfl, by decide +kernel, by decide +kernel⟩
noncomputable def L_law_0 : MS :=
 (sSeq (sAsg (eCall F__law_deed (aCons (eSlot 2) (aCons (eSlot 3) aNil))) (gName 6))
 (sAsg (eOp2 addO (eSlot 4) (eFrz (aCons (eSlot 6) (aCons (eCall F__law_bent (aCons (eSlot 2) (aCons (eSlot 3) (aCons (eSlot 6) aNil)))) (aCons (eCall F__law_bent (aCons (eSlot 2) (aCons (eSlot 3) (aCons (eCall F__law_deed (aCons (eSlot 2) (aCons (eC (.int 9)) aNil))) aNil)))) aNil))))) (gName 4)))
noncomputable def L_law_1 : MS :=
 (sSeq (sAsg (eCall F_is_deed (aCons (eSlot 3) (aCons (eSlot 7) aNil))) (gName 8))
 (sIf (tOr (tNot (tE (eOpN isiO (aCons (eSlot 8) (aCons (eC (.glb (.ty "bool"))) aNil))))) (tE (eOp2 neO (eSlot 8) (eCall F__law_is_deed (aCons (eSlot 3) (aCons (eSlot 7) aNil)))))) (sRet (eC (.bl false))) sNext))
noncomputable def L_law_2 : MS :=
 (sSeq (sAsg (eCall F__law_left (aCons (eSlot 0) (aCons (eSlot 1) aNil))) (gName 2))
 (sSeq (sAsg (eOp2 addO (eC (.int 1)) (eCall F__law_pick (aCons (eSlot 2) (aCons (eC (.int 5)) aNil)))) (gName 3))
 (sSeq (sAsg (eFrz (aCons (eC .non) (aCons (eC (.bl true)) (aCons (eC (.int 0)) (aCons (eC (.str "")) (aCons (eC (.str "tick")) (aCons (eC (.str "read")) (aCons (eTup aNil) (aCons (eFrz aNil) (aCons (eDict0S) (aCons (eTup (aCons (eC (.str "tick")) aNil)) (aCons (eFrz (aCons (eC (.str "tick")) aNil)) (aCons (eTup (aCons (eTup (aCons (eC (.str "tick")) aNil)) aNil)) (aCons (eTup (aCons (eC .non) (aCons (eC (.int 0)) aNil))) (aCons (eTup (aCons (eC (.int 0)) (aCons (eC (.str "up")) aNil))) aNil))))))))))))))) (gName 4))
 (sSeq (sAsg (eOp2 addO (eSlot 4) (eFrz (aComp (iOf (eTup (aCons (eC (.int 1)) (aCons (eC (.int 59)) aNil)))) (.name 9) (fun _ h => .ok true h) (eCall F__law_nested (aCons (eTup (aCons (eC (.str "up")) (aCons (eC (.int 0)) aNil))) (aCons (eSlot 9) aNil))) [9]))) (gName 4))
 (sSeq (sFor (iA rng1 (aCons (eC (.int 12)) aNil)) (.name 5) L_law_0)
 (sFor (iOf (eSlot 4)) (.name 7) L_law_1))))))
noncomputable def b_law : MS :=
 (sSeq (sFor (iA rng1 (aCons (eOpN max2O (aCons (eC (.int 3)) (aCons (eOpN min2O (aCons (eOpN lenO (aCons (eSlot 0) aNil)) (aCons (eC (.int 8)) aNil))) aNil))) aNil)) (.name 1) L_law_2)
 (sRet (eC (.bl true))))
noncomputable def F_law : MF := runF 1 N_law b_law
structure Txt (P : Program) (w : World) (K : PySem.W.Frag) (mg : Str → Option Value) where
  p_is_between : Fd K mg "is_between" s_is_between ["thing", "low", "high"]
  p_is_deed : Fd K mg "is_deed" s_is_deed ["n", "thing"]
  p__law_cell_at : Fd K mg "_law_cell_at" s__law_cell_at ["_law_script", "_law_k"]
  p__law_far : Fd K mg "_law_far" s__law_far []
  p__law_left : Fd K mg "_law_left" s__law_left ["_law_script", "_law_k"]
  p__law_pick : Fd K mg "_law_pick" s__law_pick ["_law_left_here", "_law_many"]
  p__law_deed : Fd K mg "_law_deed" s__law_deed ["_law_left_here", "_law_n"]
  p__law_whole : Fd K mg "_law_whole" s__law_whole ["_law_thing", "_law_least", "_law_most"]
  p__law_is_deed : Fd K mg "_law_is_deed" s__law_is_deed ["_law_n", "_law_thing"]
  p__law_bent : Fd K mg "_law_bent" s__law_bent ["_law_left_here", "_law_n", "_law_deed_here"]
  p__law_nested : Fd K mg "_law_nested" s__law_nested ["_law_thing", "_law_deep"]
  p_law : Fd K mg "law" s_law ["_law_script"]
  c_ASKS : Cn P w K mg "ASKS" c_ASKS
  c_MOVES : Cn P w K mg "MOVES" c_MOVES
  c_LONGEST_LEFT : Cn P w K mg "LONGEST_LEFT" c_LONGEST_LEFT
  n_bool : mg "bool" = none
  n_int : mg "int" = none
  n_isinstance : mg "isinstance" = none
  n_len : mg "len" = none
  n_list : mg "list" = none
  n_max : mg "max" = none
  n_min : mg "min" = none
  n_range : mg "range" = none
  n_str : mg "str" = none
  n_tuple : mg "tuple" = none
section
variable {P : Program} {w : World} {K : PySem.W.Frag} {mg : Str → Option Value}
theorem ok_is_between {base : Heap} (T : Txt P w K mg) : FnD P w K mg base 1 T.p_is_between.f T.p_is_between.fd ["thing", "low", "high"] F_is_between := by
  refine (fn_ok T.p_is_between.F sc_is_between fun cdv A outer s H E hr => ?_).frz
  have nd := sc_is_between.nd
  have hu1 := hu_of hr
  have hu := hr.units
  have hu65 := hu65 hr
  have hp : PassesOwn _ _ _ (cxOf (L2.CX P w) P w K mg base N_is_between "is_between" (defScope s_is_between) T.p_is_between.f cdv A outer s H E).xe := passes_of rfl
  exact (ss_one (ds_ret (de_and (de_callB call_isiA rz_isi (by rfl) T.n_isinstance (by decide +kernel) (dan_cons (de_slot 0) (dan_cons (de_tyN (T := "int") (by rfl) T.n_int (by decide +kernel)) dan_nil)).da) (de_and (de_not (de_callB call_isiA rz_isi (by rfl) T.n_isinstance (by decide +kernel) (dan_cons (de_slot 0) (dan_cons (de_tyN (T := "bool") (by rfl) T.n_bool (by decide +kernel)) dan_nil)).da)) (de_one (de_chain op_le op_le rz_le rz_le (de_slot 1) (de_slot 0) (de_slot 2)))))))
theorem ok_is_deed {base : Heap} (T : Txt P w K mg) : FnD P w K mg base 2 T.p_is_deed.f T.p_is_deed.fd ["n", "thing"] F_is_deed := by
  refine (fn_ok T.p_is_deed.F sc_is_deed fun cdv A outer s H E hr => ?_).frz
  have nd := sc_is_deed.nd
  have hu1 := hu_of hr
  have hu := hr.units
  have hu65 := hu65 hr
  have hp : PassesOwn _ _ _ (cxOf (L2.CX P w) P w K mg base N_is_deed "is_deed" (defScope s_is_deed) T.p_is_deed.f cdv A outer s H E).xe := passes_of rfl
  exact (ss_cons (ds_if (dt_w (dw_or (dt_not (dt_val (de_callB call_isiA rz_isiW (by rfl) T.n_isinstance (by decide +kernel) (dan_cons (de_slot 1) (dan_cons (de_tyN (T := "tuple") (by rfl) T.n_tuple (by decide +kernel)) dan_nil)).da))) (dw_or (dt_cmp (op_eqD hu) rz_eq (de_callB call_lenA rz_len (by rfl) T.n_len PySem.boot_len (dan_cons (de_slot 1) dan_nil).da) de_int (nomark _)) (dw_or1 (dt_not (dt_val (de_callB call_isiA rz_isiW (by rfl) T.n_isinstance (by decide +kernel) (dan_cons (de_ixA hu1 (de_slot 1) de_int) (dan_cons (de_tyN (T := "str") (by rfl) T.n_str (by decide +kernel)) dan_nil)).da))))))) (ss_one (ds_ret de_bl)) ss_nil)
 (ss_cons (ds_if (dt_cmp (op_eqD hu) rz_eq (de_ixA hu1 (de_slot 1) de_int) de_str (nomark _)) (ss_one (ds_ret (de_cmp (op_eqD hu) rz_eq (de_callB call_lenA rz_len (by rfl) T.n_len PySem.boot_len (dan_cons (de_slot 1) dan_nil).da) de_int (nomark _)))) ss_nil)
 (ss_cons (ds_if (dt_w (dw_or (dt_cmp op_lt rz_lt (de_callB call_lenA rz_len (by rfl) T.n_len PySem.boot_len (dan_cons (de_slot 1) dan_nil).da) de_int (nomark _)) (dw_or1 (dt_not (dt_val (de_call (ok_is_between T) (hr.mono (by decide)) (by rfl) T.p_is_between.g T.p_is_between.F.kp T.p_is_between.b (dan_cons (de_ixA hu1 (de_slot 1) de_int) (dan_cons de_int (dan_cons (de_op op_sub rz_sub (de_slot 0) de_int) dan_nil))))))))) (ss_one (ds_ret de_bl)) ss_nil)
 (ss_cons (ds_if (dt_cmp (op_inDT hu65) (rz_in false) (de_ixA hu1 (de_slot 1) de_int) (de_cn (by rfl) T.c_ASKS) (by rfl)) (ss_one (ds_ret (de_and (de_cmp (op_eqD hu) rz_eq (de_callB call_lenA rz_len (by rfl) T.n_len PySem.boot_len (dan_cons (de_slot 1) dan_nil).da) de_int (nomark _)) (de_one (de_or (de_cmp op_isN rz_isN (de_ixA hu1 (de_slot 1) de_int) de_non (nomark _)) (de_one (de_call (ok_is_between T) (hr.mono (by decide)) (by rfl) T.p_is_between.g T.p_is_between.F.kp T.p_is_between.b (dan_cons (de_ixA hu1 (de_slot 1) de_int) (dan_cons de_int (dan_cons (de_cn (by rfl) T.c_LONGEST_LEFT) dan_nil)))))))))) ss_nil)
 (ss_one (ds_ret (de_and (de_cmp (op_inDT hu65) (rz_in false) (de_ixA hu1 (de_slot 1) de_int) (de_cn (by rfl) T.c_MOVES) (by rfl)) (de_one (de_cmp (op_eqD hu) rz_eq (de_callB call_lenA rz_len (by rfl) T.n_len PySem.boot_len (dan_cons (de_slot 1) dan_nil).da) de_int (nomark _))))))))))
theorem ok__law_cell_at {base : Heap} (T : Txt P w K mg) : FnD P w K mg base 1 T.p__law_cell_at.f T.p__law_cell_at.fd ["_law_script", "_law_k"] F__law_cell_at := by
  refine (fn_ok T.p__law_cell_at.F sc__law_cell_at fun cdv A outer s H E hr => ?_)
  have nd := sc__law_cell_at.nd
  have hu1 := hu_of hr
  have hu := hr.units
  have hu65 := hu65 hr
  have hp : PassesOwn _ _ _ (cxOf (L2.CX P w) P w K mg base N__law_cell_at "_law_cell_at" (defScope s__law_cell_at) T.p__law_cell_at.f cdv A outer s H E).xe := passes_of rfl
  exact (ss_cons (ds_if (dt_cmp op_lt rz_lt (de_slot 1) (de_callB call_lenA rz_len (by rfl) T.n_len PySem.boot_len (dan_cons (de_slot 0) dan_nil).da) (nomark _)) (ss_one (ds_ret (de_ixA hu1 (de_slot 0) (de_slot 1)))) ss_nil)
 (ss_one (ds_ret de_int)))
theorem ok__law_far {base : Heap} (T : Txt P w K mg) : FnD P w K mg base 1 T.p__law_far.f T.p__law_far.fd [] F__law_far := by
  refine (fn_ok T.p__law_far.F sc__law_far fun cdv A outer s H E hr => ?_)
  have nd := sc__law_far.nd
  have hu1 := hu_of hr
  have hu := hr.units
  have hu65 := hu65 hr
  have hp : PassesOwn _ _ _ (cxOf (L2.CX P w) P w K mg base N__law_far "_law_far" (defScope s__law_far) T.p__law_far.f cdv A outer s H E).xe := passes_of rfl
  exact (ss_cons (ds_set nd de_int)
 (ss_cons (ds_for hp rfl (di_range1 (by rfl) T.n_range (dan_cons de_int dan_nil).da) (dtg_name nd) (ss_one (ds_set nd (de_op op_mulB rz_mulB (de_slot 0) (de_op op_pow rz_pow de_int de_int)))))
 (ss_one (ds_ret (de_slot 0)))))
theorem ok__law_left {base : Heap} (T : Txt P w K mg) : FnD P w K mg base 2 T.p__law_left.f T.p__law_left.fd ["_law_script", "_law_k"] F__law_left := by
  refine (fn_ok T.p__law_left.F sc__law_left fun cdv A outer s H E hr => ?_)
  have nd := sc__law_left.nd
  have hu1 := hu_of hr
  have hu := hr.units
  have hu65 := hu65 hr
  have hp : PassesOwn _ _ _ (cxOf (L2.CX P w) P w K mg base N__law_left "_law_left" (defScope s__law_left) T.p__law_left.f cdv A outer s H E).xe := passes_of rfl
  exact (ss_cons (ds_set nd (de_call (ok__law_cell_at T) (hr.mono (by decide)) (by rfl) T.p__law_cell_at.g T.p__law_cell_at.F.kp T.p__law_cell_at.b (dan_cons (de_slot 0) (dan_cons (de_op op_mod rz_mod (de_slot 1) (de_callB (call_max2 rfl) rz_max2 (by rfl) T.n_max (by decide +kernel) (dan_cons de_int (dan_cons (de_callB call_lenA rz_len (by rfl) T.n_len PySem.boot_len (dan_cons (de_slot 0) dan_nil).da) dan_nil)).da)) dan_nil))))
 (ss_cons (ds_set nd (de_op op_mod rz_mod (de_op op_mulB rz_mulB (de_op op_addA rz_add (de_op op_addA rz_add (de_op op_mod rz_mod (de_slot 2) de_int) (de_op op_mulB rz_mulB (de_op op_mulB rz_mulB de_int (de_slot 1)) (de_slot 1))) de_int) de_int) de_int))
 (ss_cons (ds_set nd (de_op op_mod rz_mod (de_op op_addA rz_add (de_op op_addA rz_add (de_op op_mulB rz_mulB (de_slot 3) de_int) (de_op op_mulB rz_mulB de_int (de_slot 1))) de_int) de_int))
 (ss_cons (ds_if (dt_cmp op_lt rz_lt (de_slot 2) (de_op op_pow rz_pow de_int de_int) (nomark _)) (ss_one (ds_set nd de_int)) ss_nil)
 (ss_one (ds_ret (de_new (dl_lst (dan_cons (de_op op_mod rz_mod (de_slot 2) (de_call0 (ok__law_far T) (hr.mono (by decide)) (by rfl) T.p__law_far.g T.p__law_far.F.kp T.p__law_far.b)) (dan_cons (de_slot 3) (dan_cons de_int dan_nil)))))))))))
theorem ok__law_pick {base : Heap} (T : Txt P w K mg) : FnD P w K mg base 1 T.p__law_pick.f T.p__law_pick.fd ["_law_left_here", "_law_many"] F__law_pick := by
  refine (fn_ok T.p__law_pick.F sc__law_pick fun cdv A outer s H E hr => ?_)
  have nd := sc__law_pick.nd
  have hu1 := hu_of hr
  have hu := hr.units
  have hu65 := hu65 hr
  have hp : PassesOwn _ _ _ (cxOf (L2.CX P w) P w K mg base N__law_pick "_law_pick" (defScope s__law_pick) T.p__law_pick.f cdv A outer s H E).xe := passes_of rfl
  exact (ss_cons (ds_if (dt_cmp op_gt rz_gt (de_ixA hu1 (de_slot 0) de_int) de_int (nomark _)) (ss_cons (ds_set nd (de_op op_mod rz_mod (de_ixA hu1 (de_slot 0) de_int) (de_slot 1)))
 (ss_cons (ds_asg (de_op op_fdiv rz_fdiv (de_ixA hu1 (de_slot 0) de_int) (de_slot 1)) (dg_sub (de_slot 0) de_int set_list rz_set))
 (ss_one (ds_ret (de_slot 2))))) ss_nil)
 (ss_cons (ds_asg (de_op op_addA rz_add (de_ixA hu1 (de_slot 0) de_int) de_int) (dg_sub (de_slot 0) de_int set_list rz_set))
 (ss_cons (ds_asg (de_op op_mod rz_mod (de_op op_addA rz_add (de_op op_addA rz_add (de_op op_mulB rz_mulB (de_ixA hu1 (de_slot 0) de_int) de_int) de_int) (de_op op_mulB rz_mulB de_int (de_ixA hu1 (de_slot 0) de_int))) de_int) (dg_sub (de_slot 0) de_int set_list rz_set))
 (ss_one (ds_ret (de_op op_mod rz_mod (de_op op_fdiv rz_fdiv (de_op op_mod rz_mod (de_op op_mulB rz_mulB (de_ixA hu1 (de_slot 0) de_int) (de_ixA hu1 (de_slot 0) de_int)) de_int) de_int) (de_slot 1)))))))
theorem ok__law_deed {base : Heap} (T : Txt P w K mg) : FnD P w K mg base 2 T.p__law_deed.f T.p__law_deed.fd ["_law_left_here", "_law_n"] F__law_deed := by
  refine (fn_ok T.p__law_deed.F sc__law_deed fun cdv A outer s H E hr => ?_).drop
  have nd := sc__law_deed.nd
  have hu1 := hu_of hr
  have hu := hr.units
  have hu65 := hu65 hr
  have hp : PassesOwn _ _ _ (cxOf (L2.CX P w) P w K mg base N__law_deed "_law_deed" (defScope s__law_deed) T.p__law_deed.f cdv A outer s H E).xe := passes_of rfl
  exact (ss_cons (ds_set nd (de_call (ok__law_pick T) (hr.mono (by decide)) (by rfl) T.p__law_pick.g T.p__law_pick.F.kp T.p__law_pick.b (dan_cons (de_slot 0) (dan_cons (de_slot 1) dan_nil))))
 (ss_cons (ds_set nd (de_call (ok__law_pick T) (hr.mono (by decide)) (by rfl) T.p__law_pick.g T.p__law_pick.F.kp T.p__law_pick.b (dan_cons (de_slot 0) (dan_cons de_int dan_nil))))
 (ss_cons (ds_if (dt_cmp op_lt rz_lt (de_slot 3) de_int (nomark _)) (ss_one (ds_ret (de_tup (dan_cons (de_ixA hu1 (de_frz (dl_lst (dan_cons de_str (dan_cons de_str dan_nil)))) (de_op op_mod rz_mod (de_slot 3) de_int)) (dan_cons (de_slot 2) (dan_cons (de_ixA hu1 (de_frz (dl_lst (dan_cons de_non (dan_cons de_non (dan_cons de_non (dan_cons de_int (dan_cons de_int (dan_cons de_int dan_nil)))))))) (de_call (ok__law_pick T) (hr.mono (by decide)) (by rfl) T.p__law_pick.g T.p__law_pick.F.kp T.p__law_pick.b (dan_cons (de_slot 0) (dan_cons de_int dan_nil)))) dan_nil)))))) ss_nil)
 (ss_cons (ds_if (dt_cmp (op_eqD hu) rz_eq (de_slot 3) de_int (nomark _)) (ss_one (ds_ret (de_tup (dan_cons de_str dan_nil)))) ss_nil)
 (ss_one (ds_ret (de_tup (dan_cons (de_ixA hu1 (de_frz (dl_lst (dan_cons de_str (dan_cons de_str (dan_cons de_str (dan_cons de_str (dan_cons de_str dan_nil))))))) (de_op op_sub rz_sub (de_slot 3) de_int)) (dan_cons (de_slot 2) dan_nil)))))))))
theorem ok__law_whole {base : Heap} (T : Txt P w K mg) : FnD P w K mg base 1 T.p__law_whole.f T.p__law_whole.fd ["_law_thing", "_law_least", "_law_most"] F__law_whole := by
  refine (fn_ok T.p__law_whole.F sc__law_whole fun cdv A outer s H E hr => ?_).frz
  have nd := sc__law_whole.nd
  have hu1 := hu_of hr
  have hu := hr.units
  have hu65 := hu65 hr
  have hp : PassesOwn _ _ _ (cxOf (L2.CX P w) P w K mg base N__law_whole "_law_whole" (defScope s__law_whole) T.p__law_whole.f cdv A outer s H E).xe := passes_of rfl
  exact (ss_one (ds_ret (de_and (de_callB call_isiA rz_isi (by rfl) T.n_isinstance (by decide +kernel) (dan_cons (de_slot 0) (dan_cons (de_tyN (T := "int") (by rfl) T.n_int (by decide +kernel)) dan_nil)).da) (de_and (de_not (de_callB call_isiA rz_isi (by rfl) T.n_isinstance (by decide +kernel) (dan_cons (de_slot 0) (dan_cons (de_tyN (T := "bool") (by rfl) T.n_bool (by decide +kernel)) dan_nil)).da)) (de_one (de_chain op_le op_le rz_le rz_le (de_slot 1) (de_slot 0) (de_slot 2)))))))
theorem ok__law_is_deed {base : Heap} (T : Txt P w K mg) : FnD P w K mg base 2 T.p__law_is_deed.f T.p__law_is_deed.fd ["_law_n", "_law_thing"] F__law_is_deed := by
  refine (fn_ok T.p__law_is_deed.F sc__law_is_deed fun cdv A outer s H E hr => ?_).frz
  have nd := sc__law_is_deed.nd
  have hu1 := hu_of hr
  have hu := hr.units
  have hu65 := hu65 hr
  have hp : PassesOwn _ _ _ (cxOf (L2.CX P w) P w K mg base N__law_is_deed "_law_is_deed" (defScope s__law_is_deed) T.p__law_is_deed.f cdv A outer s H E).xe := passes_of rfl
  exact (ss_cons (ds_if (dt_w (dw_or (dt_not (dt_val (de_callB call_isiA rz_isiW (by rfl) T.n_isinstance (by decide +kernel) (dan_cons (de_slot 1) (dan_cons (de_tyN (T := "tuple") (by rfl) T.n_tuple (by decide +kernel)) dan_nil)).da))) (dw_or (dt_cmp (op_eqD hu) rz_eq (de_callB call_lenA rz_len (by rfl) T.n_len PySem.boot_len (dan_cons (de_slot 1) dan_nil).da) de_int (nomark _)) (dw_or1 (dt_not (dt_val (de_callB call_isiA rz_isiW (by rfl) T.n_isinstance (by decide +kernel) (dan_cons (de_ixA hu1 (de_slot 1) de_int) (dan_cons (de_tyN (T := "str") (by rfl) T.n_str (by decide +kernel)) dan_nil)).da))))))) (ss_one (ds_ret de_bl)) ss_nil)
 (ss_cons (ds_set nd (de_disp (dps_cons de_str de_int (dps_cons de_str de_int (dps_cons de_str de_int (dps_cons de_str de_int (dps_cons de_str de_int (dps_cons de_str de_int (dps_cons de_str de_int dps_nil)))))))))
 (ss_cons (ds_if (dt_cmp (op_neD hu) rz_ne (de_dget2 hu1 (de_slot 2) (de_ixA hu1 (de_slot 1) de_int) de_int ⟨by rfl, by rfl, by rfl, by rfl⟩) (de_callB call_lenA rz_len (by rfl) T.n_len PySem.boot_len (dan_cons (de_slot 1) dan_nil).da) (nomark _)) (ss_one (ds_ret de_bl)) ss_nil)
 (ss_cons (ds_if (dt_w (dw_and (dt_cmp op_gt rz_gt (de_callB call_lenA rz_len (by rfl) T.n_len PySem.boot_len (dan_cons (de_slot 1) dan_nil).da) de_int (nomark _)) (dw_and1 (dt_not (dt_val (de_call (ok__law_whole T) (hr.mono (by decide)) (by rfl) T.p__law_whole.g T.p__law_whole.F.kp T.p__law_whole.b (dan_cons (de_ixA hu1 (de_slot 1) de_int) (dan_cons de_int (dan_cons (de_op op_sub rz_sub (de_slot 0) de_int) dan_nil))))))))) (ss_one (ds_ret de_bl)) ss_nil)
 (ss_one (ds_ret (de_or (de_cmp op_lt rz_lt (de_callB call_lenA rz_len (by rfl) T.n_len PySem.boot_len (dan_cons (de_slot 1) dan_nil).da) de_int (nomark _)) (de_or (de_cmp op_isN rz_isN (de_ixA hu1 (de_slot 1) de_int) de_non (nomark _)) (de_one (de_call (ok__law_whole T) (hr.mono (by decide)) (by rfl) T.p__law_whole.g T.p__law_whole.F.kp T.p__law_whole.b (dan_cons (de_ixA hu1 (de_slot 1) de_int) (dan_cons de_int (dan_cons de_int dan_nil)))))))))))))
theorem ok__law_bent {base : Heap} (T : Txt P w K mg) : FnD P w K mg base 2 T.p__law_bent.f T.p__law_bent.fd ["_law_left_here", "_law_n", "_law_deed_here"] F__law_bent := by
  refine (fn_ok T.p__law_bent.F sc__law_bent fun cdv A outer s H E hr => ?_).fd
  have nd := sc__law_bent.nd
  have hu1 := hu_of hr
  have hu := hr.units
  have hu65 := hu65 hr
  have hp : PassesOwn _ _ _ (cxOf (L2.CX P w) P w K mg base N__law_bent "_law_bent" (defScope s__law_bent) T.p__law_bent.f cdv A outer s H E).xe := passes_of rfl
  exact (ss_cons (ds_set nd (de_frz (dl_lst (dan_cons de_str (dan_cons de_str (dan_cons de_str (dan_cons de_str (dan_cons de_str (dan_cons de_str (dan_cons de_str (dan_cons de_str (dan_cons de_str (dan_cons de_str (dan_cons de_str dan_nil))))))))))))))
 (ss_cons (ds_set nd (de_frz (dl_lst (dan_cons (de_slot 1) (dan_cons (de_neg de_int) (dan_cons (de_op op_sub rz_sub (de_slot 1) de_int) (dan_cons de_bl (dan_cons de_bl (dan_cons de_non (dan_cons de_str (dan_cons (de_tup (dan_cons de_int dan_nil)) (dan_cons (de_frz (dl_lst (dan_cons de_int dan_nil))) (dan_cons (de_op op_pow rz_pow de_int de_int) (dan_cons de_int (dan_cons de_int dan_nil)))))))))))))))
 (ss_cons (ds_par rfl nd (i := 5) (j := 6) rfl rfl (by decide) rfl rfl (dan_cons (de_ixA hu1 (de_slot 3) (de_call (ok__law_pick T) (hr.mono (by decide)) (by rfl) T.p__law_pick.g T.p__law_pick.F.kp T.p__law_pick.b (dan_cons (de_slot 0) (dan_cons de_int dan_nil)))) (dan_cons (de_ixA hu1 (de_slot 4) (de_call (ok__law_pick T) (hr.mono (by decide)) (by rfl) T.p__law_pick.g T.p__law_pick.F.kp T.p__law_pick.b (dan_cons (de_slot 0) (dan_cons de_int dan_nil)))) dan_nil)).da (by rfl))
 (ss_cons (ds_set nd (de_frz (dl_lst (dan_cons (de_frz (dl_list1 (by rfl) T.n_list (by decide +kernel) (de_slot 2))) (dan_cons (de_op op_addA rz_add (de_slot 2) (de_tup (dan_cons de_non dan_nil))) (dan_cons (de_op op_addA rz_add (de_slot 2) (de_tup (dan_cons (de_slot 6) dan_nil))) (dan_cons (de_slice (de_slot 2) do_none (do_some (de_neg de_int))) (dan_cons (de_slice (de_slot 2) do_none (do_some de_int)) (dan_cons (de_tup (dan_cons (de_slot 2) dan_nil)) (dan_cons (de_op op_addA rz_add (de_tup (dan_cons (de_slot 5) dan_nil)) (de_slice (de_slot 2) (do_some de_int) do_none)) dan_nil))))))))))
 (ss_cons (ds_set nd (de_op op_addA rz_add (de_slot 7) (de_frz (dl_lst (dan_cons (de_op op_addA rz_add (de_op op_addA rz_add (de_slice (de_slot 2) do_none (do_some de_int)) (de_tup (dan_cons (de_slot 6) dan_nil))) (de_slice (de_slot 2) (do_some de_int) do_none)) (dan_cons (de_op op_addA rz_add (de_slice (de_slot 2) do_none (do_some de_int)) (de_tup (dan_cons (de_slot 6) dan_nil))) (dan_cons (de_slice (de_slot 2) (do_some de_int) do_none) (dan_cons (de_op op_addA rz_add (de_tup (dan_cons (de_slot 6) dan_nil)) (de_slice (de_slot 2) (do_some de_int) do_none)) dan_nil))))))))
 (ss_cons (ds_set nd (de_op op_addA rz_add (de_slot 7) (de_frz (dl_lst (dan_cons (de_op op_addA rz_add (de_slice (de_slot 2) do_none (do_some de_int)) (de_tup (dan_cons (de_ixA hu1 (de_frz (dl_lst (dan_cons de_non (dan_cons de_int (dan_cons de_int dan_nil))))) (de_call (ok__law_pick T) (hr.mono (by decide)) (by rfl) T.p__law_pick.g T.p__law_pick.F.kp T.p__law_pick.b (dan_cons (de_slot 0) (dan_cons de_int dan_nil)))) dan_nil))) (dan_cons (de_slice (de_slot 2) do_none (do_some de_int)) (dan_cons (de_callTy (cr_strW hu65) rz_strW (by rfl) T.n_str (by decide +kernel) (dan_cons (de_slot 2) dan_nil).da) (dan_cons (de_disp1N hu65 (de_slot 2) de_bl) dan_nil))))))))
 (ss_one (ds_ret (de_ixA hu1 (de_slot 7) (de_call (ok__law_pick T) (hr.mono (by decide)) (by rfl) T.p__law_pick.g T.p__law_pick.F.kp T.p__law_pick.b (dan_cons (de_slot 0) (dan_cons de_int dan_nil))))))))))))
theorem ok__law_nested {base : Heap} (T : Txt P w K mg) : FnD P w K mg base 1 T.p__law_nested.f T.p__law_nested.fd ["_law_thing", "_law_deep"] F__law_nested := by
  refine (fn_ok T.p__law_nested.F sc__law_nested fun cdv A outer s H E hr => ?_)
  have nd := sc__law_nested.nd
  have hu1 := hu_of hr
  have hu := hr.units
  have hu65 := hu65 hr
  have hp : PassesOwn _ _ _ (cxOf (L2.CX P w) P w K mg base N__law_nested "_law_nested" (defScope s__law_nested) T.p__law_nested.f cdv A outer s H E).xe := passes_of rfl
  exact (ss_cons (ds_for hp rfl (di_range1 (by rfl) T.n_range (dan_cons (de_slot 1) dan_nil).da) (dtg_name nd) (ss_one (ds_set nd (de_tup (dan_cons (de_slot 0) (dan_cons de_int dan_nil))))))
 (ss_one (ds_ret (de_slot 0))))
theorem ok_law {base : Heap} (T : Txt P w K mg) : FnD P w K mg base 3 T.p_law.f T.p_law.fd ["_law_script"] F_law := by
  refine (fn_ok T.p_law.F sc_law fun cdv A outer s H E hr => ?_)
  have nd := sc_law.nd
  have hu1 := hu_of hr
  have hu := hr.units
  have hu65 := hu65 hr
  have hp : PassesOwn _ _ _ (cxOf (L2.CX P w) P w K mg base N_law "law" (defScope s_law) T.p_law.f cdv A outer s H E).xe := passes_of rfl
  exact (ss_cons (ds_for hp rfl (di_range1 (by rfl) T.n_range (dan_cons (de_callB (call_max2 rfl) rz_max2 (by rfl) T.n_max (by decide +kernel) (dan_cons de_int (dan_cons (de_callB (call_min2 rfl) rz_min2 (by rfl) T.n_min (by decide +kernel) (dan_cons (de_callB call_lenA rz_len (by rfl) T.n_len PySem.boot_len (dan_cons (de_slot 0) dan_nil).da) (dan_cons de_int dan_nil)).da) dan_nil)).da) dan_nil).da) (dtg_name nd) (ss_cons (ds_set nd (de_call (ok__law_left T) (hr.mono (by decide)) (by rfl) T.p__law_left.g T.p__law_left.F.kp T.p__law_left.b (dan_cons (de_slot 0) (dan_cons (de_slot 1) dan_nil))))
 (ss_cons (ds_set nd (de_op op_addA rz_add de_int (de_call (ok__law_pick T) (hr.mono (by decide)) (by rfl) T.p__law_pick.g T.p__law_pick.F.kp T.p__law_pick.b (dan_cons (de_slot 2) (dan_cons de_int dan_nil)))))
 (ss_cons (ds_set nd (de_frz (dl_lst (dan_cons de_non (dan_cons de_bl (dan_cons de_int (dan_cons de_str (dan_cons de_str (dan_cons de_str (dan_cons (de_tup dan_nil) (dan_cons (de_frz (dl_lst dan_nil)) (dan_cons de_dict0S (dan_cons (de_tup (dan_cons de_str dan_nil)) (dan_cons (de_frz (dl_lst (dan_cons de_str dan_nil))) (dan_cons (de_tup (dan_cons (de_tup (dan_cons de_str dan_nil)) dan_nil)) (dan_cons (de_tup (dan_cons de_non (dan_cons de_int dan_nil))) (dan_cons (de_tup (dan_cons de_int (dan_cons de_str dan_nil))) dan_nil)))))))))))))))))
 (ss_cons (ds_set nd (de_op op_addA rz_add (de_slot 4) (de_frz (dl_comp (own := [("_law_deep", 9)]) rfl nd (di_seq (de_tup (dan_cons de_int (dan_cons de_int dan_nil)))) (blkOk_by (N := N_law) (sc := defScope s_law) (by decide +kernel)) (fun _ _ _ _ _ => (dtg_name nd)) (fun _ _ _ _ _ => dts_nil) (fun _ _ _ _ _ => (de_call (ok__law_nested T) (hr.mono (by decide)) (by rfl) T.p__law_nested.g T.p__law_nested.F.kp T.p__law_nested.b (dan_cons (de_tup (dan_cons de_str (dan_cons de_int dan_nil))) (dan_cons (de_slot 9) dan_nil))))))))
 (ss_cons (ds_for hp rfl (di_range1 (by rfl) T.n_range (dan_cons de_int dan_nil).da) (dtg_name nd) (ss_cons (ds_set nd (de_call (ok__law_deed T) (hr.mono (by decide)) (by rfl) T.p__law_deed.g T.p__law_deed.F.kp T.p__law_deed.b (dan_cons (de_slot 2) (dan_cons (de_slot 3) dan_nil))))
 (ss_one (ds_set nd (de_op op_addA rz_add (de_slot 4) (de_frz (dl_lst (dan_cons (de_slot 6) (dan_cons (de_call (ok__law_bent T) (hr.mono (by decide)) (by rfl) T.p__law_bent.g T.p__law_bent.F.kp T.p__law_bent.b (dan_cons (de_slot 2) (dan_cons (de_slot 3) (dan_cons (de_slot 6) dan_nil)))) (dan_cons (de_call (ok__law_bent T) (hr.mono (by decide)) (by rfl) T.p__law_bent.g T.p__law_bent.F.kp T.p__law_bent.b (dan_cons (de_slot 2) (dan_cons (de_slot 3) (dan_cons (de_call (ok__law_deed T) (hr.mono (by decide)) (by rfl) T.p__law_deed.g T.p__law_deed.F.kp T.p__law_deed.b (dan_cons (de_slot 2) (dan_cons de_int dan_nil))) dan_nil)))) dan_nil))))))))))
 (ss_one (ds_for hp rfl (di_seq (de_slot 4)) (dtg_name nd) (ss_cons (ds_set nd (de_call (ok_is_deed T) (hr.mono (by decide)) (by rfl) T.p_is_deed.g T.p_is_deed.F.kp T.p_is_deed.b (dan_cons (de_slot 3) (dan_cons (de_slot 7) dan_nil))))
 (ss_one (ds_if (dt_w (dw_or (dt_not (dt_val (de_callB call_isiA rz_isi (by rfl) T.n_isinstance (by decide +kernel) (dan_cons (de_slot 8) (dan_cons (de_tyN (T := "bool") (by rfl) T.n_bool (by decide +kernel)) dan_nil)).da))) (dw_or1 (dt_cmp (op_neD hu) rz_ne (de_slot 8) (de_call (ok__law_is_deed T) (hr.mono (by decide)) (by rfl) T.p__law_is_deed.g T.p__law_is_deed.F.kp T.p__law_is_deed.b (dan_cons (de_slot 3) (dan_cons (de_slot 7) dan_nil))) (nomark _))))) (ss_one (ds_ret de_bl)) ss_nil)))))))))))
 (ss_one (ds_ret de_bl)))
end
end LK
end
section
set_option maxHeartbeats 4000000
set_option synthInstance.maxSize 100000
set_option synthInstance.maxHeartbeats 400000
namespace LK
open MR PySem PySem.Spec PyProof.Rows L2
set_option exponentiation.threshold 1000 in
theorem far_eq (h : Hh) : F__law_far [] h = .ok (.int (10 ^ 600)) h := by
  unfold F__law_far b__law_far L__law_far_0
  simp (decide := true) [rangeD, List.range, List.range.loop, mulE]
def v__law_cell_at (ns : List Int) (k : Int) : Int := if k < ns.length then (ns[k.toNat]?).getD 0 else 0
theorem t__law_cell_at (ns : List Int) (k : Int) (k0 : 0 ≤ k) (h : Hh) : F__law_cell_at [.scr ns, .int k] h = .ok (.int (v__law_cell_at ns k)) h := by
  unfold F__law_cell_at b__law_cell_at v__law_cell_at
  by_cases hk : k < ns.length
  · have e : (ns.map D.int)[k.toNat]? = some (.int (ns[k.toNat]'(by omega))) := by simp
    have e2 : (Option.map D.int ns[k.toNat]?) = some (.int (ns[k.toNat]'(by omega))) := by simpa using e
    have e3 : ns[k.toNat]? = some (ns[k.toNat]'(by omega)) := by simp
    simp [hk, k0, e2, e3]
  · simp [hk, k0]
def Lk (l : List Int) : Prop := ∃ a b c : Int, l = [a, b, c] ∧ 0 ≤ a ∧ 0 ≤ b ∧ b < 2147483648 ∧ 0 ≤ c
def v__law_left (ns : List Int) (k : Int) : List Int :=
  [(if v__law_cell_at ns (k % (if (ns.length : Int) > 1 then (ns.length : Int) else 1)) < 10 ^ 18 then 0 else v__law_cell_at ns (k % (if (ns.length : Int) > 1 then (ns.length : Int) else 1))) % (10 ^ 600), ((v__law_cell_at ns (k % (if (ns.length : Int) > 1 then (ns.length : Int) else 1)) % 2147483629 + 7919 * k * k + 11) * 48271 % 2147483647 * 39373 + 7 * k + 1) % 2147483629, 0]
def d__law_left (ns : List Int) (k : Int) : Prop := 0 ≤ k ∧ k < 1000000
theorem lk_left (ns : List Int) (k : Int) : Lk (v__law_left ns k) := ⟨_, _, _, rfl, Int.emod_nonneg _ (by decide), Int.emod_nonneg _ (by decide), Int.lt_trans (Int.emod_lt_of_pos _ (by decide)) (by decide), by decide⟩
set_option exponentiation.threshold 1000 in
theorem t__law_left (ns : List Int) (k : Int) (h : Hh) (ok : d__law_left ns k) : F__law_left [.scr ns, .int k] h = .ok (.ref h.length) (h ++ [oL D.int (v__law_left ns k)]) := by
  obtain ⟨k0, k1⟩ := ok
  have m0 : (0 : Int) < (if (ns.length : Int) > 1 then (ns.length : Int) else 1) := by split <;> omega
  have hv := fun h => t__law_cell_at ns (k % (if (ns.length : Int) > 1 then (ns.length : Int) else 1)) (Int.emod_nonneg _ (by omega)) h
  have m0' : (0 : Int) < (if 1 < (ns.length : Int) then (ns.length : Int) else 1) := m0
  unfold F__law_left b__law_left v__law_left oL
  generalize v__law_cell_at ns (k % (if (ns.length : Int) > 1 then (ns.length : Int) else 1)) = v at hv ⊢
  have p0 := Int.emod_nonneg v (show (2147483629 : Int) ≠ 0 by decide)
  have p1 := Int.emod_lt_of_pos v (show (0 : Int) < 2147483629 by decide)
  have far0 : (0 : Int) < 10 ^ 600 := by decide
  have s1 : -18446744073709551616 < k ∧ k < 18446744073709551616 := by omega
  generalize hs : (v % 2147483629 + 7919 * k * k + 11) * 48271 % 2147483647 = s
  generalize hq : (s * 39373 + 7 * k + 1) % 2147483629 = q
  generalize hF : (10 : Int) ^ 600 = far at far0 ⊢
  have fe : ∀ h, F__law_far [] h = .ok (.int far) h := fun h => by rw [far_eq, hF]
  clear hF
  simp [hv, m0', mulE, s1, hs, hq]
  by_cases hc : v < 1000000000000000000
  · simp [hc, fe, far0]
  · simp [hc, fe, far0]
def v__law_pick (l : List Int) (m : Int) : Int × List Int := match l with
  | [a, b, c] => if 0 < a then (a % m, [a / m, b, c]) else
    (((b * 48271 + 12345 + 7 * (c + 1)) % 2147483647) * ((b * 48271 + 12345 + 7 * (c + 1)) % 2147483647) % 1999999973 / 64 % m, [a, (b * 48271 + 12345 + 7 * (c + 1)) % 2147483647, c + 1])
  | l => (0, l)
def d__law_pick (l : List Int) (m : Int) : Prop := Lk l ∧ 0 < m ∧ m < 1073741824
theorem t__law_pick (l : List Int) (m : Int) (h : Hh) (p : Nat) (hp : h[p]? = some (oL D.int l)) (ok : d__law_pick l m) : F__law_pick (.ref p :: [.int m]) h = .ok (.int (v__law_pick l m).1) (h.set p (oL D.int (v__law_pick l m).2)) := by
  obtain ⟨⟨a, b, c, rfl, a0, b0, b1, c0⟩, m0, m1⟩ := ok
  have hl : p < h.length := (List.getElem?_eq_some_iff.mp hp).1
  unfold F__law_pick b__law_pick v__law_pick
  have e : h[p]? = some (.lst [.int a, .int b, .int c]) := hp
  by_cases ha : 0 < a
  · simp [e, ha, m0, m1, oL]
  · have q0 := Int.emod_nonneg (b * 48271 + 12345 + 7 * (c + 1)) (show (2147483647 : Int) ≠ 0 by decide)
    have q1 := Int.emod_lt_of_pos (b * 48271 + 12345 + 7 * (c + 1)) (show (0 : Int) < 2147483647 by decide)
    generalize hq : (b * 48271 + 12345 + 7 * (c + 1)) % 2147483647 = q at q0 q1
    have s1 : -18446744073709551616 < q ∧ q < 18446744073709551616 := by omega
    have g : ∀ o, (h.set p o)[p]? = some o := fun o => by simp [hl]
    clear hl
    simp [e, ha, m0, m1, mulE, hq, s1, g, oL]
theorem pk {l : List Int} {m : Int} (hl : Lk l) (m0 : 0 < m) : 0 ≤ (v__law_pick l m).1 ∧ (v__law_pick l m).1 < m ∧ Lk (v__law_pick l m).2 := by
  obtain ⟨a, b, c, rfl, a0, b0, b1, c0⟩ := hl
  unfold v__law_pick
  by_cases ha : 0 < a
  · simp only [ha, if_true]
    exact ⟨Int.emod_nonneg _ (by omega), Int.emod_lt_of_pos _ m0, a / m, b, c, rfl, Int.ediv_nonneg a0 (by omega), b0, b1, c0⟩
  · simp only [ha, if_false]
    exact ⟨Int.emod_nonneg _ (by omega), Int.emod_lt_of_pos _ m0, a, _, c + 1, rfl, a0, Int.emod_nonneg _ (by decide), Int.lt_trans (Int.emod_lt_of_pos _ (by decide)) (by decide), by omega⟩
-- HAND _law_cell_at
-- HAND _law_far
-- HAND _law_left
-- HAND _law_pick
noncomputable def c__law_deed (left_here_ : (List Int)) (n_ : Int) : Ctl Empty Empty (Deed × List Int) Empty := (letC ((v__law_pick left_here_ n_).1, (v__law_pick left_here_ n_).2) (fun r1 : Int × (List Int) => (letC ((v__law_pick r1.2 (12 : Int)).1, (v__law_pick r1.2 (12 : Int)).2) (fun r3 : Int × (List Int) => (if (decide (r3.1 < (6 : Int))) = true then (.rt ((Deed.ask (atZ [Wd.read, Wd.write] (r3.1 % (2 : Int))) r1.1 (atZ [(none : (Option Int)), (none : (Option Int)), (none : (Option Int)), (some (0 : Int)), (some (1 : Int)), (some (9 : Int))] (v__law_pick r3.2 (6 : Int)).1)), (v__law_pick r3.2 (6 : Int)).2)) else (if (decide (r3.1 = (11 : Int))) = true then (.rt (Deed.tick, r3.2)) else (.rt ((Deed.mov (atZ [Wd.up, Wd.down, Wd.leave, Wd.leave, Wd.stop] (r3.1 - (6 : Int))) r1.1), r3.2))))))))
noncomputable def v__law_deed (left_here_ : (List Int)) (n_ : Int) : (Deed × List Int) := (c__law_deed left_here_ n_).get
def d__law_deed (left_here_ : (List Int)) (n_ : Int) : Prop := (d__law_pick left_here_ n_ ∧ letC ((v__law_pick left_here_ n_).1, (v__law_pick left_here_ n_).2) (fun r1 : Int × (List Int) => (d__law_pick r1.2 (12 : Int) ∧ letC ((v__law_pick r1.2 (12 : Int)).1, (v__law_pick r1.2 (12 : Int)).2) (fun r3 : Int × (List Int) => (((decide (r3.1 < (6 : Int))) = true → (inR [Wd.read, Wd.write] (r3.1 % (2 : Int)) ∧ d__law_pick r3.2 (6 : Int) ∧ inR [(none : (Option Int)), (none : (Option Int)), (none : (Option Int)), (some (0 : Int)), (some (1 : Int)), (some (9 : Int))] (v__law_pick r3.2 (6 : Int)).1)) ∧ ((decide (r3.1 < (6 : Int))) = false → (((decide (r3.1 = (11 : Int))) = false → (inR [Wd.up, Wd.down, Wd.leave, Wd.leave, Wd.stop] (r3.1 - (6 : Int)))))))))))
theorem t__law_deed (left_here_ : (List Int)) (n_ : Int) (h : Hh) (p : Nat) (hp : h[p]? = some (oL D.int left_here_)) (ok : d__law_deed left_here_ n_) : F__law_deed (.ref p :: [D.int n_]) h = .ok (eDd (v__law_deed left_here_ n_).1) (h.set p (oL D.int (v__law_deed left_here_ n_).2)) :=
  fn_bor (c := c__law_deed left_here_ n_) (hN := Nat.le_of_ble_eq_true rfl) hp (qs_letX (r := ((v__law_pick left_here_ n_).1, (v__law_pick left_here_ n_).2)) (ed := fun r : Int × (List Int) => D.int r.1) (Ev := (fun r : Int × (List Int) => [some (Sl.bor p (oL D.int r.2)), some (Sl.v (D.int n_)), none, none])) (ok := (fun r1 : Int × (List Int) => (d__law_pick r1.2 (12 : Int) ∧ letC ((v__law_pick r1.2 (12 : Int)).1, (v__law_pick r1.2 (12 : Int)).2) (fun r3 : Int × (List Int) => (((decide (r3.1 < (6 : Int))) = true → (inR [Wd.read, Wd.write] (r3.1 % (2 : Int)) ∧ d__law_pick r3.2 (6 : Int) ∧ inR [(none : (Option Int)), (none : (Option Int)), (none : (Option Int)), (some (0 : Int)), (some (1 : Int)), (some (9 : Int))] (v__law_pick r3.2 (6 : Int)).1)) ∧ ((decide (r3.1 < (6 : Int))) = false → (((decide (r3.1 = (11 : Int))) = false → (inR [Wd.up, Wd.down, Wd.leave, Wd.leave, Wd.stop] (r3.1 - (6 : Int))))))))))) (q_callB2 (.inr ⟨_, rfl⟩) (qa_cons (q_slot 1 rfl) qa_nil) (.inr ⟨_, rfl⟩) (fun h p hp => t__law_pick left_here_ n_ h p hp ok.1)) ok.2 (fun r1 kr1 => (qs_letX (r := ((v__law_pick r1.2 (12 : Int)).1, (v__law_pick r1.2 (12 : Int)).2)) (ed := fun r : Int × (List Int) => D.int r.1) (Ev := (fun r : Int × (List Int) => [some (Sl.bor p (oL D.int r.2)), some (Sl.v (D.int n_)), some (Sl.v (D.int r1.1)), none])) (ok := (fun r3 : Int × (List Int) => (((decide (r3.1 < (6 : Int))) = true → (inR [Wd.read, Wd.write] (r3.1 % (2 : Int)) ∧ d__law_pick r3.2 (6 : Int) ∧ inR [(none : (Option Int)), (none : (Option Int)), (none : (Option Int)), (some (0 : Int)), (some (1 : Int)), (some (9 : Int))] (v__law_pick r3.2 (6 : Int)).1)) ∧ ((decide (r3.1 < (6 : Int))) = false → (((decide (r3.1 = (11 : Int))) = false → (inR [Wd.up, Wd.down, Wd.leave, Wd.leave, Wd.stop] (r3.1 - (6 : Int))))))))) (q_callB2 (.inr ⟨_, rfl⟩) (qa_cons (q_c (d := .int 12)) qa_nil) (.inr ⟨_, rfl⟩) (fun h p hp => t__law_pick r1.2 (12 : Int) h p hp kr1.1)) kr1.2 (fun r3 kr3 => (qs_ifr (qt_e (q_op2 (q_slot 3 rfl) (q_c (d := .int 6)) (fun _ => rfl))) nv_ret (fun kb5 => (qs_retB (i := 0) (q_dask (q_op2 (ql_frz (ql_cons (q_c (d := eW Wd.read)) (ql_cons (q_c (d := eW Wd.write)) ql_nil))) (q_op2 (q_slot 3 rfl) (q_c (d := .int 2)) (o_mod _ _ (by decide))) (o_ixL eW _ _ (kr3.1 kb5).1)) (q_slot 2 rfl) (q_op2 (ql_frz (ql_cons (q_none (e := D.int)) (ql_cons (q_none (e := D.int)) (ql_cons (q_none (e := D.int)) (ql_cons (q_some (q_c (d := .int 0))) (ql_cons (q_some (q_c (d := .int 1))) (ql_cons (q_some (q_c (d := .int 9))) ql_nil))))))) (q_callB2 (.inr ⟨_, rfl⟩) (qa_cons (q_c (d := .int 6)) qa_nil) (.inr ⟨_, rfl⟩) (fun h p hp => t__law_pick r3.2 (6 : Int) h p hp (kr3.1 kb5).2.1)) (o_ixL (eO D.int) _ _ (kr3.1 kb5).2.2))) rfl)) (fun kb6 => (qs_ifr (qt_e (q_op2 (q_slot 3 rfl) (q_c (d := .int 11)) (o_eq D.int _ _))) nv_ret (fun kb7 => (qs_retB (i := 0) (q_dtick (q_c (d := eW Wd.tick))) rfl)) (fun kb8 => (qs_retB (i := 0) (q_dmov (q_op2 (ql_frz (ql_cons (q_c (d := eW Wd.up)) (ql_cons (q_c (d := eW Wd.down)) (ql_cons (q_c (d := eW Wd.leave)) (ql_cons (q_c (d := eW Wd.leave)) (ql_cons (q_c (d := eW Wd.stop)) ql_nil)))))) (q_op2 (q_slot 3 rfl) (q_c (d := .int 6)) (fun _ => rfl)) (o_ixL eW _ _ ((kr3.2 kb6) kb8))) (q_slot 2 rfl)) rfl)))))))))

theorem dpk {l : List Int} {m : Int} (hl : Lk l) (m0 : 0 < m) (m1 : m < 1073741824) : d__law_pick l m := ⟨hl, m0, m1⟩
structure ROk (r : TRule) : Prop where
  w : r.1 = .rows ∨ r.1 = .readers ∨ r.1 = .writers ∨ r.1 = .turns ∨ r.1 = .passes
  m : 0 ≤ r.2.1 ∧ r.2.1 ≤ 5
  k : 0 ≤ r.2.2.1 ∧ r.2.2.1 ≤ 9
  kp : r.1 = .passes ∨ r.2.2.1 = 0
  u : r.2.2.2 = 0 ∨ r.2.2.2 = 1

theorem law_deed_of {l : List Int} (hl : Lk l) {n : Int} (h0 : 1 ≤ n) (h1 : n ≤ 1000) : d__law_deed l n ∧ Lk (v__law_deed l n).2 ∧ DdOk n.toNat (v__law_deed l n).1 := by
  obtain ⟨a1, b1, l1⟩ := pk hl (m := n) (by omega)
  obtain ⟨a2, b2, l2⟩ := pk l1 (m := 12) (by decide)
  obtain ⟨a3, b3, l3⟩ := pk l2 (m := 6) (by decide)
  unfold d__law_deed v__law_deed c__law_deed
  dsimp only [letC]
  generalize (v__law_pick (v__law_pick l n).2 12).1 = w at a2 b2 ⊢
  generalize (v__law_pick l n).1 = g at a1 b1 ⊢
  by_cases h6 : w < 6
  · have m0 : 0 ≤ w % 2 := by omega
    have m1 : w % 2 < 2 := by omega
    have hw := atZ_mem (l := [Wd.read, Wd.write]) m0 m1
    have hk := atZ_mem (l := [none, none, none, some (0 : Int), some 1, some 9]) a3 b3
    simp only [h6, decide_true, if_true, Ctl.get_rt]
    refine ⟨⟨dpk hl (by omega) (by omega), dpk l1 (by decide) (by decide), fun _ => ⟨inR_of m0 m1, dpk l2 (by decide) (by decide), inR_of a3 b3⟩, (fun z => by cases z)⟩, l3, ⟨fun _ => ⟨a1, by show g < _; omega⟩, by simpa using hw, ?_⟩⟩
    generalize atZ [none, none, none, some (0 : Int), some 1, some 9] _ = k at hk ⊢
    simp only [List.mem_cons, List.not_mem_nil, or_false] at hk
    rcases hk with rfl | rfl | rfl | rfl | rfl | rfl
    · exact .inl rfl
    · exact .inl rfl
    · exact .inl rfl
    · exact .inr ⟨0, rfl, by decide, by decide⟩
    · exact .inr ⟨1, rfl, by decide, by decide⟩
    · exact .inr ⟨9, rfl, by decide, by decide⟩
  · by_cases h11 : w = 11
    · subst h11
      refine ⟨⟨dpk hl (by omega) (by omega), dpk l1 (by decide) (by decide), (fun z => by cases z), (fun _ z => by cases z)⟩, ?_, ?_⟩
      · exact l2
      · exact ⟨(fun z => by cases z), trivial⟩
    · have m0 : 0 ≤ w - 6 := by omega
      have m1 : w - 6 < 5 := by omega
      have hw := atZ_mem (l := [Wd.up, Wd.down, Wd.leave, Wd.leave, Wd.stop]) m0 m1
      simp only [h6, h11, decide_false, Bool.false_eq_true, if_false, Ctl.get_rt]
      refine ⟨⟨dpk hl (by omega) (by omega), dpk l1 (by decide) (by decide), (fun z => z.elim), fun _ _ => inR_of m0 m1⟩, l2, ⟨fun _ => ⟨a1, by show g < _; omega⟩, ?_⟩⟩
      show _ = Wd.up ∨ _ = Wd.down ∨ _ = Wd.leave ∨ _ = Wd.stop
      generalize atZ [Wd.up, Wd.down, Wd.leave, Wd.leave, Wd.stop] _ = k at hw ⊢
      simp only [List.mem_cons, List.not_mem_nil, or_false] at hw
      rcases hw with rfl | rfl | rfl | rfl | rfl <;> simp

def btw (a b : Int) (d : D) : Bool := match d with
  | .int i => decide (a ≤ i) && decide (i ≤ b)
  | _ => false
theorem eq_str2 {x y : Str} (hx : PyData.strOk x = true) (hy : PyData.strOk y = true) (h : Hh) : eqO (.str x) (.str y) h = some (.bl (decide (x = y))) := by
  unfold eqO
  rw [py_str hx, py_str hy]
  show some (D.bl (x == y)) = _
  rw [deq]
theorem between_at {n : Nat} {d : D} (f : fit n d = true) (a b : Int) (h : Hh) : F_is_between [d, .int a, .int b] h = .ok (.bl (btw a b d)) h := by
  unfold F_is_between b_is_between
  first | refine frz_bl ?_ | skip
  cases n with
  | zero => cases f
  | succ n =>
    cases d with
    | non => simp [kit_all, btw]
    | bl b => simp [kit_bool, btw]
    | int i => by_cases h1 : a ≤ i <;> by_cases h2 : i ≤ b <;> simp [kit_int, btw, h1, h2]
    | str x => simp [kit_str, btw]
    | tup ds => simp [kit_tuple, btw]
    | lst ds => simp [kit_list, btw]
    | ref i => cases f
    | glb v => cases f
    | scr ns => cases f
    | wtp ds => cases f
    | dct u w => cases f

section
variable (c : D) (h : Hh)
@[simp] theorem isiW_non : isiWO [.non, c] h = isiO [.non, c] h := rfl
@[simp] theorem isiW_bl (b : Bool) : isiWO [.bl b, c] h = isiO [.bl b, c] h := rfl
@[simp] theorem isiW_int (i : Int) : isiWO [.int i, c] h = isiO [.int i, c] h := rfl
@[simp] theorem isiW_str (x : Str) : isiWO [.str x, c] h = isiO [.str x, c] h := rfl
@[simp] theorem isiW_tup (xs : List D) : isiWO [.tup xs, c] h = isiO [.tup xs, c] h := rfl
@[simp] theorem isiW_lst (xs : List D) : isiWO [.lst xs, c] h = isiO [.lst xs, c] h := rfl
@[simp] theorem isiW_dct (ks vs : List D) : isiWO [.dct ks vs, c] h = isiO [.dct ks vs, c] h := rfl
@[simp] theorem isiW_wild : isiWO [.glb (.flt 0), .glb (.ty "tuple")] h = some (.bl false) := rfl
end

def lfO (d : D) : Bool := match d with
  | .non => true
  | d => btw 0 9 d
def restO (r : List D) : Bool := match r with
  | [l] => lfO l
  | _ => false
def okDd (n : Int) (d : D) : Bool := match d with
  | .tup (.str w :: r) => if w = ("tick" : Str) then r.isEmpty else (match r with
    | [] => false
    | g :: r' => btw 0 (n - 1) g && (if w = ("read" : Str) ∨ w = ("write" : Str) then restO r' else (decide (w = ("up" : Str) ∨ w = ("down" : Str) ∨ w = ("leave" : Str) ∨ w = ("stop" : Str)) && r'.isEmpty)))
  | _ => false
theorem deed_at {k : Nat} {d : D} (f : fit (k + 1) d = true) (n : Int) (h : Hh) : F_is_deed [.int n, d] h = .ok (.bl (okDd n d)) h := by
  unfold F_is_deed b_is_deed
  first | refine frz_bl ?_ | skip
  cases d with
  | non => simp [kit_all, okDd]
  | bl b => simp [kit_bool, okDd]
  | int i => simp [kit_int, okDd]
  | str x => simp [kit_str, okDd]
  | lst ds => simp [kit_list, okDd]
  | ref i => cases f
  | glb v => cases f
  | scr ns => cases f
  | wtp ds => cases f
  | dct u w => cases f
  | tup ds =>
    have f := fit_tup.mp f
    match ds, f with
    | [], f => simp [kit_tuple, okDd]
    | x :: r, f =>
      have f0 := f x (by simp)
      have l0 : ¬ ((r.length : Int) + 1 = 0) := by omega
      cases k with
      | zero => cases f0
      | succ k =>
        cases x with
        | non => simp [kit_tuple, kit_all, okDd, l0]
        | bl b => simp [kit_tuple, kit_bool, okDd, l0]
        | int i => simp [kit_tuple, kit_int, okDd, l0]
        | lst ds => simp [kit_tuple, kit_list, okDd, l0]
        | tup ds => simp [kit_tuple, okDd, l0]
        | ref i => cases f0
        | glb v => cases f0
        | scr ns => cases f0
        | wtp ds => cases f0
        | dct u w => cases f0
        | str w =>
          have hw : PyData.strOk w = true := f0
          have i1 := fun h => in_strs (x := w) (ws := ["read", "write"]) hw (by decide +kernel) false h
          have i2 := fun h => in_strs (x := w) (ws := ["up", "down", "leave", "stop"]) hw (by decide +kernel) false h
          have e1 := fun h => eq_str2 hw (y := "tick") (by decide +kernel) h
          simp only [List.map] at i1 i2
          by_cases ht : w = ("tick" : Str)
          · subst ht
            cases r with
            | nil => simp [kit_tuple, kit_str, okDd, e1]
            | cons y r =>
              have l1 : ¬ ((r.length : Int) + 1 + 1 = 0) := by omega
              have l2 : ¬ ((r.length : Int) + 1 + 1 = 1) := by omega
              simp [kit_tuple, kit_str, okDd, e1, l1, l2]
          · match r, f with
            | [], f => simp [kit_tuple, kit_str, okDd, e1, ht]
            | g :: r', f =>
              have f1 := f g (by simp)
              have b0 := fun h => between_at f1 0 (n - 1) h
              by_cases ha : w = ("read" : Str) ∨ w = ("write" : Str)
              · have ha' : w ∈ (["read", "write"] : List Str) := by simpa using ha
                match r', f with
                | [], f => cases hb : btw 0 (n - 1) g <;> simp [kit_tuple, kit_str, okDd, restO, e1, ht, b0, i1, ha, hb]
                | [l], f =>
                  have f2 := f l (by simp)
                  have b1 := fun h => between_at f2 0 9 h
                  cases hb : btw 0 (n - 1) g <;> cases l <;> first | (cases f2; done) | simp [kit_tuple, kit_str, okDd, restO, lfO, e1, ht, b0, b1, i1, ha, hb]
                | y1 :: y2 :: r'', f =>
                  have l1 : ¬ ((r''.length : Int) + 1 + 1 + 1 + 1 = 0) := by omega
                  have l2 : ¬ ((r''.length : Int) + 1 + 1 + 1 + 1 < 2) := by omega
                  have l3 : ¬ ((r''.length : Int) + 1 + 1 + 1 + 1 = 3) := by omega
                  cases hb : btw 0 (n - 1) g <;> simp [kit_tuple, kit_str, okDd, restO, e1, ht, b0, i1, ha, hb, l1, l2, l3]
              · have l1 : ¬ ((r'.length : Int) + 1 + 1 = 0) := by omega
                have l2 : ¬ ((r'.length : Int) + 1 + 1 < 2) := by omega
                have l3 : decide ((r'.length : Int) + 1 + 1 = 2) = r'.isEmpty := by
                  cases r' with
                  | nil => rfl
                  | cons => rw [decide_eq_false (by simp only [List.length_cons]; omega)]; rfl
                by_cases hm : w = ("up" : Str) ∨ w = ("down" : Str) ∨ w = ("leave" : Str) ∨ w = ("stop" : Str)
                · cases hb : btw 0 (n - 1) g <;> simp [kit_tuple, kit_str, okDd, e1, ht, b0, i1, i2, ha, hb, hm, l1, l2, l3]
                · cases hb : btw 0 (n - 1) g <;> simp [kit_tuple, kit_str, okDd, e1, ht, b0, i1, i2, ha, hb, hm, l1, l2, l3]

theorem getG_cons {κ α : Type} [DecidableEq κ] (p : κ × α) (l : List (κ × α)) (j : κ) : getG (p :: l) j = if p.1 = j then some p.2 else getG l j := by
  unfold getG
  rw [List.find?_cons]
  by_cases h : p.1 = j
  · rw [decide_eq_true h, if_pos h]; rfl
  · rw [decide_eq_false h, if_neg h]
theorem consK {m : ME} {as : MA} {env : DEnv} {h h1 h2 : Hh} {d : D} {ds : List D} (a : m env h = .ok d h1) (b : as env h1 = .ok ds h2) : aCons m as env h = .ok (d :: ds) h2 := by
  unfold aCons
  rw [a, bind_ok, b]; rfl
theorem nilK (env : DEnv) (h : Hh) : aNil env h = .ok [] h := rfl
theorem tupK {as : MA} {env : DEnv} {h h1 : Hh} {ds : List D} (a : as env h = .ok ds h1) : eTup as env h = .ok (.tup ds) h1 := by
  unfold eTup
  rw [a]; rfl
theorem frzK {as : MA} {env : DEnv} {h h1 : Hh} {ds : List D} (a : as env h = .ok ds h1) : eFrz as env h = .ok (.lst ds) h1 := by
  unfold eFrz
  rw [a]; rfl
theorem op2K {f : Op2} {a b : ME} {env : DEnv} {h h1 h2 : Hh} {x y z : D} (e1 : a env h = .ok x h1) (e2 : b env h1 = .ok y h2) (e3 : f x y h2 = some z) : eOp2 f a b env h = .ok z h2 := by
  unfold eOp2
  rw [e1, bind_ok, e2, bind_ok, e3]; rfl
theorem opNK {f : OpN} {as : MA} {env : DEnv} {h h1 : Hh} {ds : List D} {z : D} (e : as env h = .ok ds h1) (e2 : f ds h1 = some z) : eOpN f as env h = .ok z h1 := by
  unfold eOpN
  rw [e, bind_ok, e2]; rfl
theorem callK {F : MF} {as : MA} {env : DEnv} {h h1 : Hh} {ds : List D} (e : as env h = .ok ds h1) : eCall F as env h = F ds h1 := by
  unfold eCall
  rw [e, bind_ok]
theorem asgK {m : ME} {i : Nat} {env : DEnv} {h h1 : Hh} {d : D} (e : m env h = .ok d h1) : sAsg m (MR.gName i) env h = .nx (env.set i (some d)) h1 := by
  unfold sAsg
  rw [e]; rfl
theorem retK {m : ME} {env : DEnv} {h h1 : Hh} {d : D} (e : m env h = .ok d h1) : sRet m env h = .rt d h1 := by
  unfold sRet
  rw [e]; rfl
theorem sqK {a b : MS} {env env1 : DEnv} {h h1 : Hh} (e : a env h = .nx env1 h1) : sSeq a b env h = b env1 h1 := by
  unfold sSeq
  rw [e]; rfl
theorem sqRtK {a b : MS} {env : DEnv} {h h1 : Hh} {d : D} (e : a env h = .rt d h1) : sSeq a b env h = .rt d h1 := by
  unfold sSeq
  rw [e]; rfl
theorem ifK {t : MT} {a b : MS} {env : DEnv} {h h1 : Hh} (e : t env h = .ok true h1) : sIf t a b env h = a env h1 := by
  unfold sIf
  rw [e]; rfl
theorem ifNoK {t : MT} {a b : MS} {env : DEnv} {h h1 : Hh} (e : t env h = .ok false h1) : sIf t a b env h = b env h1 := by
  unfold sIf
  rw [e]; rfl
theorem teK {m : ME} {env : DEnv} {h h1 : Hh} {k : Bool} (e : m env h = .ok (.bl k) h1) : tE m env h = .ok k h1 := by
  unfold tE
  rw [e]; rfl
theorem orK {a b : MT} {env : DEnv} {h h1 : Hh} (e : a env h = .ok false h1) : MR.tOr a b env h = b env h1 := by
  unfold MR.tOr
  rw [e]; rfl
theorem andK {a b : MT} {env : DEnv} {h h1 : Hh} (e : a env h = .ok true h1) : MR.tAnd a b env h = b env h1 := by
  unfold MR.tAnd
  rw [e]; rfl
theorem andNoK {a b : MT} {env : DEnv} {h h1 : Hh} (e : a env h = .ok false h1) : MR.tAnd a b env h = .ok false h1 := by
  unfold MR.tAnd
  rw [e]; rfl
theorem notK {a : MT} {env : DEnv} {h h1 : Hh} {k : Bool} (e : a env h = .ok k h1) : MR.tNot a env h = .ok (!k) h1 := by
  unfold MR.tNot
  rw [e]; rfl
theorem eOrK {a b : ME} {env : DEnv} {h h1 : Hh} (e : a env h = .ok (.bl false) h1) : eOr a b env h = b env h1 := by
  unfold eOr
  rw [e]; rfl
theorem eOrYK {a b : ME} {env : DEnv} {h h1 : Hh} (e : a env h = .ok (.bl true) h1) : eOr a b env h = .ok (.bl true) h1 := by
  unfold eOr
  rw [e]; rfl

theorem whole_at {n : Nat} {d : D} (f : fit n d = true) (a b : Int) (h : Hh) : F__law_whole [d, .int a, .int b] h = .ok (.bl (btw a b d)) h := by
  unfold F__law_whole b__law_whole
  refine frz_bl ?_
  cases n with
  | zero => cases f
  | succ n =>
    cases d with
    | non => simp [kit_all, btw]
    | bl b => simp [kit_bool, btw]
    | int i => by_cases h1 : a ≤ i <;> by_cases h2 : i ≤ b <;> simp [kit_int, btw, h1, h2]
    | str x => simp [kit_str, btw]
    | tup ds => simp [kit_tuple, btw]
    | lst ds => simp [kit_list, btw]
    | ref i => cases f
    | glb v => cases f
    | scr ns => cases f
    | wtp ds => cases f
    | dct u w => cases f
theorem wild_deed (n : Int) (h : Hh) : F_is_deed [.int n, .glb (.flt 0)] h = .ok (.bl false) h ∧ F__law_is_deed [.int n, .glb (.flt 0)] h = .ok (.bl false) h := by
  constructor
  · unfold F_is_deed b_is_deed
    refine frz_bl ?_
    simp
  · unfold F__law_is_deed b__law_is_deed
    refine frz_bl ?_
    simp
theorem dct_deed (n : Int) (ks vs : List D) (h : Hh) : F_is_deed [.int n, .dct ks vs] h = .ok (.bl false) h ∧ F__law_is_deed [.int n, .dct ks vs] h = .ok (.bl false) h := by
  have kd : kitB "dict" "tuple" = some false := by decide +kernel
  have ty : tyName (.dct ks vs) h = some "dict" := rfl
  constructor
  · unfold F_is_deed b_is_deed
    refine frz_bl ?_
    simp [kd, ty]
  · unfold F__law_is_deed b__law_is_deed
    refine frz_bl ?_
    simp [kd, ty]

def szs : List (Key × D) := [(.inr "read", .int 3), (.inr "write", .int 3), (.inr "up", .int 2), (.inr "down", .int 2), (.inr "leave", .int 2), (.inr "stop", .int 2), (.inr "tick", .int 1)]
def szN (w : Str) : Int := if ("read" : Str) = w then 3 else if ("write" : Str) = w then 3 else if ("up" : Str) = w then 2 else if ("down" : Str) = w then 2 else if ("leave" : Str) = w then 2 else if ("stop" : Str) = w then 2 else if ("tick" : Str) = w then 1 else 0
theorem szs_get (w : Str) : (getG szs (.inr w)).getD (.int 0) = .int (szN w) := by
  unfold szs szN
  simp only [getG_cons, Sum.inr.injEq]
  repeat' split
  all_goals rfl
theorem okDd_sz (n : Int) (w : Str) (r : List D) : okDd n (.tup (.str w :: r)) = (decide (szN w = (r.length : Int) + 1) && (match r with | [] => true | g :: r' => btw 0 (n - 1) g && (match r' with | [] => true | l :: _ => lfO l))) := by
  by_cases h1 : ("read" : Str) = w
  · subst h1
    have e : szN "read" = 3 := rfl
    have rt : ¬ ("read" : Str) = "tick" := by decide
    rcases r with _ | ⟨g, _ | ⟨l, _ | ⟨x, r⟩⟩⟩
    · simp [okDd, e, rt]
    · simp [okDd, e, rt, restO]
    · simp [okDd, e, rt, restO]
    · have : ¬ (3 : Int) = (r.length : Int) + 1 + 1 + 1 + 1 := by omega
      simp [okDd, e, rt, restO, this]
  by_cases h2 : ("write" : Str) = w
  · subst h2
    have e : szN "write" = 3 := rfl
    have rt : ¬ ("write" : Str) = "tick" := by decide
    rcases r with _ | ⟨g, _ | ⟨l, _ | ⟨x, r⟩⟩⟩
    · simp [okDd, e, rt]
    · simp [okDd, e, rt, restO]
    · simp [okDd, e, rt, restO]
    · have : ¬ (3 : Int) = (r.length : Int) + 1 + 1 + 1 + 1 := by omega
      simp [okDd, e, rt, restO, this]
  by_cases h7 : ("tick" : Str) = w
  · subst h7
    have e : szN "tick" = 1 := rfl
    rcases r with _ | ⟨g, r⟩
    · simp [okDd, e]
    · have : ¬ (1 : Int) = (r.length : Int) + 1 + 1 := by omega
      simp [okDd, e, this]
  have mv : ∀ w : Str, szN w = 2 → ("read" : Str) ≠ w → ("write" : Str) ≠ w → ("tick" : Str) ≠ w → (w = ("up" : Str) ∨ w = ("down" : Str) ∨ w = ("leave" : Str) ∨ w = ("stop" : Str)) → okDd n (.tup (.str w :: r)) = (decide (szN w = (r.length : Int) + 1) && (match r with | [] => true | g :: r' => btw 0 (n - 1) g && (match r' with | [] => true | l :: _ => lfO l))) := by
    intro w e a b c m
    rw [e]
    have a' : ¬ w = "read" := fun z => a z.symm
    have b' : ¬ w = "write" := fun z => b z.symm
    have c' : ¬ w = "tick" := fun z => c z.symm
    rcases r with _ | ⟨g, _ | ⟨l, r⟩⟩
    · simp [okDd, c']
    · simp [okDd, a', b', c', m]
    · have : ¬ (2 : Int) = (r.length : Int) + 1 + 1 + 1 := by omega
      simp [okDd, a', b', c', this]
  by_cases h3 : ("up" : Str) = w
  · exact mv w (by rw [← h3]; rfl) h1 h2 h7 (.inl h3.symm)
  by_cases h4 : ("down" : Str) = w
  · exact mv w (by rw [← h4]; rfl) h1 h2 h7 (.inr (.inl h4.symm))
  by_cases h5 : ("leave" : Str) = w
  · exact mv w (by rw [← h5]; rfl) h1 h2 h7 (.inr (.inr (.inl h5.symm)))
  by_cases h6 : ("stop" : Str) = w
  · exact mv w (by rw [← h6]; rfl) h1 h2 h7 (.inr (.inr (.inr h6.symm)))
  have e : szN w = 0 := by
    unfold szN
    rw [if_neg h1, if_neg h2, if_neg h3, if_neg h4, if_neg h5, if_neg h6, if_neg h7]
  have l : ¬ (0 : Int) = (r.length : Int) + 1 := by omega
  rw [e, decide_eq_false l]
  have a' : ¬ w = "read" := fun z => h1 z.symm
  have b' : ¬ w = "write" := fun z => h2 z.symm
  have c' : ¬ w = "tick" := fun z => h7 z.symm
  have d3 : ¬ w = "up" := fun z => h3 z.symm
  have d4 : ¬ w = "down" := fun z => h4 z.symm
  have d5 : ¬ w = "leave" := fun z => h5 z.symm
  have d6 : ¬ w = "stop" := fun z => h6 z.symm
  rcases r with _ | ⟨g, r⟩
  · simp [okDd, c']
  · simp [okDd, a', b', c', d3, d4, d5, d6]
theorem law_str {k : Nat} {w : Str} {r : List D} (hr : ∀ d ∈ r, fit (k + 1) d = true) (n : Int) (h : Hh) : F__law_is_deed [.int n, .tup (.str w :: r)] h = .ok (.bl (okDd n (.tup (.str w :: r)))) h := by
  have l0 : ¬ ((r.length : Int) + 1 = 0) := by omega
  unfold F__law_is_deed
  refine frzF_of (g := [.dK szs]) (d := .bl _) ?_ (frz_bel _ _ _ rfl)
  rw [run_eq (ds := [.int n, .tup (.str w :: r)]) (n := 2) rfl]
  show outR (b__law_is_deed [some (.int n), some (.tup (.str w :: r)), none] h) = _
  unfold b__law_is_deed
  rw [sqK (env1 := [some (.int n), some (.tup (.str w :: r)), none]) (h1 := h) (by simp [kit_tuple, kit_str, l0])]
  rw [sqK (env1 := [some (.int n), some (.tup (.str w :: r)), some (.ref h.length)]) (h1 := h ++ [.dK szs]) (by rfl)]
  have hc : (h ++ [.dK szs])[h.length]? = some (.dK szs) := by
    rw [List.getElem?_append_right (Nat.le_refl _), Nat.sub_self]; rfl
  generalize hH : h ++ [.dK szs] = H at hc ⊢
  generalize henv : [some (D.int n), some (D.tup (.str w :: r)), some (D.ref h.length)] = env
  have q0 : eSlot 0 env H = .ok (.int n) H := by rw [← henv]; rfl
  have q1 : eSlot 1 env H = .ok (.tup (.str w :: r)) H := by rw [← henv]; rfl
  have q2 : eSlot 2 env H = .ok (.ref h.length) H := by rw [← henv]; rfl
  have ix0 : eOp2 ixA (eSlot 1) (eC (.int 0)) env H = .ok (.str w) H := op2K q1 rfl (by simp)
  have ln : eOpN lenO (aCons (eSlot 1) aNil) env H = .ok (.int ((r.length : Int) + 1)) H := opNK (consK q1 (nilK _ _)) (by show some (D.int ((r.length + 1 : Nat) : Int)) = _; rfl)
  have dg : eDGet2 (eSlot 2) (eOp2 ixA (eSlot 1) (eC (.int 0))) (eC (.int 0)) env H = .ok (.int (szN w)) H := by
    unfold eDGet2
    rw [q2, bind_ok]
    have f1 : dictOf (.ref h.length) H = some szs := by unfold dictOf; dsimp only; rw [hc]
    rw [if_pos (by rw [f1]; rfl), ix0, bind_ok]
    show lift ((getO (.ref h.length) (.str w) H).map fun o : Option D => o.getD (.int 0)) H = _
    unfold getO
    rw [f1]
    show lift (some ((getG szs (.inr w)).getD (.int 0))) H = _
    rw [szs_get]; rfl
  have t1 : tE (eOp2 neO (eDGet2 (eSlot 2) (eOp2 ixA (eSlot 1) (eC (.int 0))) (eC (.int 0))) (eOpN lenO (aCons (eSlot 1) aNil))) env H = .ok (!decide (szN w = (r.length : Int) + 1)) H := teK (op2K dg ln (o_ne D.int (szN w) ((r.length : Int) + 1) (by decide) H))
  by_cases hs : szN w = (r.length : Int) + 1
  · rw [decide_eq_true hs] at t1
    rw [sqK (env1 := env) (h1 := H) (by rw [ifNoK t1]; rfl), okDd_sz, decide_eq_true hs]
    have gt : tE (eOp2 gtO (eOpN lenO (aCons (eSlot 1) aNil)) (eC (.int 1))) env H = .ok (decide ((r.length : Int) + 1 > 1)) H := teK (op2K ln rfl rfl)
    have lt : eOp2 ltO (eOpN lenO (aCons (eSlot 1) aNil)) (eC (.int 3)) env H = .ok (.bl (decide ((r.length : Int) + 1 < 3))) H := op2K ln rfl rfl
    have n1 : eOp2 subO (eSlot 0) (eC (.int 1)) env H = .ok (.int (n - 1)) H := op2K q0 rfl rfl
    match r, hr with
    | [], hr =>
      rw [sqK (env1 := env) (h1 := H) (by rw [ifNoK (andNoK gt)]; rfl), retK (eOrYK lt)]; rfl
    | g :: r', hr =>
      have ix1 : eOp2 ixA (eSlot 1) (eC (.int 1)) env H = .ok g H := op2K q1 rfl (by simp)
      have wh : tE (eCall F__law_whole (aCons (eOp2 ixA (eSlot 1) (eC (.int 1))) (aCons (eC (.int 0)) (aCons (eOp2 subO (eSlot 0) (eC (.int 1))) aNil)))) env H = .ok (btw 0 (n - 1) g) H := teK ((callK (consK ix1 (consK (m := eC (.int 0)) (d := .int 0) (h1 := H) rfl (consK n1 (nilK _ _))))).trans (whole_at (hr g (by simp)) 0 (n - 1) H))
      have gt' : tE (eOp2 gtO (eOpN lenO (aCons (eSlot 1) aNil)) (eC (.int 1))) env H = .ok true H := by
        rw [gt, decide_eq_true (by rw [List.length_cons]; omega)]
      cases hb : btw 0 (n - 1) g with
      | false =>
        rw [hb] at wh
        rw [sqRtK (d := .bl false) (h1 := H) (by rw [ifK ((andK gt').trans (notK wh))]; rfl)]
        show Res.ok (D.bl false) H = Res.ok (D.bl (true && (btw 0 (n - 1) g && _))) H
        rw [hb]; rfl
      | true =>
        rw [hb] at wh
        rw [sqK (env1 := env) (h1 := H) (by rw [ifNoK ((andK gt').trans (notK wh))]; rfl)]
        match r', hr with
        | [], hr =>
          rw [retK (eOrYK lt)]
          show Res.ok (D.bl true) H = Res.ok (D.bl (true && (btw 0 (n - 1) g && true))) H
          rw [hb]; rfl
        | l :: r2, hr =>
          have ix2 : eOp2 ixA (eSlot 1) (eC (.int 2)) env H = .ok l H := op2K q1 rfl (by simp)
          have lt' : eOp2 ltO (eOpN lenO (aCons (eSlot 1) aNil)) (eC (.int 3)) env H = .ok (.bl false) H := by
            rw [lt, decide_eq_false (by rw [List.length_cons, List.length_cons]; omega)]
          have wl : eCall F__law_whole (aCons (eOp2 ixA (eSlot 1) (eC (.int 2))) (aCons (eC (.int 0)) (aCons (eC (.int 9)) aNil))) env H = .ok (.bl (btw 0 9 l)) H := (callK (consK ix2 (consK (m := eC (.int 0)) (d := .int 0) (h1 := H) rfl (consK (m := eC (.int 9)) (d := .int 9) (h1 := H) rfl (nilK _ _))))).trans (whole_at (hr l (by simp)) 0 9 H)
          have fin : eOr (eOp2 (isNO false) (eOp2 ixA (eSlot 1) (eC (.int 2))) (eC .non)) (eCall F__law_whole (aCons (eOp2 ixA (eSlot 1) (eC (.int 2))) (aCons (eC (.int 0)) (aCons (eC (.int 9)) aNil)))) env H = .ok (.bl (lfO l)) H := by
            have fl := hr l (by simp)
            cases l with
            | non => exact eOrYK (op2K ix2 rfl rfl)
            | ref i => cases fl
            | glb v => cases fl
            | scr ns => cases fl
            | wtp ds => cases fl
            | dct u w => cases fl
            | _ => exact (eOrK (op2K ix2 rfl rfl)).trans wl
          rw [retK ((eOrK lt').trans fin)]
          show Res.ok (D.bl (lfO l)) H = Res.ok (D.bl (true && (btw 0 (n - 1) g && lfO l))) H
          rw [hb]; rfl
  · rw [decide_eq_false hs] at t1
    rw [sqRtK (d := .bl false) (h1 := H) (by rw [ifK t1]; rfl), okDd_sz, decide_eq_false hs]; rfl
theorem law_deed_at {k : Nat} {d : D} (f : fit (k + 1) d = true) (n : Int) (h : Hh) : F__law_is_deed [.int n, d] h = .ok (.bl (okDd n d)) h := by
  cases d with
  | non => unfold F__law_is_deed b__law_is_deed; refine frz_bl ?_; simp [kit_all, okDd]
  | bl b => unfold F__law_is_deed b__law_is_deed; refine frz_bl ?_; simp [kit_bool, okDd]
  | int i => unfold F__law_is_deed b__law_is_deed; refine frz_bl ?_; simp [kit_int, okDd]
  | str x => unfold F__law_is_deed b__law_is_deed; refine frz_bl ?_; simp [kit_str, okDd]
  | lst ds => unfold F__law_is_deed b__law_is_deed; refine frz_bl ?_; simp [kit_list, okDd]
  | ref i => cases f
  | glb v => cases f
  | scr ns => cases f
  | wtp ds => cases f
  | dct u w => cases f
  | tup ds =>
    have f := fit_tup.mp f
    match ds, f with
    | [], f => unfold F__law_is_deed b__law_is_deed; refine frz_bl ?_; simp [kit_tuple, okDd]
    | x :: r, f =>
      have f0 := f x (by simp)
      have l0 : ¬ ((r.length : Int) + 1 = 0) := by omega
      cases k with
      | zero => cases f0
      | succ k =>
        cases x with
        | non => unfold F__law_is_deed b__law_is_deed; refine frz_bl ?_; simp [kit_tuple, kit_all, okDd, l0]
        | bl b => unfold F__law_is_deed b__law_is_deed; refine frz_bl ?_; simp [kit_tuple, kit_bool, okDd, l0]
        | int i => unfold F__law_is_deed b__law_is_deed; refine frz_bl ?_; simp [kit_tuple, kit_int, okDd, l0]
        | lst ds => unfold F__law_is_deed b__law_is_deed; refine frz_bl ?_; simp [kit_tuple, kit_list, okDd, l0]
        | tup ds => unfold F__law_is_deed b__law_is_deed; refine frz_bl ?_; simp [kit_tuple, okDd, l0]
        | ref i => cases f0
        | glb v => cases f0
        | scr ns => cases f0
        | wtp ds => cases f0
        | dct u w => cases f0
        | str w => exact law_str (k := k) (fun d m => f d (List.mem_cons_of_mem _ m)) n h

def OkThing (d : D) : Prop := (∃ k, fit (k + 1) d = true) ∨ d = .glb (.flt 0) ∨ ∃ ks vs, d = .dct ks vs
theorem both_looks {d : D} (o : OkThing d) (n : Int) (h : Hh) : ∃ b, F_is_deed [.int n, d] h = .ok (.bl b) h ∧ F__law_is_deed [.int n, d] h = .ok (.bl b) h := by
  rcases o with ⟨k, f⟩ | rfl | ⟨ks, vs, rfl⟩
  · exact ⟨_, deed_at f n h, law_deed_at f n h⟩
  · exact ⟨_, wild_deed n h⟩
  · exact ⟨_, dct_deed n ks vs h⟩
theorem ix_mem {ds : List D} {i : Int} (h0 : 0 ≤ i) (h1 : i < ds.length) (h : Hh) : ∃ d ∈ ds, ixA (.lst ds) (.int i) h = some d := by
  have : Inhabited D := ⟨.non⟩
  have e := o_ixL (id : D → D) ds i (inR_of h0 h1) h
  rw [show eL (id : D → D) ds = .lst ds from by unfold eL; rw [List.map_id]] at e
  exact ⟨_, atZ_mem h0 h1, e⟩
def DeedX (xs : List D) : Prop := (∀ x ∈ xs, fit 1 x = true) ∧ (∃ ts, flatTs xs = some ts ∧ (tupleText ts).length ≤ sizeLine) ∧ (keyN (.tup xs)).isSome = true ∧ ((∃ a, xs = [a]) ∨ (∃ a b, xs = [a, b]) ∨ ∃ a b c, xs = [a, b, c])
def oddW : List D := [.str "read", .str "write", .str "up", .str "down", .str "leave", .str "stop", .str "tick", .str "reads", .str "", .str "Read", .str "ticks"]
def oddT (n : Int) : List D := [.int n, .int (-1), .int (n - 1), .bl true, .bl false, .non, .str "0", .tup [.int 0], .lst [.int 0], .int (10 ^ 30), .int 9, .int 10]
theorem oddW_fit : ∀ d ∈ oddW, fit 1 d = true := by
  intro d m
  unfold oddW at m
  simp only [List.mem_cons, List.not_mem_nil, or_false] at m
  rcases m with rfl | rfl | rfl | rfl | rfl | rfl | rfl | rfl | rfl | rfl | rfl <;> decide +kernel
theorem oddT_fit (n : Int) : ∀ d ∈ oddT n, fit 3 d = true := by
  intro d m
  unfold oddT at m
  simp only [List.mem_cons, List.not_mem_nil, or_false] at m
  rcases m with rfl | rfl | rfl | rfl | rfl | rfl | rfl | rfl | rfl | rfl | rfl | rfl
  all_goals first | rfl | decide +kernel
def lastT : List D := [.non, .int 0, .int 9]
def bentA (xs : List D) (w t : D) : List D := [.lst xs, .tup (xs ++ [.non]), .tup (xs ++ [t]), .tup xs.dropLast, .tup (xs.take 1), .tup [.tup xs], .tup (w :: xs.drop 1)]
def bentB (xs : List D) (t : D) : List D := [.tup (xs.take 1 ++ [t] ++ xs.drop 2), .tup (xs.take 2 ++ [t]), .tup (xs.drop 1), .tup (t :: xs.drop 1)]
def bentL (xs : List D) (w t r : D) (p : Nat) : List D := bentA xs w t ++ bentB xs t ++ [.tup (xs.take 2 ++ [r]), .tup (xs.take 2), .glb (.flt 0), .ref p]
theorem bentL_ok {xs : List D} {w t r : D} {p : Nat} (hx : ∀ x ∈ xs, fit 1 x = true) (hw : fit 1 w = true) (ht : fit 3 t = true) (hr : fit 1 r = true) : ∀ d ∈ bentL xs w t r p, OkThing d ∨ d = .ref p := by
  have x3 : ∀ x ∈ xs, fit 3 x = true := fun x m => fit_le (by decide) (hx x m)
  have w3 : fit 3 w = true := fit_le (by decide) hw
  have r3 : fit 3 r = true := fit_le (by decide) hr
  have tk : ∀ k, ∀ x ∈ xs.take k, fit 3 x = true := fun k x m => x3 x (List.mem_of_mem_take m)
  have dr : ∀ k, ∀ x ∈ xs.drop k, fit 3 x = true := fun k x m => x3 x (List.mem_of_mem_drop m)
  have tup : ∀ ds : List D, (∀ d ∈ ds, fit 3 d = true) → OkThing (.tup ds) := fun ds h => .inl ⟨3, fit_tup.mpr h⟩
  intro d m
  unfold bentL bentA bentB at m
  simp only [List.cons_append, List.nil_append, List.mem_cons, List.not_mem_nil, or_false] at m
  rcases m with rfl | rfl | rfl | rfl | rfl | rfl | rfl | rfl | rfl | rfl | rfl | rfl | rfl | rfl | rfl
  · exact .inl (.inl ⟨3, fit_lst.mpr x3⟩)
  · refine .inl (tup _ fun d m => ?_)
    rcases List.mem_append.mp m with z | z
    · exact x3 d z
    · rw [List.mem_singleton.mp z]; rfl
  · refine .inl (tup _ fun d m => ?_)
    rcases List.mem_append.mp m with z | z
    · exact x3 d z
    · rw [List.mem_singleton.mp z]; exact ht
  · exact .inl (tup _ fun d m => x3 d ((List.dropLast_sublist xs).subset m))
  · exact .inl (tup _ (tk 1))
  · refine .inl (.inl ⟨4, fit_tup.mpr fun d m => ?_⟩)
    rw [List.mem_singleton.mp m]
    exact fit_tup.mpr x3
  · refine .inl (tup _ fun d m => ?_)
    rcases List.mem_cons.mp m with z | z
    · rw [z]; exact w3
    · exact dr 1 d z
  · refine .inl (tup _ fun d m => ?_)
    rcases List.mem_append.mp m with z | z
    · rcases List.mem_append.mp z with z | z
      · exact tk 1 d z
      · rw [List.mem_singleton.mp z]; exact ht
    · exact dr 2 d z
  · refine .inl (tup _ fun d m => ?_)
    rcases List.mem_append.mp m with z | z
    · exact tk 2 d z
    · rw [List.mem_singleton.mp z]; exact ht
  · exact .inl (tup _ (dr 1))
  · refine .inl (tup _ fun d m => ?_)
    rcases List.mem_cons.mp m with z | z
    · rw [z]; exact ht
    · exact dr 1 d z
  · refine .inl (tup _ fun d m => ?_)
    rcases List.mem_append.mp m with z | z
    · exact tk 2 d z
    · rw [List.mem_singleton.mp z]; exact r3
  · exact .inl (tup _ (tk 2))
  · exact .inl (.inr (.inl rfl))
  · exact .inr rfl
theorem fit_belN (m : Nat) : ∀ {k : Nat} {d : D}, fit k d = true → bel m d = true
  | 0, d, f => by cases f
  | k + 1, d, f => by
    have ih : ∀ ds : List D, (∀ d ∈ ds, fit k d = true) → bels m ds = true := by
      intro ds
      induction ds with
      | nil => exact fun _ => rfl
      | cons d ds ih =>
        intro h
        show (bel m d && bels m ds) = true
        rw [fit_belN m (h d List.mem_cons_self), ih fun e m => h e (List.mem_cons_of_mem _ m)]; rfl
    cases d with
    | non => rfl
    | bl b => rfl
    | int i => rfl
    | str x => rfl
    | tup ds => exact ih ds (fit_tup.mp f)
    | lst ds => exact ih ds (fit_lst.mp f)
    | ref i => cases f
    | glb v => cases f
    | scr ns => cases f
    | wtp ds => cases f
    | dct u w => cases f
theorem fit_bel {k : Nat} {d : D} (f : fit k d = true) : bel 0 d = true := fit_belN 0 f
theorem bent_nodct (xs : List D) (w t r : D) (p : Nat) (ks vs : List D) : D.dct ks vs ∈ bentL xs w t r p → False := by
  intro m
  unfold bentL bentA bentB at m
  simp at m
theorem fin11 (env : DEnv) (ds : List D) {H H' : Hh} {l : Nat} {i : Int} {d : D} (q : eSlot 7 env H = .ok (.lst ds) H) (q0 : eSlot 0 env H = .ok (.ref l) H) (e4 : F__law_pick [.ref l, .int 15] H = .ok (.int i) H') (ed : ixA (.lst ds) (.int i) H' = some d) :
    outR (sRet (eOp2 ixA (eSlot 7) (eCall F__law_pick (aCons (eSlot 0) (aCons (eC (.int 15)) aNil)))) env H) = .ok d H' := by
  have c : eCall F__law_pick (aCons (eSlot 0) (aCons (eC (.int 15)) aNil)) env H = .ok (.int i) H' := (callK (consK q0 (consK (m := eC (.int 15)) (d := .int 15) (h1 := H) rfl (nilK _ _)))).trans e4
  rw [retK (op2K q c ed)]; rfl
theorem bent_run {n : Int} {xs : List D} (hX : DeedX xs) {left : List Int} (hl : Lk left) {h : Hh} {l : Nat} (hp : h[l]? = some (oL D.int left)) : ∃ d left', OkThing d ∧ Lk left' ∧ F__law_bent [.ref l, .int n, .tup xs] h = .ok d (h.set l (oL D.int left')) := by
  obtain ⟨hx, ⟨ts, ets, room⟩, hkey, shape⟩ := hX
  have ll := (List.getElem?_eq_some_iff.mp hp).1
  have pick : ∀ (lf : List Int) (m : Int) (g : Hh), Lk lf → 1 ≤ m → m ≤ 1000 → 0 ≤ (v__law_pick lf m).1 ∧ (v__law_pick lf m).1 < m ∧ Lk (v__law_pick lf m).2 ∧ F__law_pick [.ref l, .int m] (h.set l (oL D.int lf) ++ g) = .ok (.int (v__law_pick lf m).1) (h.set l (oL D.int (v__law_pick lf m).2) ++ g) := fun lf m g k m1 m2 => by
    obtain ⟨p0, p1, k'⟩ := pk k (m := m) (by omega)
    refine ⟨p0, p1, k', ?_⟩
    have hl2 : l < (h.set l (oL D.int lf)).length := by rw [List.length_set]; exact ll
    have := t__law_pick lf m (h.set l (oL D.int lf) ++ g) l (by rw [List.getElem?_append_left hl2]; exact List.getElem?_set_self ll) (dpk k (by omega) (by omega))
    rw [List.set_append_left _ _ hl2, List.set_set] at this
    exact this
  have h0 : h = h.set l (oL D.int left) ++ [] := by
    rw [List.append_nil]
    apply List.ext_getElem?
    intro j
    by_cases e : j = l
    · subst e
      rw [List.getElem?_set_self ll]; exact hp
    · rw [List.getElem?_set_ne (Ne.symm e)]
  obtain ⟨a1, a2, l1, e1⟩ := pick left 11 [] hl (by decide) (by decide)
  obtain ⟨b1, b2, l2, e2⟩ := pick (v__law_pick left 11).2 12 [] l1 (by decide) (by decide)
  rw [← h0] at e1
  rw [List.append_nil] at e1 e2
  rw [List.append_nil] at e2
  generalize v__law_pick left 11 = v1 at a1 a2 l1 b1 b2 l2 e1 e2
  generalize v__law_pick v1.2 12 = v2 at b1 b2 l2 e2
  obtain ⟨c1, c2, l3, e3⟩ := pick v2.2 3 [] l2 (by decide) (by decide)
  rw [List.append_nil, List.append_nil] at e3
  generalize v__law_pick v2.2 3 = v3 at c1 c2 l3 e3
  obtain ⟨g1, g2, l4, e4⟩ := pick v3.2 15 [.dN [(.tup xs, .bl true)]] l3 (by decide) (by decide)
  generalize v__law_pick v3.2 15 = v4 at g1 g2 l4 e4
  obtain ⟨w, wm, ew⟩ := ix_mem (ds := oddW) a1 (by exact a2) (h.set l (oL D.int v1.2))
  obtain ⟨t, tm, et⟩ := ix_mem (ds := oddT n) b1 (by exact b2) (h.set l (oL D.int v2.2))
  obtain ⟨r, rm, er⟩ := ix_mem (ds := lastT) c1 (by exact c2) (h.set l (oL D.int v3.2))
  have hw := oddW_fit w wm
  have ht := oddT_fit n t tm
  have hr : fit 1 r = true := by
    unfold lastT at rm
    simp only [List.mem_cons, List.not_mem_nil, or_false] at rm
    rcases rm with rfl | rfl | rfl <;> rfl
  obtain ⟨d, dm, ed⟩ := ix_mem (ds := bentL xs w t r h.length) g1 (by exact g2) (h.set l (oL D.int v4.2) ++ [.dN [(.tup xs, .bl true)]])
  have hd := bentL_ok (p := h.length) hx hw ht hr d dm
  have strw : ∀ H : Hh, strWO [.tup xs] H = some (.glb (.flt 0)) := fun H => by
    unfold strWO
    dsimp only
    rw [ets]
    exact if_pos room
  have hlen : (h.set l (oL D.int v3.2)).length = h.length := List.length_set
  have run : runF 3 N__law_bent b__law_bent [.ref l, .int n, .tup xs] h = .ok d (h.set l (oL D.int v4.2) ++ [.dN [(.tup xs, .bl true)]]) := by
    rw [run_eq (ds := [.ref l, .int n, .tup xs]) (n := 3) rfl]
    show outR (b__law_bent [some (.ref l), some (.int n), some (.tup xs), none, none, none, none, none] h) = _
    unfold b__law_bent
    rw [sqK (env1 := [some (.ref l), some (.int n), some (.tup xs), some (.lst oddW), none, none, none, none]) (h1 := h) (by rfl)]
    rw [sqK (env1 := [some (.ref l), some (.int n), some (.tup xs), some (.lst oddW), some (.lst (oddT n)), none, none, none]) (h1 := h) (by rfl)]
    rw [sqK (env1 := [some (.ref l), some (.int n), some (.tup xs), some (.lst oddW), some (.lst (oddT n)), some w, some t, none]) (h1 := h.set l (oL D.int v2.2)) (by
      unfold sPar
      rw [consK (op2K (x := .lst oddW) (h1 := h) rfl ((callK (consK (m := eSlot 0) (d := .ref l) (h1 := h) rfl (consK (m := eC (.int 11)) (d := .int 11) (h1 := h) rfl (nilK _ _)))).trans e1) ew)
        (consK (op2K (x := .lst (oddT n)) (h1 := h.set l (oL D.int v1.2)) rfl ((callK (consK (m := eSlot 0) (d := .ref l) (h1 := h.set l (oL D.int v1.2)) rfl (consK (m := eC (.int 12)) (d := .int 12) (h1 := h.set l (oL D.int v1.2)) rfl (nilK _ _)))).trans e2) et) (nilK _ _))]
      rfl)]
    have s7 : ∀ (A : ME) (lst : List D) (env : DEnv), A env (h.set l (oL D.int v3.2) ++ [.dN [(.tup xs, .bl true)]]) = .ok (.lst lst) (h.set l (oL D.int v3.2) ++ [.dN [(.tup xs, .bl true)]]) → True := fun _ _ _ _ => trivial
    generalize hH2 : h.set l (oL D.int v2.2) = H2 at *
    generalize hH3 : h.set l (oL D.int v3.2) = H3 at *
    have x4 : ∀ env : DEnv, eSlot 2 env H3 = .ok (.tup xs) H3 → eDisp1N (eSlot 2) (eC (.bl true)) env H3 = .ok (.ref h.length) (H3 ++ [.dN [(.tup xs, .bl true)]]) := fun env e => by
      unfold eDisp1N
      rw [e, bind_ok]
      show (if (keyN (.tup xs)).isSome = true then _ else _) = _
      rw [if_pos hkey, hlen]
    have x1 : ∀ (env : DEnv) (A : ME) (ys : List D), eSlot 0 env H2 = .ok (.ref l) H2 → A env H2 = .ok (.tup ys) H2 → ys.length ≤ 10 → eOp2 addO A (eTup (aCons (eOp2 ixA (eFrz (aCons (eC .non) (aCons (eC (.int 0)) (aCons (eC (.int 9)) aNil)))) (eCall F__law_pick (aCons (eSlot 0) (aCons (eC (.int 3)) aNil)))) aNil)) env H2 = .ok (.tup (ys ++ [r])) H3 := fun env A ys q0 qa hys =>
      op2K qa (tupK (consK (op2K (x := .lst lastT) (h1 := H2) rfl ((callK (consK q0 (consK (m := eC (.int 3)) (d := .int 3) (h1 := H2) rfl (nilK _ _)))).trans e3) er) (nilK _ _))) (by
        show (if ys.length + 1 ≤ sizeLine then some (D.tup (ys ++ [r])) else none) = _
        rw [if_pos (by have : sizeLine = 16777216 := rfl; omega)])
    rcases shape with ⟨a, rfl⟩ | ⟨a, b, rfl⟩ | ⟨a, b, c, rfl⟩
    · rw [sqK (env1 := [some (.ref l), some (.int n), some (.tup [a]), some (.lst oddW), some (.lst (oddT n)), some w, some t, some (.lst (bentA [a] w t))]) (h1 := H2) (by rfl)]
      rw [sqK (env1 := [some (.ref l), some (.int n), some (.tup [a]), some (.lst oddW), some (.lst (oddT n)), some w, some t, some (.lst (bentA [a] w t ++ bentB [a] t))]) (h1 := H2) (by rfl)]
      rw [sqK (env1 := [some (.ref l), some (.int n), some (.tup [a]), some (.lst oddW), some (.lst (oddT n)), some w, some t, some (.lst (bentL [a] w t r h.length))]) (h1 := H3 ++ [.dN [(.tup [a], .bl true)]]) (by
        exact asgK (op2K (x := .lst (bentA [a] w t ++ bentB [a] t)) (h1 := H2) rfl (frzK (consK (x1 _ _ (List.take 2 [a]) rfl rfl (by simp)) (consK (d := .tup (List.take 2 [a])) (h1 := H3) rfl (consK (opNK (consK (d := .tup [a]) (h1 := H3) rfl (nilK _ _)) (strw _)) (consK (x4 _ rfl) (nilK _ _)))))) rfl))]
      exact fin11 _ (bentL [a] w t r h.length) rfl rfl e4 ed
    · rw [sqK (env1 := [some (.ref l), some (.int n), some (.tup [a, b]), some (.lst oddW), some (.lst (oddT n)), some w, some t, some (.lst (bentA [a, b] w t))]) (h1 := H2) (by rfl)]
      rw [sqK (env1 := [some (.ref l), some (.int n), some (.tup [a, b]), some (.lst oddW), some (.lst (oddT n)), some w, some t, some (.lst (bentA [a, b] w t ++ bentB [a, b] t))]) (h1 := H2) (by rfl)]
      rw [sqK (env1 := [some (.ref l), some (.int n), some (.tup [a, b]), some (.lst oddW), some (.lst (oddT n)), some w, some t, some (.lst (bentL [a, b] w t r h.length))]) (h1 := H3 ++ [.dN [(.tup [a, b], .bl true)]]) (by
        exact asgK (op2K (x := .lst (bentA [a, b] w t ++ bentB [a, b] t)) (h1 := H2) rfl (frzK (consK (x1 _ _ (List.take 2 [a, b]) rfl rfl (by simp)) (consK (d := .tup (List.take 2 [a, b])) (h1 := H3) rfl (consK (opNK (consK (d := .tup [a, b]) (h1 := H3) rfl (nilK _ _)) (strw _)) (consK (x4 _ rfl) (nilK _ _)))))) rfl))]
      exact fin11 _ (bentL [a, b] w t r h.length) rfl rfl e4 ed
    · rw [sqK (env1 := [some (.ref l), some (.int n), some (.tup [a, b, c]), some (.lst oddW), some (.lst (oddT n)), some w, some t, some (.lst (bentA [a, b, c] w t))]) (h1 := H2) (by rfl)]
      rw [sqK (env1 := [some (.ref l), some (.int n), some (.tup [a, b, c]), some (.lst oddW), some (.lst (oddT n)), some w, some t, some (.lst (bentA [a, b, c] w t ++ bentB [a, b, c] t))]) (h1 := H2) (by rfl)]
      rw [sqK (env1 := [some (.ref l), some (.int n), some (.tup [a, b, c]), some (.lst oddW), some (.lst (oddT n)), some w, some t, some (.lst (bentL [a, b, c] w t r h.length))]) (h1 := H3 ++ [.dN [(.tup [a, b, c], .bl true)]]) (by
        exact asgK (op2K (x := .lst (bentA [a, b, c] w t ++ bentB [a, b, c] t)) (h1 := H2) rfl (frzK (consK (x1 _ _ (List.take 2 [a, b, c]) rfl rfl (by simp)) (consK (d := .tup (List.take 2 [a, b, c])) (h1 := H3) rfl (consK (opNK (consK (d := .tup [a, b, c]) (h1 := H3) rfl (nilK _ _)) (strw _)) (consK (x4 _ rfl) (nilK _ _)))))) rfl))]
      exact fin11 _ (bentL [a, b, c] w t r h.length) rfl rfl e4 ed
  have ll4 : l < (h.set l (oL D.int v4.2)).length := by rw [List.length_set]; exact ll
  have res : ∃ d', OkThing d' ∧ frzD h.length (h.set l (oL D.int v4.2) ++ [.dN [(.tup xs, .bl true)]]) d = some d' := by
    rcases hd with o | rfl
    · refine ⟨d, o, frz_bel _ _ _ ?_⟩
      rcases o with ⟨k, f⟩ | rfl | ⟨ks, vs, rfl⟩
      · exact fit_bel f
      · rfl
      · exact (bent_nodct xs w t r h.length ks vs dm).elim
    · refine ⟨.dct [.tup xs] [.bl true], .inr (.inr ⟨_, _, rfl⟩), ?_⟩
      rw [frzD, if_neg (Nat.lt_irrefl _), List.getElem?_append_right (by rw [List.length_set]; omega), List.length_set, Nat.sub_self]
      show (if (bels h.length [.tup xs] && bels h.length [.bl true]) = true then some (D.dct [.tup xs] [.bl true]) else none) = _
      rw [if_pos]
      show ((bel h.length (.tup xs) && true) && (true && true)) = true
      rw [fit_belN h.length (k := 2) (fit_tup.mpr fun x m => fit_le (by decide) (hx x m))]; rfl
  obtain ⟨d', o', fr⟩ := res
  refine ⟨d', v4.2, o', l4, ?_⟩
  unfold F__law_bent
  have := fdF_of run (by rw [List.length_append, List.length_set]; omega) (fun i o hi e => by
    rw [List.getElem?_append_left (by rw [List.length_set]; exact hi)] at e
    by_cases ei : i = l
    · subst ei
      rw [List.getElem?_set_self ll] at e
      cases e
      exact .inr (bel_oL _ _)
    · rw [List.getElem?_set_ne (Ne.symm ei)] at e
      exact .inl e) fr
  rw [this]
  congr 1
  rw [List.take_append_of_le_length (by rw [List.length_set]; omega), List.take_of_length_le (by rw [List.length_set]; omega)]

def txtOk (xs : List D) : Bool := match flatTs xs with
  | some ts => decide ((tupleText ts).length ≤ 1000)
  | none => false
theorem txt_of {xs : List D} (h : txtOk xs = true) : ∃ ts, flatTs xs = some ts ∧ (tupleText ts).length ≤ sizeLine := by
  unfold txtOk at h
  split at h
  · rename_i ts e
    exact ⟨ts, e, Nat.le_trans (of_decide_eq_true h) (by decide)⟩
  · cases h
def rests : List (Option Int) := none :: (List.range 10).map fun i : Nat => some (i : Int)
theorem asks_txt : ([Wd.read, Wd.write].all fun w => (List.range 9).all fun g => rests.all fun r => txtOk [eW w, .int (g : Int), eO D.int r]) = true := by decide +kernel
theorem movs_txt : ([Wd.up, Wd.down, Wd.leave, Wd.stop].all fun w => (List.range 9).all fun g => txtOk [eW w, .int (g : Int)]) = true := by decide +kernel
theorem deed_x {n : Nat} (hn : n ≤ 9) {d : Deed} (hd : DdOk n d) : ∃ xs, eDd d = .tup xs ∧ DeedX xs := by
  have gin : ∀ g : Int, 0 ≤ g → g < n → ∃ k : Nat, k ∈ List.range 9 ∧ g = (k : Int) := fun g a b => ⟨g.toNat, List.mem_range.mpr (by omega), by omega⟩
  have fw : ∀ w : Wd, fit 1 (eW w) = true := fun w => w.ok
  cases d with
  | tick =>
    refine ⟨[eW .tick], rfl, fun x m => ?_, txt_of (by decide +kernel), rfl, .inl ⟨_, rfl⟩⟩
    rw [List.mem_singleton.mp m]; exact fw _
  | mov w g =>
    obtain ⟨a, b⟩ := hd.gs rfl
    obtain ⟨k, kr, rfl⟩ := gin g a b
    refine ⟨[eW w, .int k], rfl, fun x m => ?_, txt_of ?_, rfl, .inr (.inl ⟨_, _, rfl⟩)⟩
    · rcases List.mem_cons.mp m with z | z
      · rw [z]; exact fw _
      · rw [List.mem_singleton.mp z]; rfl
    · have hw : w ∈ [Wd.up, Wd.down, Wd.leave, Wd.stop] := by
        have q := hd.wd
        dsimp only at q
        rcases q with rfl | rfl | rfl | rfl <;> simp
      exact List.all_eq_true.mp (List.all_eq_true.mp movs_txt w hw) k kr
  | ask w g r =>
    obtain ⟨a, b⟩ := hd.gs rfl
    obtain ⟨k, kr, rfl⟩ := gin g a b
    refine ⟨[eW w, .int k, eO D.int r], rfl, fun x m => ?_, txt_of ?_, ?_, .inr (.inr ⟨_, _, _, rfl⟩)⟩
    · simp only [List.mem_cons, List.not_mem_nil, or_false] at m
      rcases m with rfl | rfl | rfl
      · exact fw _
      · rfl
      · cases r <;> rfl
    · have hw : w ∈ [Wd.read, Wd.write] := by
        have q := hd.wd
        dsimp only at q
        rcases q.1 with rfl | rfl <;> simp
      have hr : r ∈ rests := by
        have q := hd.wd
        dsimp only at q
        unfold rests
        rcases q.2 with rfl | ⟨k, rfl, k0, k1⟩
        · exact List.mem_cons_self
        · refine List.mem_cons_of_mem _ (List.mem_map.mpr ⟨k.toNat, List.mem_range.mpr (by omega), ?_⟩)
          show some ((k.toNat : Nat) : Int) = some k
          rw [Int.toNat_of_nonneg k0]
      exact List.all_eq_true.mp (List.all_eq_true.mp (List.all_eq_true.mp asks_txt w hw) k kr) r hr
    · cases r <;> rfl

theorem for_src {M : Int} (h1 : -1000000 ≤ M) (h2 : M ≤ 1000000) {e : ME} {T : Tg} {b : MS} {env : DEnv} {h h1' : Hh} {r : RS} (q : e env h = .ok (.int M) h1') (l : forL none (bodyT T b) ((rngT 0 M).map D.int) env h1' = r) (nr : ∃ e h, r = .nx e h) : sFor (iA rng1 (aCons e aNil)) T b env h = r := by
  have e2 : (aCons e aNil) env h = .ok [.int M] h1' := by simp [q]
  have es : iA rng1 (aCons e aNil) env h = .ok ⟨(rngT 0 M).map D.int, none⟩ h1' := by
    rw [← rng_map]
    unfold iA
    rw [e2, bind_ok]
    show lift (if -1000000 ≤ M ∧ M ≤ 1000000 then some (⟨rangeD 0 M, none⟩ : Src) else none) h1' = _
    rw [if_pos ⟨h1, h2⟩]; rfl
  unfold sFor
  rw [es]
  obtain ⟨e1, h3, rfl⟩ := nr
  exact l
def nestD : Nat → D
  | 0 => .tup [.str "up", .int 0]
  | k + 1 => .tup [nestD k, .int 0]
theorem nest_fit : ∀ k, fit (k + 2) (nestD k) = true
  | 0 => by decide +kernel
  | k + 1 => fit_tup.mpr fun d m => by
    rcases List.mem_cons.mp m with z | z
    · rw [z]; exact nest_fit k
    · rw [List.mem_singleton.mp z]; rfl
theorem nest_loop (x1 : Option D) (h : Hh) : ∀ (xs : List Int) (k : Nat) (x2 : Option D), ∃ y2, forL none (bodyT (.name 2) L__law_nested_0) (xs.map D.int) [some (nestD k), x1, x2] h = .nx [some (nestD (k + xs.length)), x1, y2] h
  | [], k, x2 => ⟨x2, by rw [List.map_nil, ev_for_nil]; rfl⟩
  | x :: xs, k, x2 => by
    obtain ⟨y2, ih⟩ := nest_loop x1 h xs (k + 1) (some (.int x))
    refine ⟨y2, ?_⟩
    rw [List.map_cons, ev_for_cons]
    show loopBack (L__law_nested_0 [some (nestD k), x1, some (.int x)] h) _ = _
    have e : L__law_nested_0 [some (nestD k), x1, some (.int x)] h = .nx [some (nestD (k + 1)), x1, some (.int x)] h := rfl
    rw [e, ev_lb_nx, ih, List.length_cons, show k + 1 + xs.length = k + (xs.length + 1) by omega]
theorem nested_run (m : Nat) (hm : m ≤ 1000) (h : Hh) : F__law_nested [nestD 0, .int m] h = .ok (nestD m) h := by
  unfold F__law_nested
  rw [run_eq (ds := [nestD 0, .int m]) (n := 2) rfl]
  show outR (b__law_nested [some (nestD 0), some (.int m), none] h) = _
  obtain ⟨y2, e⟩ := nest_loop (some (.int m)) h (rngT 0 (m : Int)) 0 none
  have s1 := for_src (T := .name 2) (b := L__law_nested_0) (e := eSlot 1) (env := [some (nestD 0), some (.int m), none]) (h := h) (by omega) (by omega) rfl e ⟨_, _, rfl⟩
  unfold b__law_nested
  rw [sqK s1, rngT_len, show (0 : Nat) + ((m : Int) - 0).toNat = m by omega]
  rfl
def baseT : List D := [.non, .bl true, .int 0, .str "", .str "tick", .str "read", .tup [], .lst [], .dct [] [], .tup [.str "tick"], .lst [.str "tick"], .tup [.tup [.str "tick"]], .tup [.non, .int 0], .tup [.int 0, .str "up"]]
theorem base_ok : ∀ d ∈ baseT, OkThing d := by
  intro d m
  unfold baseT at m
  simp only [List.mem_cons, List.not_mem_nil, or_false] at m
  rcases m with rfl | rfl | rfl | rfl | rfl | rfl | rfl | rfl | rfl | rfl | rfl | rfl | rfl | rfl
  all_goals first | exact .inl ⟨3, by decide +kernel⟩ | exact .inr (.inr ⟨[], [], rfl⟩)
theorem cat_lst {xs ys : List D} (h : xs.length + ys.length ≤ 1000) (H : Hh) : addO (.lst xs) (.lst ys) H = some (.lst (xs ++ ys)) := by
  show (if xs.length + ys.length ≤ sizeLine then some (D.lst (xs ++ ys)) else none) = _
  rw [if_pos (by have : sizeLine = 16777216 := rfl; omega)]
theorem more_run {n : Int} (n1 : 1 ≤ n) (n5 : n ≤ 5) {left : List Int} (hl : Lk left) {h : Hh} {l : Nat} (hp : h[l]? = some (oL D.int left)) {ds : List D} (ok : ∀ d ∈ ds, OkThing d) (len : ds.length ≤ 900) (x0 x1 x5 x6 x7 x8 x9 : Option D) :
    ∃ ds' left' y6, (∀ d ∈ ds', OkThing d) ∧ ds'.length = ds.length + 3 ∧ Lk left' ∧ L_law_0 [x0, x1, some (.ref l), some (.int n), some (.lst ds), x5, x6, x7, x8, x9] h = .nx [x0, x1, some (.ref l), some (.int n), some (.lst ds'), x5, y6, x7, x8, x9] (h.set l (oL D.int left')) := by
  have ll := (List.getElem?_eq_some_iff.mp hp).1
  have at_ : ∀ lf : List Int, (h.set l (oL D.int lf))[l]? = some (oL D.int lf) := fun lf => List.getElem?_set_self ll
  obtain ⟨a1, l1, D1⟩ := law_deed_of hl (n := n) n1 (by omega)
  have e1 := t__law_deed left n h l hp a1
  generalize v__law_deed left n = v1 at l1 D1 e1
  obtain ⟨xs, ex, hX⟩ := deed_x (n := n.toNat) (by omega) D1
  rw [ex] at e1
  obtain ⟨d2, l2, o2, k2, e2⟩ := bent_run (n := n) hX l1 (at_ v1.2)
  rw [List.set_set] at e2
  obtain ⟨a3, l3, D3⟩ := law_deed_of k2 (n := 9) (by decide) (by decide)
  have e3 := t__law_deed l2 9 _ l (at_ l2) a3
  rw [List.set_set] at e3
  generalize v__law_deed l2 9 = v3 at l3 D3 e3
  obtain ⟨ys, ey, hY⟩ := deed_x (n := (9 : Int).toNat) (by decide) D3
  rw [ey] at e3
  obtain ⟨d4, l4, o4, k4, e4⟩ := bent_run (n := n) hY l3 (at_ v3.2)
  rw [List.set_set] at e4
  have ox : OkThing (.tup xs) := .inl ⟨1, fit_tup.mpr hX.1⟩
  refine ⟨ds ++ [.tup xs, d2, d4], l4, some (.tup xs), fun d m => ?_, by simp, k4, ?_⟩
  · rcases List.mem_append.mp m with z | z
    · exact ok d z
    · simp only [List.mem_cons, List.not_mem_nil, or_false] at z
      rcases z with rfl | rfl | rfl
      · exact ox
      · exact o2
      · exact o4
  · generalize h.set l (oL D.int v1.2) = h1 at *
    generalize h.set l (oL D.int l2) = h2 at *
    generalize h.set l (oL D.int v3.2) = h3 at *
    generalize h.set l (oL D.int l4) = h4 at *
    unfold L_law_0
    rw [sqK (env1 := [x0, x1, some (.ref l), some (.int n), some (.lst ds), x5, some (.tup xs), x7, x8, x9]) (h1 := h1) (by
      exact asgK ((callK (consK (m := eSlot 2) (d := .ref l) (h1 := h) rfl (consK (m := eSlot 3) (d := .int n) (h1 := h) rfl (nilK _ _)))).trans e1))]
    generalize henv : [x0, x1, some (D.ref l), some (D.int n), some (D.lst ds), x5, some (D.tup xs), x7, x8, x9] = env
    have q2 : ∀ H, eSlot 2 env H = .ok (.ref l) H := fun H => by rw [← henv]; rfl
    have q3 : ∀ H, eSlot 3 env H = .ok (.int n) H := fun H => by rw [← henv]; rfl
    have q4 : ∀ H, eSlot 4 env H = .ok (.lst ds) H := fun H => by rw [← henv]; rfl
    have q6 : ∀ H, eSlot 6 env H = .ok (.tup xs) H := fun H => by rw [← henv]; rfl
    have c2 : eCall F__law_bent (aCons (eSlot 2) (aCons (eSlot 3) (aCons (eSlot 6) aNil))) env h1 = .ok d2 h2 := (callK (consK (q2 _) (consK (q3 _) (consK (q6 _) (nilK _ _))))).trans e2
    have c3 : eCall F__law_deed (aCons (eSlot 2) (aCons (eC (.int 9)) aNil)) env h2 = .ok (.tup ys) h3 := (callK (consK (q2 _) (consK (m := eC (.int 9)) (d := .int 9) (h1 := h2) rfl (nilK _ _)))).trans e3
    have c4 : eCall F__law_bent (aCons (eSlot 2) (aCons (eSlot 3) (aCons (eCall F__law_deed (aCons (eSlot 2) (aCons (eC (.int 9)) aNil))) aNil))) env h2 = .ok d4 h4 := (callK (consK (q2 _) (consK (q3 _) (consK c3 (nilK _ _))))).trans e4
    rw [asgK (op2K (q4 h1) (frzK (consK (q6 _) (consK c2 (consK c4 (nilK _ _))))) (cat_lst (by simp; omega) _)), ← henv]; rfl
theorem mores_run {n : Int} (n1 : 1 ≤ n) (n5 : n ≤ 5) {l : Nat} (x0 x1 x7 x8 x9 : Option D) : ∀ (ks : List Int) (left : List Int) (h : Hh) (ds : List D) (x5 x6 : Option D), Lk left → h[l]? = some (oL D.int left) → (∀ d ∈ ds, OkThing d) → ds.length + 3 * ks.length ≤ 900 →
    ∃ ds' h' y5 y6, (∀ d ∈ ds', OkThing d) ∧ forL none (bodyT (.name 5) L_law_0) (ks.map D.int) [x0, x1, some (.ref l), some (.int n), some (.lst ds), x5, x6, x7, x8, x9] h = .nx [x0, x1, some (.ref l), some (.int n), some (.lst ds'), y5, y6, x7, x8, x9] h'
  | [], left, h, ds, x5, x6, _, _, ok, _ => ⟨ds, h, x5, x6, ok, by rw [List.map_nil, ev_for_nil]⟩
  | k :: ks, left, h, ds, x5, x6, hl, hp, ok, len => by
    rw [List.length_cons] at len
    obtain ⟨ds1, left1, y6, ok1, len1, hl1, e⟩ := more_run n1 n5 hl hp ok (by omega) x0 x1 (some (.int k)) x6 x7 x8 x9
    have ll := (List.getElem?_eq_some_iff.mp hp).1
    obtain ⟨ds2, h2, z5, z6, ok2, ih⟩ := mores_run n1 n5 x0 x1 x7 x8 x9 ks left1 (h.set l (oL D.int left1)) ds1 (some (.int k)) y6 hl1 (List.getElem?_set_self ll) ok1 (by omega)
    refine ⟨ds2, h2, z5, z6, ok2, ?_⟩
    rw [List.map_cons, ev_for_cons]
    show loopBack (L_law_0 [x0, x1, some (.ref l), some (.int n), some (.lst ds), some (.int k), x6, x7, x8, x9] h) _ = _
    rw [e, ev_lb_nx]
    exact ih
theorem looks_run (n : Int) (h : Hh) (x0 x1 x2 x4 x5 x6 x9 : Option D) : ∀ (ds : List D), (∀ d ∈ ds, OkThing d) → ∀ x7 x8, ∃ y7 y8, forL none (bodyT (.name 7) L_law_1) ds [x0, x1, x2, some (.int n), x4, x5, x6, x7, x8, x9] h = .nx [x0, x1, x2, some (.int n), x4, x5, x6, y7, y8, x9] h
  | [], _, x7, x8 => ⟨x7, x8, by rw [ev_for_nil]⟩
  | d :: ds, ok, x7, x8 => by
    obtain ⟨b, e1, e2⟩ := both_looks (ok d List.mem_cons_self) n h
    obtain ⟨y7, y8, ih⟩ := looks_run n h x0 x1 x2 x4 x5 x6 x9 ds (fun e m => ok e (List.mem_cons_of_mem _ m)) (some d) (some (.bl b))
    refine ⟨y7, y8, ?_⟩
    rw [ev_for_cons]
    show loopBack (L_law_1 [x0, x1, x2, some (.int n), x4, x5, x6, some d, x8, x9] h) _ = _
    have body : L_law_1 [x0, x1, x2, some (.int n), x4, x5, x6, some d, x8, x9] h = .nx [x0, x1, x2, some (.int n), x4, x5, x6, some d, some (.bl b), x9] h := by
      unfold L_law_1
      rw [sqK (env1 := [x0, x1, x2, some (.int n), x4, x5, x6, some d, some (.bl b), x9]) (h1 := h) (by
        exact asgK ((callK (consK (m := eSlot 3) (d := .int n) (h1 := h) rfl (consK (m := eSlot 7) (d := d) (h1 := h) rfl (nilK _ _)))).trans e1))]
      have t1 : tE (eOpN isiO (aCons (eSlot 8) (aCons (eC (.glb (.ty "bool"))) aNil))) [x0, x1, x2, some (.int n), x4, x5, x6, some d, some (.bl b), x9] h = .ok true h := teK (opNK (consK (m := eSlot 8) (d := .bl b) (h1 := h) rfl (consK (m := eC (.glb (.ty "bool"))) (d := .glb (.ty "bool")) (h1 := h) rfl (nilK _ _))) (o_isiB b h))
      have t2 : tE (eOp2 neO (eSlot 8) (eCall F__law_is_deed (aCons (eSlot 3) (aCons (eSlot 7) aNil)))) [x0, x1, x2, some (.int n), x4, x5, x6, some d, some (.bl b), x9] h = .ok false h := teK (op2K (x := .bl b) (h1 := h) rfl ((callK (consK (m := eSlot 3) (d := .int n) (h1 := h) rfl (consK (m := eSlot 7) (d := d) (h1 := h) rfl (nilK _ _)))).trans e2) ((o_ne D.bl b b (by decide) h).trans (by rw [decide_eq_true rfl]; rfl)))
      rw [ifNoK ((orK (notK t1)).trans t2)]; rfl
    rw [body, ev_lb_nx]
    exact ih
theorem turn11 (ns : List Int) {k : Int} (k0 : 0 ≤ k) (k1 : k < 1000000) (h : Hh) (o1 o2 o3 o4 o5 o6 o7 o8 o9 : Option D) : ∃ h' env', bodyT (.name 1) L_law_2 (.int k) [some (.scr ns), o1, o2, o3, o4, o5, o6, o7, o8, o9] h = .nx (some (.scr ns) :: env') h' ∧ env'.length = 9 := by
  have hl0 := lk_left ns k
  have e0 := t__law_left ns k h ⟨k0, k1⟩
  generalize v__law_left ns k = l0 at hl0 e0
  have hp0 : (h ++ [oL D.int l0])[h.length]? = some (oL D.int l0) := by
    rw [List.getElem?_append_right (Nat.le_refl _), Nat.sub_self]; rfl
  have hll : h.length < (h ++ [oL D.int l0]).length := (List.getElem?_eq_some_iff.mp hp0).1
  obtain ⟨p0, p1, hl1⟩ := pk hl0 (m := 5) (by decide)
  have e1 := t__law_pick l0 5 _ _ hp0 (dpk hl0 (by decide) (by decide))
  generalize v__law_pick l0 5 = v1 at p0 p1 hl1 e1
  generalize h.length = q at *
  generalize h ++ [oL D.int l0] = h0 at *
  have hp1 : (h0.set q (oL D.int v1.2))[q]? = some (oL D.int v1.2) := List.getElem?_set_self hll
  generalize h0.set q (oL D.int v1.2) = h1 at *
  have okb : ∀ d ∈ baseT ++ [nestD 1, nestD 59], OkThing d := fun d m => by
    rcases List.mem_append.mp m with z | z
    · exact base_ok d z
    · simp only [List.mem_cons, List.not_mem_nil, or_false] at z
      rcases z with rfl | rfl
      · exact .inl ⟨2, nest_fit 1⟩
      · exact .inl ⟨60, nest_fit 59⟩
  obtain ⟨ds, h2, y5, y6, okd, e5⟩ := mores_run (n := 1 + v1.1) (by omega) (by omega) (l := q) (some (.scr ns)) (some (.int k)) o7 o8 o9 (rngT 0 12) v1.2 h1 (baseT ++ [nestD 1, nestD 59]) o5 o6 hl1 hp1 okb (by rw [rngT_len]; decide)
  obtain ⟨y7, y8, e6⟩ := looks_run (1 + v1.1) h2 (some (.scr ns)) (some (.int k)) (some (.ref q)) (some (.lst ds)) y5 y6 o9 ds okd o7 o8
  refine ⟨h2, [some (.int k), some (.ref q), some (.int (1 + v1.1)), some (.lst ds), y5, y6, y7, y8, o9], ?_, rfl⟩
  show L_law_2 [some (.scr ns), some (.int k), o2, o3, o4, o5, o6, o7, o8, o9] h = _
  unfold L_law_2
  rw [sqK (env1 := [some (.scr ns), some (.int k), some (.ref q), o3, o4, o5, o6, o7, o8, o9]) (h1 := h0) (by
    exact asgK ((callK (consK (m := eSlot 0) (d := .scr ns) (h1 := h) rfl (consK (m := eSlot 1) (d := .int k) (h1 := h) rfl (nilK _ _)))).trans e0))]
  rw [sqK (env1 := [some (.scr ns), some (.int k), some (.ref q), some (.int (1 + v1.1)), o4, o5, o6, o7, o8, o9]) (h1 := h1) (by
    exact asgK (op2K (x := .int 1) (h1 := h0) rfl ((callK (consK (m := eSlot 2) (d := .ref q) (h1 := h0) rfl (consK (m := eC (.int 5)) (d := .int 5) (h1 := h0) rfl (nilK _ _)))).trans e1) rfl))]
  rw [sqK (env1 := [some (.scr ns), some (.int k), some (.ref q), some (.int (1 + v1.1)), some (.lst baseT), o5, o6, o7, o8, o9]) (h1 := h1) (by rfl)]
  rw [sqK (env1 := [some (.scr ns), some (.int k), some (.ref q), some (.int (1 + v1.1)), some (.lst (baseT ++ [nestD 1, nestD 59])), o5, o6, o7, o8, o9]) (h1 := h1) (by
    have cl : compL none (.name 9) (fun _ h => .ok true h) (eCall F__law_nested (aCons (eTup (aCons (eC (.str "up")) (aCons (eC (.int 0)) aNil))) (aCons (eSlot 9) aNil))) (wipeE [some (.scr ns), some (.int k), some (.ref q), some (.int (1 + v1.1)), some (.lst baseT), o5, o6, o7, o8, o9] [9]) [.int 1, .int 59] h1 = .ok [nestD 1, nestD 59] h1 := by
      have one : ∀ m : Nat, m ≤ 1000 → eCall F__law_nested (aCons (eTup (aCons (eC (.str "up")) (aCons (eC (.int 0)) aNil))) (aCons (eSlot 9) aNil)) [some (.scr ns), some (.int k), some (.ref q), some (.int (1 + v1.1)), some (.lst baseT), o5, o6, o7, o8, some (.int m)] h1 = .ok (nestD m) h1 := fun m hm =>
        (callK (consK (d := nestD 0) (h1 := h1) rfl (consK (m := eSlot 9) (d := .int m) (h1 := h1) rfl (nilK _ _)))).trans (nested_run m hm h1)
      exact comp_map (f := fun d => match d with | .int i => nestD i.toNat | d => d) [.int 1, .int 59] fun d m => by
        simp only [List.mem_cons, List.not_mem_nil, or_false] at m
        rcases m with rfl | rfl
        · exact ⟨_, rfl, one 1 (by decide)⟩
        · exact ⟨_, rfl, one 59 (by decide)⟩
    have ef : eFrz (aComp (iOf (eTup (aCons (eC (.int 1)) (aCons (eC (.int 59)) aNil)))) (.name 9) (fun _ h => .ok true h) (eCall F__law_nested (aCons (eTup (aCons (eC (.str "up")) (aCons (eC (.int 0)) aNil))) (aCons (eSlot 9) aNil))) [9]) [some (.scr ns), some (.int k), some (.ref q), some (.int (1 + v1.1)), some (.lst baseT), o5, o6, o7, o8, o9] h1 = .ok (.lst [nestD 1, nestD 59]) h1 := by
      unfold eFrz aComp
      have io : iOf (eTup (aCons (eC (.int 1)) (aCons (eC (.int 59)) aNil))) [some (.scr ns), some (.int k), some (.ref q), some (.int (1 + v1.1)), some (.lst baseT), o5, o6, o7, o8, o9] h1 = .ok ⟨[.int 1, .int 59], none⟩ h1 := rfl
      rw [io, bind_ok, cl]; rfl
    exact asgK (op2K (x := .lst baseT) (h1 := h1) rfl ef (cat_lst (by decide) _)))]
  have s5 := for_src (T := .name 5) (b := L_law_0) (M := 12) (by decide) (by decide) (e := eC (.int 12)) (env := [some (.scr ns), some (.int k), some (.ref q), some (.int (1 + v1.1)), some (.lst (baseT ++ [nestD 1, nestD 59])), o5, o6, o7, o8, o9]) (h := h1) rfl e5 ⟨_, _, rfl⟩
  rw [sqK s5]
  unfold sFor
  have io : iOf (eSlot 4) [some (.scr ns), some (.int k), some (.ref q), some (.int (1 + v1.1)), some (.lst ds), y5, y6, o7, o8, o9] h2 = .ok ⟨ds, none⟩ h2 := rfl
  rw [io]
  exact e6
theorem turns11 (ns : List Int) : ∀ (xs : List Int), (∀ x ∈ xs, 0 ≤ x ∧ x < 1000000) → ∀ (h : Hh) (env : DEnv), env.length = 9 →
    ∃ h' env', forL none (bodyT (.name 1) L_law_2) (xs.map D.int) (some (.scr ns) :: env) h = .nx (some (.scr ns) :: env') h' ∧ env'.length = 9
  | [], _, h, env, hl => ⟨h, _, ev_for_nil .., hl⟩
  | x :: xs, hx, h, env, hl => by
    match env, hl with
    | [x1, x2, x3, x4, x5, x6, x7, x8, x9], _ =>
      obtain ⟨h1, env1, e, l1⟩ := turn11 ns (hx x List.mem_cons_self).1 (hx x List.mem_cons_self).2 h x1 x2 x3 x4 x5 x6 x7 x8 x9
      obtain ⟨h2, env2, e2, l2⟩ := turns11 ns xs (fun y hy => hx y (List.mem_cons_of_mem _ hy)) h1 env1 l1
      refine ⟨h2, env2, ?_, l2⟩
      rw [List.map_cons, ev_for_cons, e, ev_lb_nx]
      exact e2
theorem law_true (ns : List Int) (hns : ns.length ≤ 63) : ∃ h', F_law [.scr ns] [] = .ok (.bl true) h' := by
  have ex : ∃ M : Int, (0 ≤ M ∧ M ≤ 1000) ∧ (eOpN max2O (aCons (eC (.int 3)) (aCons (eOpN min2O (aCons (eOpN lenO (aCons (eSlot 0) aNil)) (aCons (eC (.int 8)) aNil))) aNil))) [some (.scr ns), none, none, none, none, none, none, none, none, none] [] = .ok (.int M) [] := by
    refine ⟨if (if (8 : Int) < (ns.length : Int) then (8 : Int) else (ns.length : Int)) > 3 then (if (8 : Int) < (ns.length : Int) then (8 : Int) else (ns.length : Int)) else 3, ?_, rfl⟩
    split <;> split <;> omega
  obtain ⟨M, hM, ex⟩ := ex
  obtain ⟨h', env', e, el⟩ := turns11 ns (rngT 0 M) (fun x hx => by have := mem_rngT.mp hx; omega) [] [none, none, none, none, none, none, none, none, none] rfl
  have s1 := for_src (T := .name 1) (b := L_law_2) (by omega) (by omega) ex e ⟨_, _, rfl⟩
  refine ⟨h', ?_⟩
  show runF 1 N_law b_law [.scr ns] [] = _
  rw [ev_run1]
  show outR (b_law [some (.scr ns), none, none, none, none, none, none, none, none, none] []) = _
  unfold b_law
  rw [sqK s1]
  rfl

end LK
end
set_option maxHeartbeats 0 in
theorem PySem.Challenge.cw_manyreaders_k11_deeds_or_none_holds : PySem.Challenge.rw_manyreaders_k11_deeds_or_none.Holds := by
  w_on; o_law; k_head; (case hw => w_witness2)
  k_fill
  refine L2.walk_of (l := PySem.Challenge.rw_manyreaders_k11_deeds_or_none) (n := 63) (k := 3) (x := "_law_script") (CX := fun w => L2.CX PySem.Challenge.rw_manyreaders_k11_deeds_or_none.prog w) (sp := fun w => MR.spD ⟨PySem.Challenge.rw_manyreaders_k11_deeds_or_none.prog, w, _⟩ 1 LK.F_law) rfl (by decide) rfl ⟨rfl, by decide, by decide⟩ (fun w h Y => PySem.W.kIn_of Y) ?F (fun w H a ns hl hO hS => MR.sp_law (by decide) LK.law_true H a ns hl hO hS) (fun _ _ _ _ _ h => MR.cx_law h)
  case F =>
    intro w mg fa h KX G hmg
    have T : LK.Txt PySem.Challenge.rw_manyreaders_k11_deeds_or_none.prog w (L2.KOf KX) mg := by
      refine' ⟨MR.mkFd KX G ?a0 ?l0 ?d0 ?k0 (fun _ _ _ _ _ _ us hl => match us, hl with | [_, _, _], _ => rfl),
        MR.mkFd KX G ?a1 ?l1 ?d1 ?k1 (fun _ _ _ _ _ _ us hl => match us, hl with | [_, _], _ => rfl),
        MR.mkFd KX G ?a2 ?l2 ?d2 ?k2 (fun _ _ _ _ _ _ us hl => match us, hl with | [_, _], _ => rfl),
        MR.mkFd KX G ?a3 ?l3 ?d3 ?k3 (fun _ _ _ _ _ _ us hl => match us, hl with | [], _ => rfl),
        MR.mkFd KX G ?a4 ?l4 ?d4 ?k4 (fun _ _ _ _ _ _ us hl => match us, hl with | [_, _], _ => rfl),
        MR.mkFd KX G ?a5 ?l5 ?d5 ?k5 (fun _ _ _ _ _ _ us hl => match us, hl with | [_, _], _ => rfl),
        MR.mkFd KX G ?a6 ?l6 ?d6 ?k6 (fun _ _ _ _ _ _ us hl => match us, hl with | [_, _], _ => rfl),
        MR.mkFd KX G ?a7 ?l7 ?d7 ?k7 (fun _ _ _ _ _ _ us hl => match us, hl with | [_, _, _], _ => rfl),
        MR.mkFd KX G ?a8 ?l8 ?d8 ?k8 (fun _ _ _ _ _ _ us hl => match us, hl with | [_, _], _ => rfl),
        MR.mkFd KX G ?a9 ?l9 ?d9 ?k9 (fun _ _ _ _ _ _ us hl => match us, hl with | [_, _, _], _ => rfl),
        MR.mkFd KX G ?a10 ?l10 ?d10 ?k10 (fun _ _ _ _ _ _ us hl => match us, hl with | [_, _], _ => rfl),
        MR.mkFd KX G ?a11 ?l11 ?d11 ?k11 (fun _ _ _ _ _ _ us hl => match us, hl with | [_], _ => rfl),
        MR.mkTupS (xs := ["read", "write"]) KX G ?ca0 ?cl0 ?cr0 ?cz0,
        MR.mkTupS (xs := ["up", "down", "leave", "stop"]) KX G ?ca1 ?cl1 ?cr1 ?cz1,
        MR.mkInt KX G ?ca2,
        PySem.W.mg_none_of KX G ?n_bool,
        PySem.W.mg_none_of KX G ?n_int,
        PySem.W.mg_none_of KX G ?n_isinstance,
        PySem.W.mg_none_of KX G ?n_len,
        PySem.W.mg_none_of KX G ?n_list,
        PySem.W.mg_none_of KX G ?n_max,
        PySem.W.mg_none_of KX G ?n_min,
        PySem.W.mg_none_of KX G ?n_range,
        PySem.W.mg_none_of KX G ?n_str,
        PySem.W.mg_none_of KX G ?n_tuple⟩
      (case a0 => k_is)
      (case l0 => k_is)
      (case d0 => k_is)
      (case k0 => k_is)
      (case a1 => k_is)
      (case l1 => k_is)
      (case d1 => k_is)
      (case k1 => k_is)
      (case a2 => k_is)
      (case l2 => k_is)
      (case d2 => k_is)
      (case k2 => k_is)
      (case a3 => k_is)
      (case l3 => k_is)
      (case d3 => k_is)
      (case k3 => k_is)
      (case a4 => k_is)
      (case l4 => k_is)
      (case d4 => k_is)
      (case k4 => k_is)
      (case a5 => k_is)
      (case l5 => k_is)
      (case d5 => k_is)
      (case k5 => k_is)
      (case a6 => k_is)
      (case l6 => k_is)
      (case d6 => k_is)
      (case k6 => k_is)
      (case a7 => k_is)
      (case l7 => k_is)
      (case d7 => k_is)
      (case k7 => k_is)
      (case a8 => k_is)
      (case l8 => k_is)
      (case d8 => k_is)
      (case k8 => k_is)
      (case a9 => k_is)
      (case l9 => k_is)
      (case d9 => k_is)
      (case k9 => k_is)
      (case a10 => k_is)
      (case l10 => k_is)
      (case d10 => k_is)
      (case k10 => k_is)
      (case a11 => k_is)
      (case l11 => k_is)
      (case d11 => k_is)
      (case k11 => k_is)
      (case ca0 => k_is)
      (case cl0 => k_is)
      (case ca1 => k_is)
      (case cl1 => k_is)
      (case ca2 => k_is)
      (case n_bool => k_is)
      (case n_int => k_is)
      (case n_isinstance => k_is)
      (case n_len => k_is)
      (case n_list => k_is)
      (case n_max => k_is)
      (case n_min => k_is)
      (case n_range => k_is)
      (case n_str => k_is)
      (case n_tuple => k_is)
      (case cr0 => exact MR.strs_vals [("read", _), ("write", _)])
      (case cz0 => decide)
      (case cr1 => exact MR.strs_vals [("up", _), ("down", _), ("leave", _), ("stop", _)])
      (case cz1 => decide)
    have e := hmg.symm.trans T.p_law.g
    cases e
    exact ⟨T.p_law.fd, fun s v => T.p_law.r s [v] rfl, fun base _ _ => LK.ok_law T⟩
