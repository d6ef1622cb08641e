import PyProof.Rows.All
import PySem.Challenge.RW_manyreaders_k50_rows_refused_by_their_li
import Wide.All
import OpenK.AllK
import Wide.FinOn
import HandS.ForMost
import HandS.ForExc
import HandS.IsInst
import HandS.Deep
import HandS.TryOnly
import HandS.CallSlots
import HandS.WordsExc
import HandS.Walk
import KE.KDictKeyed
import KE.GoesNew
import HandS.Iter
import HandS.Zip
import HandS.Wide
import HandS.TupAny
import HandS.Style
import HandS.More
import HandS.Ends
import HandS.TupMul
import HandS.SetFor
import HandS.Conv
import HandS.Small
import HandS.Strs
import HandS.CallLocal
import HandS.TupSets
import HandS.FStr
import HandS.Text
import PyProof.StrBlock2
import PyProof.CallStr
import HandS.ExcInit
import HandS.ClsMeth
import HandS.RaiseMore
import HandS.Defaults
import PyProof.FString2
import KE.KExcIs
import HandS.ExcIs
import KE.KDictDisplayH
import KE.KDictCopyH
import KE.KDictPairs
import KE.KTupSum
import HandS.TupLen
import PyProof.AutoSeq1
import KE.KSlice
import HandS.NoneIn
import PyProof.NeData
import HandS.HotCalls
import HandS.SuiteRaise
import HandS.RaiseFrom
import HandS.ExcInitHot
import PyProof.ListStr
import PyProof.Rows.StrOver
import HandS.Flow
set_option Elab.async false
set_option linter.all false
set_option maxRecDepth 100000
namespace MR
open PySem PySem.Spec PyProof.Rows L2

inductive D where
  | non | bl (b : Bool) | int (i : Int) | str (x : Str)
  | tup (xs : List D) | lst (xs : List D)
  /-- a pair that a walk hands out: to be taken apart -/
  | wtp (xs : List D)
  | ref (i : Nat) | glb (v : V)
  | scr (ns : List Int)
  /-- a dict that stands still: its keys, its values -/
  | dct (ks ds : List D)

structure Exn where
  cls : Str
  fld : Option (Str × D)

inductive O where
  | lst (xs : List D)
  | dK (kvs : List (Key × D))
  | dN (kvs : List (D × D))
  | ins (x : Str) (fs : List (Str × D))
  /-- an exception that was caught and noted -/
  | exc (x : Exn)

abbrev Hh := List O
abbrev DEnv := List (Option D)
inductive Res (α : Type) where
  | ok (a : α) (h : Hh)
  | err (x : Exn) (h : Hh)
  | stuck

def Res.bind {α β : Type} (r : Res α) (f : α → Hh → Res β) : Res β :=
  match r with
  | .ok a h => f a h
  | .err x h => .err x h
  | .stuck => .stuck
theorem bind_ok {α β : Type} (a : α) (h : Hh) (f : α → Hh → Res β) : (Res.ok a h).bind f = f a h := rfl
theorem bind_err {α β : Type} (x : Exn) (h : Hh) (f : α → Hh → Res β) : (Res.err x h : Res α).bind f = .err x h := rfl
theorem bind_stuck {α β : Type} (f : α → Hh → Res β) : (Res.stuck : Res α).bind f = .stuck := rfl
def lift {α : Type} (o : Option α) (h : Hh) : Res α := match o with | some a => .ok a h | none => .stuck

abbrev ME := DEnv → Hh → Res D
abbrev MT := DEnv → Hh → Res Bool
abbrev MA := DEnv → Hh → Res (List D)

/-- what is fixed through the law's run -/
structure Gm where
  P : Program
  w : World
  K : PySem.W.Frag

/-- where the things that may change stand; what is set apart -/
structure Rm where
  at_ : List Addr
  res : List Addr
def Rm.add (rho : Rm) (p : Addr) : Rm := ⟨rho.at_ ++ [p], rho.res⟩
def Rm.hold (rho : Rm) (p : Addr) : Rm := ⟨rho.at_, p :: rho.res⟩

/-- a tuple, of which it is known that it has no dict -/
def SqTS (K : PySem.W.Frag) (H : Hp) (a : Addr) (vs : List V) : Prop :=
  (∃ o : Obj, H a = some (.frz o (.tup vs)) ∧ o.dict = none) ∨
    ∃ (o : Obj) (its : Array Value) (n : Nat), K.lookup a = some o ∧ o.cls = .type "tuple" ∧ o.dict = none ∧ o.data = .seq its n ∧ its.size ≤ sizeLine ∧ Vals vs its.toList
theorem SqTS.t {K : PySem.W.Frag} {H : Hp} {a : Addr} {vs : List V} (h : SqTS K H a vs) : SqT K H a vs := by
  rcases h with ⟨o, h, _⟩ | ⟨o, its, n, a, b, _, c⟩
  · exact .inl (.inr ⟨o, h⟩)
  · exact .inr ⟨o, its, n, a, b, c⟩
/-- a dict whose keys are tuples: its entries as they stand -/
def dictRaw (a : Addr) (es : Array DictEntry) (h : Heap) : Prop := ∃ o ep, h.get? a = some o ∧ o.ExactDict ∧ o.data = .dict es ep

mutual
/-- a key by value -/
def nk : D → Option NestedKey
  | .non => some NestedKey.none
  | .bl b => some (NestedKey.num (if b then 1 else 0))
  | .int i => some (NestedKey.num i)
  | .str x => some (NestedKey.text x)
  | .tup ds => (nks ds).map NestedKey.tup
  | .wtp _ => none
  | .lst _ => none
  | .ref _ => none
  | .glb _ => none
  | .scr _ => none
  | .dct _ _ => none
def nks : List D → Option (List NestedKey)
  | [] => some []
  | d :: ds => match nk d, nks ds with
    | some k, some ks => some (k :: ks)
    | _, _ => none
end

mutual
def Den (G : Gm) (rho : Rm) (H : Hp) : D → V → Prop
  | .non, v => v = .non
  | .bl b, v => v = .bl b
  | .int i, v => v = .int i
  | .str x, v => v = .str x
  | .tup ds, v => ∃ a vs, v = .ref a ∧ SqTS G.K H a vs ∧ vs.length ≤ sizeLine ∧ Dens G rho H ds vs
  | .wtp ds, v => ∃ a vs, v = .ref a ∧ SqT G.K H a vs ∧ vs.length ≤ sizeLine ∧ Dens G rho H ds vs
  | .lst ds, v => ∃ a vs, v = .ref a ∧ H a = some (.lst vs) ∧ a ∉ rho.at_ ∧ a ∉ rho.res ∧ vs.length ≤ sizeLine ∧ Dens G rho H ds vs
  | .ref i, v => ∃ a, rho.at_[i]? = some a ∧ v = .ref a
  | .glb u, v => v = u
  | .scr ns, v => ∃ a, v = .ref a ∧ ((∃ o, H a = some (.frz o (.lst (ns.map V.int)))) ∨ ∃ (o : Obj) (its : Array Value) (n : Nat), G.K.lookup a = some o ∧ o.cls = .type "list" ∧ o.dict = none ∧ o.data = .seq its n ∧ its.size ≤ sizeLine ∧ Vals (ns.map V.int) its.toList) ∧ ns.length ≤ sizeLine
  | .dct ks ds, v => ∃ (a : Addr) (xs : List (NestedKey × Addr × Value)) (es : Array DictEntry) (us : List V), v = .ref a ∧ H a = some (.ext (dictRaw a es)) ∧ a ∉ rho.at_ ∧ a ∉ rho.res ∧ (a == sysModules) = false ∧ xs.length ≤ sizeLine ∧
      nks ks = some (xs.map (·.1)) ∧ Vals us (xs.map (·.2.2)) ∧ es.toList = xs.map (entryOfKey (nestedKind G.P G.w)) ∧ (xs.map (·.1)).Nodup ∧ (∀ x ∈ xs, x.1.depth ≤ 8) ∧ Dens G rho H ks (xs.map fun x => V.ref x.2.1) ∧ Dens G rho H ds us
def Dens (G : Gm) (rho : Rm) (H : Hp) : List D → List V → Prop
  | [], vs => vs = []
  | d :: ds, vs => ∃ v r, vs = v :: r ∧ Den G rho H d v ∧ Dens G rho H ds r
end

def Fields (G : Gm) (rho : Rm) (H : Hp) : List (Str × D) → List (Str × V) → Prop :=
  Paired fun p q => p.1 = q.1 ∧ Den G rho H p.2 q.2

/-- an exception's field: a number or None -/
def PlD (y : D) (v : V) : Prop := (y = .non ∧ v = .non) ∨ ∃ i, y = .int i ∧ v = .int i
/-- an exception in the air: its class, its dict -/
def ExD (G : Gm) (rho : Rm) (H : Hp) (x : Exn) (c : Value) (d : Option Addr) : Prop :=
  (∃ C, PySem.W.nsIn G.K mainGlobals x.cls = some (some (.ref C)) ∧ c = .ref C) ∧ match x.fld with
    | none => d = none
    | some (f, y) => ∃ a v, d = some a ∧ H a = some (.xd [(f, v)]) ∧ a ∉ rho.at_ ∧ a ∉ rho.res ∧ PlD y v
/-- an exception as it stands -/
def exAt (a : Addr) (c : Value) (d : Option Addr) : HO := .ext fun h => ∃ (oe : Obj) (vs : Array Value), h.get? a = some oe ∧ oe.cls = c ∧ oe.dict = d ∧ oe.data = .fields vs
def ObD (G : Gm) (rho : Rm) (H : Hp) (a : Addr) : O → Prop
  | .lst ds => ∃ vs, H a = some (.lst vs) ∧ vs.length ≤ sizeLine ∧ Dens G rho H ds vs
  | .dK kvs => ∃ fvs, H a = some (.dK fvs) ∧ fvs.length ≤ sizeLine ∧ Paired (fun (p : Key × D) (q : Key × V) => p.1 = q.1 ∧ Den G rho H p.2 q.2) kvs fvs
  | .dN kvs => ∃ xs : List (NestedKey × Addr × Value), (a == sysModules) = false ∧ xs.length ≤ sizeLine ∧ ∃ es, H a = some (.ext (dictRaw a es)) ∧
      Paired (fun (p : D × D) (q : NestedKey × Addr × Value) => nk p.1 = some q.1 ∧ Den G rho H p.1 (.ref q.2.1) ∧ ∃ v, RelV v q.2.2 ∧ Den G rho H p.2 v) kvs xs ∧
      es.toList = xs.map (entryOfKey (nestedKind G.P G.w)) ∧ (xs.map (·.1)).Nodup ∧ ∀ x ∈ xs, x.1.depth ≤ 8
  | .ins x fs => ∃ C dx fvs, PySem.W.nsIn G.K mainGlobals x = some (some (.ref C)) ∧ H a = some (.ins C dx fvs) ∧ H dx = some (.own a) ∧ Fields G rho H fs fvs
  | .exc x => ∃ c d, ExD G rho H x c d ∧ H a = some (exAt a c d)

structure Rep (G : Gm) (rho : Rm) (hh : Hh) (H : Hp) : Prop where
  nd : rho.at_.Nodup
  hd : ∀ a ∈ rho.res, ∃ o, H a = some o
  len : rho.at_.length = hh.length
  ob : ∀ (i : Nat) (a : Addr) (o : O), rho.at_[i]? = some a → hh[i]? = some o → ObD G rho H a o

structure Step (rho : Rm) (H : Hp) (rho' : Rm) (H' : Hp) : Prop where
  ext : ∃ e, rho'.at_ = rho.at_ ++ e ∧ ∀ a ∈ e, H a = none
  new : ∀ a ∈ rho'.res, a ∈ rho.res ∨ H a = none
  kept : ∀ a ∈ rho.res, a ∈ rho'.res
  keep : ∀ a o, H a = some o → a ∉ rho.at_ → H' a = some o
  there : ∀ a o, H a = some o → ∃ o', H' a = some o'

def EnvD (G : Gm) (rho : Rm) (H : Hp) (env : DEnv) (σ : L2.St) : Prop :=
  env.length = σ.length ∧ ∀ (i : Nat) (d : D), env[i]? = some (some d) → ∃ v, σ[i]? = some (some v) ∧ Den G rho H d v

section
variable {G : Gm} {rho rho' rho'' : Rm} {H H' H'' : Hp}
theorem Step.refl : Step rho H rho H := ⟨⟨[], by simp, by simp⟩, fun _ h => .inl h, fun _ h => h, fun _ _ h _ => h, fun _ o h => ⟨o, h⟩⟩
theorem Step.back (a : Step rho H rho' H') {x : Addr} (hx : H' x = none) : H x = none := by
  cases q : H x with
  | none => rfl
  | some o =>
    obtain ⟨o', h'⟩ := a.there x o q
    rw [h'] at hx; cases hx
theorem Step.trans (a : Step rho H rho' H') (b : Step rho' H' rho'' H'') : Step rho H rho'' H'' := by
  obtain ⟨e, ee, he⟩ := a.ext
  obtain ⟨e', ee', he'⟩ := b.ext
  refine ⟨⟨e ++ e', by rw [ee', ee, List.append_assoc], fun x hx => ?_⟩, fun x hx => ?_, fun x hx => b.kept x (a.kept x hx), fun x o h hx => ?_, fun x o h => ?_⟩
  · rcases List.mem_append.mp hx with h | h
    · exact he x h
    · exact a.back (he' x h)
  · rcases b.new x hx with h | h
    · exact a.new x h
    · exact .inr (a.back h)
  · have h1 := a.keep x o h hx
    refine b.keep x o h1 fun hm => ?_
    rw [ee] at hm
    rcases List.mem_append.mp hm with h2 | h2
    · exact hx h2
    · have := he x h2
      rw [h] at this; cases this
  · obtain ⟨o', h'⟩ := a.there x o h
    exact b.there x o' h'
theorem Step.get (a : Step rho H rho' H') {i : Nat} {x : Addr} (h : rho.at_[i]? = some x) : rho'.at_[i]? = some x := by
  obtain ⟨e, ee, _⟩ := a.ext
  have hi : i < rho.at_.length := (List.getElem?_eq_some_iff.mp h).1
  rw [ee, List.getElem?_append_left hi]; exact h
theorem Step.out (a : Step rho H rho' H') {x : Addr} {o : HO} (h : H x = some o) (hx : x ∉ rho.at_) : x ∉ rho'.at_ := by
  obtain ⟨e, ee, he⟩ := a.ext
  intro hm
  rw [ee] at hm
  rcases List.mem_append.mp hm with h2 | h2
  · exact hx h2
  · have := he x h2
    rw [h] at this; cases this
theorem Step.outR (a : Step rho H rho' H') {x : Addr} {o : HO} (h : H x = some o) (hx : x ∉ rho.res) : x ∉ rho'.res := fun hm => by
  rcases a.new x hm with h2 | h2
  · exact hx h2
  · rw [h] at h2; cases h2
/-- back to what was there: what has been made is forgotten -/
theorem Step.drop (a : Step rho H rho' H') : Step rho H rho H' := ⟨⟨[], by simp, by simp⟩, fun _ h => .inl h, fun _ h => h, a.keep, a.there⟩
/-- a new thing is laid, not tracked as changing -/
theorem Step.laid {p : Addr} {o : HO} (h : H p = none) : Step rho H rho (upd H p o) :=
  ⟨⟨[], by simp, by simp⟩, fun _ h => .inl h, fun _ h => h, fun x o' hx _ => by rw [upd_ne (ne_of_none hx h)]; exact hx, fun x o' hx => ⟨o', by rw [upd_ne (ne_of_none hx h)]; exact hx⟩⟩
/-- a new thing is laid that may change -/
theorem Step.laidN {p : Addr} {o : HO} (h : H p = none) : Step rho H (rho.add p) (upd H p o) :=
  ⟨⟨[p], rfl, by simpa using h⟩, fun _ h => .inl h, fun _ h => h, fun x o' hx _ => by rw [upd_ne (ne_of_none hx h)]; exact hx, fun x o' hx => ⟨o', by rw [upd_ne (ne_of_none hx h)]; exact hx⟩⟩
/-- a new thing is laid and set apart -/
theorem Step.laidR {p : Addr} {o : HO} (h : H p = none) : Step rho H (rho.hold p) (upd H p o) :=
  ⟨⟨[], by simp [Rm.hold], by simp⟩, fun x hx => by
    rcases List.mem_cons.mp hx with e | hx
    · rw [e]; exact .inr h
    · exact .inl hx, fun _ h => List.mem_cons_of_mem _ h, fun x o' hx _ => by rw [upd_ne (ne_of_none hx h)]; exact hx, fun x o' hx => ⟨o', by rw [upd_ne (ne_of_none hx h)]; exact hx⟩⟩
/-- a thing that may change is changed -/
theorem Step.put {p : Addr} {o : HO} (h : p ∈ rho.at_) : Step rho H rho (upd H p o) :=
  ⟨⟨[], by simp, by simp⟩, fun _ h => .inl h, fun _ h => h, fun x o' hx hn => by rw [upd_ne (fun e => hn (by rw [e]; exact h))]; exact hx, fun x o' hx => by
    by_cases e : x = p
    · subst e; exact ⟨o, upd_same⟩
    · exact ⟨o', by rw [upd_ne e]; exact hx⟩⟩
/-- a thing made since is changed -/
theorem Step.since {p : Addr} {o : HO} (a : Step rho H rho' H') (h : H p = none) : Step rho H rho' (upd H' p o) :=
  ⟨a.ext, a.new, a.kept, fun x o' hx hn => by rw [upd_ne (ne_of_none hx h)]; exact a.keep x o' hx hn, fun x o' hx => by
    obtain ⟨o2, h2⟩ := a.there x o' hx
    exact ⟨o2, by rw [upd_ne (ne_of_none hx h)]; exact h2⟩⟩

/-- what may change is no tuple -/
theorem ObD.mut {a : Addr} {o : O} (x : ObD G rho H a o) : ∃ u, H a = some u ∧ Mut (some u) := by
  cases o with
  | lst ds => obtain ⟨vs, e, _⟩ := x; exact ⟨_, e, True.intro⟩
  | dK kvs => obtain ⟨vs, e, _⟩ := x; exact ⟨_, e, True.intro⟩
  | dN kvs => obtain ⟨xs, _, _, es, e, _⟩ := x; exact ⟨_, e, True.intro⟩
  | ins C fs => obtain ⟨_, dx, fvs, _, e, _⟩ := x; exact ⟨_, e, True.intro⟩
  | exc x => obtain ⟨_, _, _, e⟩ := x; exact ⟨_, e, True.intro⟩
theorem Rep.mut {hh : Hh} (R : Rep G rho hh H) {a : Addr} (h : a ∈ rho.at_) : ∃ u, H a = some u ∧ Mut (some u) := by
  obtain ⟨i, hi, e⟩ := List.mem_iff_getElem.mp h
  have h1 : rho.at_[i]? = some a := by rw [List.getElem?_eq_getElem hi, e]
  have h2 : i < hh.length := by rw [← R.len]; exact hi
  exact (R.ob i a hh[i] h1 (List.getElem?_eq_getElem h2)).mut

theorem rd_step (S : Step rho H rho' H') {a : Addr} {u : HO} (h : Rd H a u) (n : a ∉ rho.at_) : Rd H' a u := by
  rcases h with h | ⟨o, h⟩
  · exact .inl (S.keep a u h n)
  · exact .inr ⟨o, S.keep a _ h n⟩
theorem sqT_step {hh : Hh} (R : Rep G rho hh H) (S : Step rho H rho' H') {a : Addr} {vs : List V} (h : SqT G.K H a vs) : SqT G.K H' a vs := by
  rcases h with h | h
  · refine .inl (rd_step S h fun hm => ?_)
    obtain ⟨u, e, mu⟩ := R.mut hm
    rcases h with h | ⟨o, h⟩
    · rw [h] at e; cases e; exact mu
    · rw [h] at e; cases e; exact mu
  · exact .inr h
theorem sqTS_step {hh : Hh} (R : Rep G rho hh H) (S : Step rho H rho' H') {a : Addr} {vs : List V} (h : SqTS G.K H a vs) : SqTS G.K H' a vs := by
  rcases h with ⟨o, h, d⟩ | h
  · refine .inl ⟨o, S.keep a _ h fun hm => ?_, d⟩
    obtain ⟨u, e, mu⟩ := R.mut hm
    rw [h] at e; cases e; exact mu
  · exact .inr h
mutual
theorem Den.step {hh : Hh} (R : Rep G rho hh H) (S : Step rho H rho' H') : ∀ (d : D) (v : V), Den G rho H d v → Den G rho' H' d v
  | .non, _, h => h
  | .bl _, _, h => h
  | .int _, _, h => h
  | .str _, _, h => h
  | .tup ds, v, h => by
    rw [Den] at h ⊢
    obtain ⟨a, vs, e, q, l, ds'⟩ := h
    exact ⟨a, vs, e, sqTS_step R S q, l, Dens.step R S ds vs ds'⟩
  | .wtp ds, v, h => by
    rw [Den] at h ⊢
    obtain ⟨a, vs, e, q, l, ds'⟩ := h
    exact ⟨a, vs, e, sqT_step R S q, l, Dens.step R S ds vs ds'⟩
  | .lst ds, v, h => by
    rw [Den] at h ⊢
    obtain ⟨a, vs, e, q, n, n2, l, ds'⟩ := h
    exact ⟨a, vs, e, S.keep a _ q n, S.out q n, S.outR q n2, l, Dens.step R S ds vs ds'⟩
  | .ref i, v, h => by
    rw [Den] at h ⊢
    obtain ⟨a, e, q⟩ := h
    exact ⟨a, S.get e, q⟩
  | .glb _, _, h => h
  | .scr ns, v, h => by
    rw [Den] at h ⊢
    obtain ⟨a, e, q, l⟩ := h
    refine ⟨a, e, ?_, l⟩
    rcases q with ⟨o, q⟩ | q
    · exact .inl ⟨o, S.keep a _ q fun hm => by
        obtain ⟨u, e, mu⟩ := R.mut hm
        rw [q] at e; cases e; exact mu⟩
    · exact .inr q
  | .dct ks ds, v, h => by
    rw [Den] at h ⊢
    obtain ⟨a, xs, es, us, e, q, n, n2, l1, l2, k1, k2, k3, k4, k5, d1, d2⟩ := h
    exact ⟨a, xs, es, us, e, S.keep a _ q n, S.out q n, S.outR q n2, l1, l2, k1, k2, k3, k4, k5, Dens.step R S ks _ d1, Dens.step R S ds us d2⟩
theorem Dens.step {hh : Hh} (R : Rep G rho hh H) (S : Step rho H rho' H') : ∀ (ds : List D) (vs : List V), Dens G rho H ds vs → Dens G rho' H' ds vs
  | [], _, h => h
  | d :: ds, vs, h => by
    rw [Dens] at h ⊢
    obtain ⟨v, r, e, a, b⟩ := h
    exact ⟨v, r, e, Den.step R S d v a, Dens.step R S ds r b⟩
end
theorem EnvD.step {hh : Hh} (R : Rep G rho hh H) (S : Step rho H rho' H') {env : DEnv} {σ : L2.St} (h : EnvD G rho H env σ) : EnvD G rho' H' env σ :=
  ⟨h.1, fun i d e => let ⟨v, e1, e2⟩ := h.2 i d e; ⟨v, e1, Den.step R S d v e2⟩⟩
theorem Fields.step {hh : Hh} (R : Rep G rho hh H) (S : Step rho H rho' H') {fs : List (Str × D)} {fvs : List (Str × V)} (h : Fields G rho H fs fvs) : Fields G rho' H' fs fvs :=
  Paired.mapP h fun p q r => ⟨r.1, Den.step R S _ _ r.2⟩

theorem ExD.step {hh : Hh} (R : Rep G rho hh H) (S : Step rho H rho' H') {x : Exn} {c : Value} {d : Option Addr} (h : ExD G rho H x c d) : ExD G rho' H' x c d := by
  obtain ⟨e, h⟩ := h
  refine ⟨e, ?_⟩
  cases q : x.fld with
  | none => rw [q] at h; exact h
  | some p =>
    obtain ⟨f, y⟩ := p
    rw [q] at h
    obtain ⟨a, v, e1, e2, n, n2, e3⟩ := h
    exact ⟨a, v, e1, S.keep a _ e2 n, S.out e2 n, S.outR e2 n2, e3⟩
theorem ExD.turn {rho rho' : Rm} {x : Exn} {c : Value} {d : Option Addr} (h : ExD G rho H x c d) (t : ∀ a, a ∉ rho.at_ → a ∉ rho.res → a ∉ rho'.at_ ∧ a ∉ rho'.res) : ExD G rho' H x c d := by
  obtain ⟨e, h⟩ := h
  refine ⟨e, ?_⟩
  cases q : x.fld with
  | none => rw [q] at h; exact h
  | some p =>
    obtain ⟨f, y⟩ := p
    rw [q] at h
    obtain ⟨a, v, e1, e2, n, n2, e3⟩ := h
    exact ⟨a, v, e1, e2, (t a n n2).1, (t a n n2).2, e3⟩
theorem ExD.put {rho : Rm} {x : Exn} {c : Value} {d : Option Addr} {p : Addr} {o : HO} (h : ExD G rho H x c d) (hp : p ∈ rho.at_ ∨ p ∈ rho.res) : ExD G rho (upd H p o) x c d := by
  obtain ⟨e, h⟩ := h
  refine ⟨e, ?_⟩
  cases q : x.fld with
  | none => rw [q] at h; exact h
  | some p =>
    obtain ⟨f, y⟩ := p
    rw [q] at h
    obtain ⟨a, v, e1, e2, n, n2, e3⟩ := h
    exact ⟨a, v, e1, by rw [upd_ne (fun z => by subst z; exact hp.elim n n2)]; exact e2, n, n2, e3⟩
/-- an object that is not touched -/
theorem ObD.step {hh : Hh} (R : Rep G rho hh H) (S : Step rho H rho' H') {a : Addr} {o : O} (x : ObD G rho H a o) (h : ∀ u, H a = some u → H' a = some u) (ho : ∀ dx, H dx = some (.own a) → H' dx = some (.own a)) : ObD G rho' H' a o := by
  cases o with
  | lst ds => obtain ⟨vs, e, l, q⟩ := x; exact ⟨vs, h _ e, l, Dens.step R S ds vs q⟩
  | dK kvs => obtain ⟨vs, e, l, q⟩ := x; exact ⟨vs, h _ e, l, Paired.mapP q fun p q r => ⟨r.1, Den.step R S _ _ r.2⟩⟩
  | dN kvs =>
    obtain ⟨xs, l0, l1, es, e, q, r⟩ := x
    exact ⟨xs, l0, l1, es, h _ e, Paired.mapP q fun p q r => ⟨r.1, Den.step R S _ _ r.2.1, let ⟨v, a, b⟩ := r.2.2; ⟨v, a, Den.step R S _ _ b⟩⟩, r⟩
  | ins C fs => obtain ⟨c, dx, fvs, g, e, o, q⟩ := x; exact ⟨c, dx, fvs, g, h _ e, ho _ o, q.step R S⟩
  | exc x => obtain ⟨c, d, q, e⟩ := x; exact ⟨c, d, q.step R S, h _ e⟩
/-- no changing thing is an own dict -/
theorem Rep.own {hh : Hh} (R : Rep G rho hh H) {dx a : Addr} (h : H dx = some (.own a)) : dx ∉ rho.at_ := fun hm => by
  obtain ⟨u, e, mu⟩ := R.mut hm
  rw [h] at e; cases e; exact mu

/-- a new thing is laid beside -/
theorem Rep.laid {hh : Hh} (R : Rep G rho hh H) {p : Addr} {o : HO} (h : H p = none) : Rep G rho hh (upd H p o) :=
  ⟨R.nd, fun a m => let ⟨o', e⟩ := R.hd a m; ⟨o', by rw [upd_ne (ne_of_none e h)]; exact e⟩, R.len, fun i a o' e1 e2 => (R.ob i a o' e1 e2).step R (.laid h) (fun u q => by rw [upd_ne (ne_of_none q h)]; exact q) fun dx q => by rw [upd_ne (ne_of_none q h)]; exact q⟩
theorem Rep.step {hh : Hh} (R : Rep G rho hh H) (S : Step rho H rho H') (h : ∀ a ∈ rho.at_, H' a = H a) : Rep G rho hh H' :=
  ⟨R.nd, fun a m => let ⟨o', e⟩ := R.hd a m; S.there a o' e, R.len, fun i a o' e1 e2 => (R.ob i a o' e1 e2).step R S (fun u q => by rw [h a (List.mem_of_getElem? e1)]; exact q) fun dx q => S.keep dx _ q (R.own q)⟩
/-- a new thing that may change -/
theorem Rep.laidN {hh : Hh} (R : Rep G rho hh H) {p : Addr} {o : HO} {ob : O} (h : H p = none) (new : ObD G (rho.add p) (upd H p o) p ob) : Rep G (rho.add p) (hh ++ [ob]) (upd H p o) := by
  have np : p ∉ rho.at_ := fun hm => by
    obtain ⟨u, e, _⟩ := R.mut hm
    rw [h] at e; cases e
  refine ⟨?_, fun a m => let ⟨o', e⟩ := R.hd a m; ⟨o', by rw [upd_ne (ne_of_none e h)]; exact e⟩, by simp [Rm.add, R.len], fun i a o' e1 e2 => ?_⟩
  · show (rho.at_ ++ [p]).Nodup
    rw [List.nodup_append]
    exact ⟨R.nd, by simp, fun x hx y hy e => np (by simp at hy; subst hy; exact e ▸ hx)⟩
  · have e1 : (rho.at_ ++ [p])[i]? = some a := e1
    by_cases hi : i < rho.at_.length
    · rw [List.getElem?_append_left hi] at e1
      rw [List.getElem?_append_left (by rw [← R.len]; exact hi)] at e2
      exact (R.ob i a o' e1 e2).step R (.laidN h) (fun u q => by rw [upd_ne (ne_of_none q h)]; exact q) fun dx q => by rw [upd_ne (ne_of_none q h)]; exact q
    · have hl : i < (rho.at_ ++ [p]).length := (List.getElem?_eq_some_iff.mp e1).1
      have e : i = rho.at_.length := by simp at hl; omega
      subst e
      rw [List.getElem?_append_right (Nat.le_refl _)] at e1
      rw [R.len, List.getElem?_append_right (Nat.le_refl _)] at e2
      simp at e1 e2
      subst e1; subst e2
      exact new
/-- a thing is changed -/
theorem Rep.put {hh : Hh} (R : Rep G rho hh H) {i : Nat} {p : Addr} {o : HO} {ob : O} (hp : rho.at_[i]? = some p) (new : ObD G rho (upd H p o) p ob) : Rep G rho (hh.set i ob) (upd H p o) := by
  have mp : p ∈ rho.at_ := List.mem_of_getElem? hp
  refine ⟨R.nd, fun a m => let ⟨o', e⟩ := R.hd a m; (Step.put mp).there a o' e, by simp [R.len], fun j a o' e1 e2 => ?_⟩
  by_cases hj : j = i
  · subst hj
    rw [hp] at e1; cases e1
    have hl : j < hh.length := by rw [← R.len]; exact (List.getElem?_eq_some_iff.mp hp).1
    rw [List.getElem?_set_self hl] at e2
    cases e2
    exact new
  · rw [List.getElem?_set_ne (Ne.symm hj)] at e2
    have ne : a ≠ p := fun e => by
      subst e
      obtain ⟨h1, q1⟩ := List.getElem?_eq_some_iff.mp e1
      obtain ⟨h2, q2⟩ := List.getElem?_eq_some_iff.mp hp
      exact hj ((List.getElem_inj R.nd).mp (q1.trans q2.symm))
    exact (R.ob j a o' e1 e2).step R (.put mp) (fun u q => by rw [upd_ne ne]; exact q) fun dx q => by
      rw [upd_ne (fun e => R.own q (by rw [e]; exact mp))]; exact q
theorem Dens.length {ds : List D} : ∀ {vs : List V}, Dens G rho H ds vs → ds.length = vs.length := by
  induction ds with
  | nil => intro vs h; rw [Dens] at h; subst h; rfl
  | cons d ds ih =>
    intro vs h
    rw [Dens] at h
    obtain ⟨v, r, rfl, _, q⟩ := h
    simp [ih q]
theorem Dens.append {ds es : List D} : ∀ {vs ws : List V}, Dens G rho H ds vs → Dens G rho H es ws → Dens G rho H (ds ++ es) (vs ++ ws) := by
  induction ds with
  | nil => intro vs ws h q; rw [Dens] at h; subst h; exact q
  | cons d ds ih =>
    intro vs ws h q
    rw [Dens] at h
    obtain ⟨v, r, rfl, a, b⟩ := h
    show Dens G rho H (d :: (ds ++ es)) _
    rw [Dens]
    exact ⟨v, r ++ ws, rfl, a, ih b q⟩
theorem Dens.get {ds : List D} : ∀ {vs : List V} {i : Nat} {d : D}, Dens G rho H ds vs → ds[i]? = some d → ∃ v, vs[i]? = some v ∧ Den G rho H d v := by
  induction ds with
  | nil => intro vs i d h e; simp at e
  | cons x ds ih =>
    intro vs i d h e
    rw [Dens] at h
    obtain ⟨v, r, rfl, a, b⟩ := h
    cases i with
    | zero => simp at e; subst e; exact ⟨v, rfl, a⟩
    | succ i =>
      obtain ⟨w, e1, e2⟩ := ih b (by simpa using e)
      exact ⟨w, by simpa using e1, e2⟩
mutual
def bel (n : Nat) : D → Bool
  | .ref i => decide (i < n)
  | .tup ds => bels n ds
  | .wtp ds => bels n ds
  | .lst ds => bels n ds
  | .non => true
  | .bl _ => true
  | .int _ => true
  | .str _ => true
  | .glb _ => true
  | .scr _ => true
  | .dct ks ds => bels n ks && bels n ds
def bels (n : Nat) : List D → Bool
  | [] => true
  | d :: ds => bel n d && bels n ds
end
mutual
theorem Den.bel : ∀ (d : D) (v : V), Den G rho H d v → bel rho.at_.length d = true
  | .non, _, _ => rfl
  | .bl _, _, _ => rfl
  | .int _, _, _ => rfl
  | .str _, _, _ => rfl
  | .tup ds, v, h => by
    rw [Den] at h
    obtain ⟨a, vs, _, _, _, q⟩ := h
    rw [MR.bel]; exact Dens.bel ds vs q
  | .wtp ds, v, h => by
    rw [Den] at h
    obtain ⟨a, vs, _, _, _, q⟩ := h
    rw [MR.bel]; exact Dens.bel ds vs q
  | .lst ds, v, h => by
    rw [Den] at h
    obtain ⟨a, vs, _, _, _, _, _, q⟩ := h
    rw [MR.bel]; exact Dens.bel ds vs q
  | .ref i, v, h => by
    rw [Den] at h
    obtain ⟨a, e, _⟩ := h
    rw [MR.bel]; exact decide_eq_true (List.getElem?_eq_some_iff.mp e).1
  | .glb _, _, _ => rfl
  | .scr _, _, _ => rfl
  | .dct ks ds, v, h => by
    rw [Den] at h
    obtain ⟨a, xs, es, us, _, _, _, _, _, _, _, _, _, _, _, d1, d2⟩ := h
    rw [MR.bel, Dens.bel ks _ d1, Dens.bel ds us d2]; rfl
theorem Dens.bel : ∀ (ds : List D) (vs : List V), Dens G rho H ds vs → bels rho.at_.length ds = true
  | [], _, _ => rfl
  | d :: ds, vs, h => by
    rw [Dens] at h
    obtain ⟨v, r, _, a, b⟩ := h
    rw [MR.bels, Den.bel d v a, Dens.bel ds r b]; rfl
end
mutual
/-- fewer things that may change -/
theorem Den.res (h1 : ∃ e, rho'.at_ = rho.at_ ++ e) (h2 : ∀ a, a ∉ rho'.at_ → a ∉ rho'.res → a ∉ rho.res) : ∀ (d : D) (v : V), Den G rho' H d v → MR.bel rho.at_.length d = true → Den G rho H d v
  | .non, _, h, _ => h
  | .bl _, _, h, _ => h
  | .int _, _, h, _ => h
  | .str _, _, h, _ => h
  | .tup ds, v, h, b => by
    rw [Den] at h ⊢
    rw [MR.bel] at b
    obtain ⟨a, vs, e1, q, l, d⟩ := h
    exact ⟨a, vs, e1, q, l, Dens.res h1 h2 ds vs d b⟩
  | .wtp ds, v, h, b => by
    rw [Den] at h ⊢
    rw [MR.bel] at b
    obtain ⟨a, vs, e1, q, l, d⟩ := h
    exact ⟨a, vs, e1, q, l, Dens.res h1 h2 ds vs d b⟩
  | .lst ds, v, h, b => by
    rw [Den] at h ⊢
    rw [MR.bel] at b
    obtain ⟨a, vs, e1, q, n, n2, l, d⟩ := h
    obtain ⟨e, ee⟩ := h1
    exact ⟨a, vs, e1, q, fun hm => n (by rw [ee]; exact List.mem_append_left _ hm), h2 a n n2, l, Dens.res ⟨e, ee⟩ h2 ds vs d b⟩
  | .ref i, v, h, b => by
    rw [Den] at h ⊢
    rw [MR.bel] at b
    obtain ⟨a, e1, q⟩ := h
    obtain ⟨e, ee⟩ := h1
    rw [ee, List.getElem?_append_left (of_decide_eq_true b)] at e1
    exact ⟨a, e1, q⟩
  | .glb _, _, h, _ => h
  | .scr _, _, h, _ => h
  | .dct ks ds, v, h, b => by
    rw [Den] at h ⊢
    rw [MR.bel, Bool.and_eq_true] at b
    obtain ⟨a, xs, es, us, e1, q, n, n2, l1, l2, k1, k2, k3, k4, k5, d1, d2⟩ := h
    obtain ⟨e, ee⟩ := h1
    exact ⟨a, xs, es, us, e1, q, fun hm => n (by rw [ee]; exact List.mem_append_left _ hm), h2 a n n2, l1, l2, k1, k2, k3, k4, k5, Dens.res ⟨e, ee⟩ h2 ks _ d1 b.1, Dens.res ⟨e, ee⟩ h2 ds us d2 b.2⟩
theorem Dens.res (h1 : ∃ e, rho'.at_ = rho.at_ ++ e) (h2 : ∀ a, a ∉ rho'.at_ → a ∉ rho'.res → a ∉ rho.res) : ∀ (ds : List D) (vs : List V), Dens G rho' H ds vs → MR.bels rho.at_.length ds = true → Dens G rho H ds vs
  | [], _, h, _ => h
  | d :: ds, vs, h, b => by
    rw [Dens] at h ⊢
    rw [MR.bels, Bool.and_eq_true] at b
    obtain ⟨v, r, e1, x, y⟩ := h
    exact ⟨v, r, e1, Den.res h1 h2 d v x b.1, Dens.res h1 h2 ds r y b.2⟩
end
theorem Paired.and_left {α β : Type} {F : α → β → Prop} {q : α → Prop} : ∀ {l₁ : List α} {l₂ : List β}, Paired F l₁ l₂ → (∀ a b, F a b → q a) → ∀ a ∈ l₁, q a
  | _, _, .nil, _, _, h => nomatch h
  | _, _, .cons r t, f, a, h => by
    rcases List.mem_cons.mp h with e | h
    · rw [e]; exact f _ _ r
    · exact Paired.and_left t f a h
theorem Paired.strong {α β : Type} {F F' : α → β → Prop} {q : α → Prop} : ∀ {l₁ : List α} {l₂ : List β}, Paired F l₁ l₂ → (∀ a ∈ l₁, q a) → (∀ a b, q a → F a b → F' a b) → Paired F' l₁ l₂
  | _, _, .nil, _, _ => .nil
  | _, _, .cons r t, h, f => .cons (f _ _ (h _ List.mem_cons_self) r) (Paired.strong t (fun a m => h a (List.mem_cons_of_mem _ m)) f)
def O.bel (n : Nat) : O → Prop
  | .lst ds => bels n ds = true
  | .dK kvs => ∀ p ∈ kvs, MR.bel n p.2 = true
  | .dN kvs => ∀ p ∈ kvs, MR.bel n p.1 = true ∧ MR.bel n p.2 = true
  | .ins _ fs => ∀ p ∈ fs, MR.bel n p.2 = true
  | .exc _ => True
theorem ObD.bel {a : Addr} {o : O} (x : ObD G rho H a o) : O.bel rho.at_.length o := by
  cases o with
  | lst ds => obtain ⟨vs, _, _, q⟩ := x; exact Dens.bel _ _ q
  | dK kvs => obtain ⟨vs, _, _, q⟩ := x; exact Paired.and_left q fun p q r => Den.bel _ _ r.2
  | dN kvs => obtain ⟨xs, _, _, es, _, q, _⟩ := x; exact Paired.and_left q fun p q r => ⟨Den.bel _ _ r.2.1, let ⟨_, _, z⟩ := r.2.2; Den.bel _ _ z⟩
  | ins C fs => obtain ⟨c, dx, fvs, _, _, _, q⟩ := x; exact Paired.and_left q fun p q r => Den.bel _ _ r.2
  | exc x => exact True.intro
theorem ObD.res (h1 : ∃ e, rho'.at_ = rho.at_ ++ e) (h2 : ∀ a, a ∉ rho'.at_ → a ∉ rho'.res → a ∉ rho.res) {a : Addr} {o : O} (x : ObD G rho' H a o) (b : O.bel rho.at_.length o) : ObD G rho H a o := by
  cases o with
  | lst ds => obtain ⟨vs, h, l, q⟩ := x; exact ⟨vs, h, l, Dens.res h1 h2 _ _ q b⟩
  | dK kvs => obtain ⟨vs, h, l, q⟩ := x; exact ⟨vs, h, l, Paired.strong q b fun p q z r => ⟨r.1, Den.res h1 h2 _ _ r.2 z⟩⟩
  | dN kvs =>
    obtain ⟨xs, l0, l1, es, h, q, r⟩ := x
    exact ⟨xs, l0, l1, es, h, Paired.strong q b fun p q z r => ⟨r.1, Den.res h1 h2 _ _ r.2.1 z.1, let ⟨v, c, d⟩ := r.2.2; ⟨v, c, Den.res h1 h2 _ _ d z.2⟩⟩, r⟩
  | ins C fs => obtain ⟨c, dx, fvs, g, h, o, q⟩ := x; exact ⟨c, dx, fvs, g, h, o, Paired.strong q b fun p q z r => ⟨r.1, Den.res h1 h2 _ _ r.2 z⟩⟩
  | exc x => obtain ⟨c, d, q, e⟩ := x; exact ⟨c, d, q.turn fun a n n2 => ⟨fun hm => n (by obtain ⟨e, ee⟩ := h1; rw [ee]; exact List.mem_append_left _ hm), h2 a n n2⟩, e⟩
/-- what has been made is forgotten -/
theorem Rep.drop {hh g : Hh} (R0 : Rep G rho hh H) (S : Step rho H rho' H') (h1 : ∃ e, rho'.at_ = rho.at_ ++ e) (h2 : ∀ a, a ∉ rho'.at_ → a ∉ rho'.res → a ∉ rho.res) (R : Rep G rho' (hh ++ g) H') : Rep G rho hh H' :=
  ⟨R0.nd, fun a m => let ⟨o', e⟩ := R0.hd a m; S.there a o' e, R0.len, fun i a o e1 e2 => (R.ob i a o (by obtain ⟨e, ee⟩ := h1; rw [ee, List.getElem?_append_left (List.getElem?_eq_some_iff.mp e1).1]; exact e1) (by rw [List.getElem?_append_left (List.getElem?_eq_some_iff.mp e2).1]; exact e2)).res h1 h2 (R0.ob i a o e1 e2).bel⟩
/-- what was set apart is free -/
theorem Rep.free {hh : Hh} {res : List Addr} (R : Rep G rho hh H) (h : ∀ a, a ∈ res → a ∈ rho.res) : Rep G ⟨rho.at_, res⟩ hh H :=
  ⟨R.nd, fun a m => R.hd a (h a m), R.len, fun i a o e1 e2 => (R.ob i a o e1 e2).res (rho := ⟨rho.at_, res⟩) (rho' := rho) ⟨[], by simp⟩ (fun a _ n hm => n (h a hm)) (R.ob i a o e1 e2).bel⟩
/-- a dict's keys and values -/
theorem dn_split {kvs : List (D × D)} {xs : List (NestedKey × Addr × Value)} (h : Paired (fun (p : D × D) (q : NestedKey × Addr × Value) => nk p.1 = some q.1 ∧ Den G rho H p.1 (.ref q.2.1) ∧ ∃ v, RelV v q.2.2 ∧ Den G rho H p.2 v) kvs xs) :
    ∃ us, nks (kvs.map (·.1)) = some (xs.map (·.1)) ∧ Vals us (xs.map (·.2.2)) ∧ Dens G rho H (kvs.map (·.1)) (xs.map fun x => V.ref x.2.1) ∧ Dens G rho H (kvs.map (·.2)) us := by
  induction h with
  | nil => exact ⟨[], rfl, .nil, rfl, rfl⟩
  | @cons p q ps qs r t ih =>
    obtain ⟨us, a, b, c, d⟩ := ih
    obtain ⟨r1, r2, v, r3, r4⟩ := r
    refine ⟨v :: us, ?_, .cons r3 b, ?_, ?_⟩
    · rw [List.map_cons, nks, r1, a]; rfl
    · rw [List.map_cons, List.map_cons, Dens]; exact ⟨_, _, rfl, r2, c⟩
    · rw [List.map_cons, Dens]; exact ⟨_, _, rfl, r4, d⟩
end
end MR

namespace MR
open PySem PySem.Spec PyProof.Rows L2

section
variable {α β : Type}
def PostE (G : Gm) (Rl : Rm → Hp → α → β → Prop) (W : XK) (rho : Rm) (H : Hp) (r : Res α) (Q : β → Hp → Prop) : Prop :=
  match r with
  | .ok a hh => ∀ rho' H' b, Step rho H rho' H' → Rep G rho' hh H' → Rl rho' H' a b → Q b H'
  | .err x hh => ∀ rho' H' c d, Step rho H rho' H' → Rep G rho' hh H' → ExD G rho' H' x c d → W c d H'
  | .stuck => False
variable {G : Gm} {Rl : Rm → Hp → α → β → Prop} {W : XK} {rho rho' : Rm} {H H' : Hp} {Q Q' : β → Hp → Prop}
theorem PostE.start {r : Res α} (h : PostE G Rl W rho H r Q) (S : Step rho H rho' H') : PostE G Rl W rho' H' r Q := by
  cases r with
  | ok a hh => exact fun rho2 H2 b S2 R2 q => h rho2 H2 b (S.trans S2) R2 q
  | err x hh => exact fun rho2 H2 c d S2 R2 q => h rho2 H2 c d (S.trans S2) R2 q
  | stuck => exact h
end

abbrev Cx.gm (X : Cx) : Gm := ⟨X.prog, X.w, X.K⟩

abbrev wAt (W : WX) (σ : L2.St) : XK := fun c d H => W c d σ H
def TD (G : Gm) (W : WX) (m : ME) : TE := fun σ H Q => ∃ rho env hh, Rep G rho hh H ∧ EnvD G rho H env σ ∧ PostE G (Den G) (wAt W σ) rho H (m env hh) Q
def TDt (G : Gm) (W : WX) (m : MT) : TT := fun σ H Q => ∃ rho env hh, Rep G rho hh H ∧ EnvD G rho H env σ ∧ PostE G (fun _ _ a b => a = b) (wAt W σ) rho H (m env hh) Q
def TDa (G : Gm) (W : WX) (m : MA) : TA := fun σ H Q => ∃ rho env hh, Rep G rho hh H ∧ EnvD G rho H env σ ∧ PostE G (Dens G) (wAt W σ) rho H (m env hh) Q
/-- a new list: it stands apart -/
def TDl (G : Gm) (W : WX) (m : MA) : TE := fun σ H Q => ∃ rho env hh, Rep G rho hh H ∧ EnvD G rho H env σ ∧
  match m env hh with
  | .ok ds hh' => ∀ rho' H' p vs, Step rho H rho' H' → Rep G rho' hh' H' → H' p = some (.lst vs) → p ∈ rho'.res → p ∉ rho'.at_ → H p = none → vs.length ≤ sizeLine → Dens G rho' H' ds vs → Q (.ref p) H'
  | .err x hh' => ∀ rho' H' c d, Step rho H rho' H' → Rep G rho' hh' H' → ExD G rho' H' x c d → W c d σ H'
  | .stuck => False

structure DE (X : Cx) (e : Expr) (m : ME) : Prop where
  run : ∀ W, Takes X W → PE X e (TD (Cx.gm X) W m)
structure DT (X : Cx) (e : Expr) (m : MT) : Prop where
  run : ∀ W, Takes X W → PT X e (TDt (Cx.gm X) W m)
structure DW (X : Cx) (e : Expr) (m : MT) : Prop where
  run : ∀ W, Takes X W → PW X e (TDt (Cx.gm X) W m)
structure DA (X : Cx) (es : List Expr) (m : MA) : Prop where
  run : ∀ W, Takes X W → PA X es (TDa (Cx.gm X) W m)
structure DL (X : Cx) (e : Expr) (m : MA) : Prop where
  run : ∀ W, Takes X W → PE X e (TDl (Cx.gm X) W m)

theorem pe_weak {X : Cx} {e : Expr} {t t' : TE} (h : PE X e t) (i : ∀ σ H Q, t' σ H Q → t σ H Q) : PE X e t' := ⟨fun pins s σ H Q I q => h.run pins s σ H Q I (i σ H Q q)⟩
theorem pt_weak {X : Cx} {e : Expr} {t t' : TT} (h : PT X e t) (i : ∀ σ H Q, t' σ H Q → t σ H Q) : PT X e t' := ⟨fun pins s σ H Q I q => h.run pins s σ H Q I (i σ H Q q)⟩
theorem pw_weak {X : Cx} {e : Expr} {t t' : TT} (h : PW X e t) (i : ∀ σ H Q, t' σ H Q → t σ H Q) : PW X e t' := ⟨fun wh pins s σ H Q I q => h.run wh pins s σ H Q I (i σ H Q q)⟩
theorem pa_weak {X : Cx} {e : List Expr} {t t' : TA} (h : PA X e t) (i : ∀ σ H Q, t' σ H Q → t σ H Q) : PA X e t' := ⟨fun pos pins s σ H Q I q => h.run pos pins s σ H Q I (i σ H Q q)⟩

section
variable {α β : Type} {G : Gm} {W : WX} {σ : L2.St} {H : Hp} {Rl : Rm → Hp → α → β → Prop} {Q : β → Hp → Prop}
/-- the state at a place, and what is wanted from there -/
def At (G : Gm) (W : WX) (σ : L2.St) (H : Hp) (Rl : Rm → Hp → α → β → Prop) (Q : β → Hp → Prop) (f : DEnv → Hh → Res α) : Prop :=
  ∃ rho env hh, Rep G rho hh H ∧ EnvD G rho H env σ ∧ PostE G Rl (wAt W σ) rho H (f env hh) Q
theorem At.seq {m : ME} {f : DEnv → D → Hh → Res α} (h : At G W σ H Rl Q fun env hh => (m env hh).bind (f env)) :
    TD G W m σ H fun v H1 => ∃ rho env hh d, Rep G rho hh H1 ∧ EnvD G rho H1 env σ ∧ Den G rho H1 d v ∧ PostE G Rl (wAt W σ) rho H1 (f env d hh) Q := by
  obtain ⟨rho, env, hh, R, E, p⟩ := h
  refine ⟨rho, env, hh, R, E, ?_⟩
  have p : PostE G Rl (wAt W σ) rho H ((m env hh).bind (f env)) Q := p
  cases e : m env hh with
  | ok d hh1 =>
    rw [e, bind_ok] at p
    exact fun rho1 H1 v S R1 q => ⟨rho1, env, hh1, d, R1, E.step R S, q, p.start S⟩
  | err x hh1 => rw [e, bind_err] at p; exact p
  | stuck => rw [e, bind_stuck] at p; exact p
theorem At.seqT {m : MT} {f : DEnv → Bool → Hh → Res α} (h : At G W σ H Rl Q fun env hh => (m env hh).bind (f env)) :
    TDt G W m σ H fun b H1 => At G W σ H1 Rl Q fun env hh => f env b hh := by
  obtain ⟨rho, env, hh, R, E, p⟩ := h
  refine ⟨rho, env, hh, R, E, ?_⟩
  have p : PostE G Rl (wAt W σ) rho H ((m env hh).bind (f env)) Q := p
  cases e : m env hh with
  | ok d hh1 =>
    rw [e, bind_ok] at p
    exact fun rho1 H1 v S R1 q => ⟨rho1, env, hh1, R1, E.step R S, by subst q; exact p.start S⟩
  | err x hh1 => rw [e, bind_err] at p; exact p
  | stuck => rw [e, bind_stuck] at p; exact p
theorem At.seqA {m : MA} {f : DEnv → List D → Hh → Res α} (h : At G W σ H Rl Q fun env hh => (m env hh).bind (f env)) :
    TDa G W m σ H fun vs H1 => ∃ rho env hh ds, Rep G rho hh H1 ∧ EnvD G rho H1 env σ ∧ Dens G rho H1 ds vs ∧ PostE G Rl (wAt W σ) rho H1 (f env ds hh) Q := by
  obtain ⟨rho, env, hh, R, E, p⟩ := h
  refine ⟨rho, env, hh, R, E, ?_⟩
  have p : PostE G Rl (wAt W σ) rho H ((m env hh).bind (f env)) Q := p
  cases e : m env hh with
  | ok d hh1 =>
    rw [e, bind_ok] at p
    exact fun rho1 H1 v S R1 q => ⟨rho1, env, hh1, d, R1, E.step R S, q, p.start S⟩
  | err x hh1 => rw [e, bind_err] at p; exact p
  | stuck => rw [e, bind_stuck] at p; exact p
/-- one more, what is known of a first value kept -/
theorem At.seq2 {m : ME} {f : DEnv → D → D → Hh → Res α} {v1 : V} (h : ∃ rho env hh d, Rep G rho hh H ∧ EnvD G rho H env σ ∧ Den G rho H d v1 ∧ PostE G Rl (wAt W σ) rho H ((m env hh).bind (f env d)) Q) :
    TD G W m σ H fun v H1 => ∃ rho env hh d1 d2, Rep G rho hh H1 ∧ EnvD G rho H1 env σ ∧ Den G rho H1 d1 v1 ∧ Den G rho H1 d2 v ∧ PostE G Rl (wAt W σ) rho H1 (f env d1 d2 hh) Q := by
  obtain ⟨rho, env, hh, d1, R, E, q1, p⟩ := h
  refine ⟨rho, env, hh, R, E, ?_⟩
  cases e : m env hh with
  | ok d hh1 =>
    rw [e, bind_ok] at p
    exact fun rho1 H1 v S R1 q => ⟨rho1, env, hh1, d1, d, R1, E.step R S, Den.step R S _ _ q1, q, p.start S⟩
  | err x hh1 => rw [e, bind_err] at p; exact p
  | stuck => rw [e, bind_stuck] at p; exact p
theorem At.seq2A {m : MA} {f : DEnv → D → List D → Hh → Res α} {v1 : V} (h : ∃ rho env hh d, Rep G rho hh H ∧ EnvD G rho H env σ ∧ Den G rho H d v1 ∧ PostE G Rl (wAt W σ) rho H ((m env hh).bind (f env d)) Q) :
    TDa G W m σ H fun vs H1 => ∃ rho env hh d1 ds, Rep G rho hh H1 ∧ EnvD G rho H1 env σ ∧ Den G rho H1 d1 v1 ∧ Dens G rho H1 ds vs ∧ PostE G Rl (wAt W σ) rho H1 (f env d1 ds hh) Q := by
  obtain ⟨rho, env, hh, d1, R, E, q1, p⟩ := h
  refine ⟨rho, env, hh, R, E, ?_⟩
  cases e : m env hh with
  | ok d hh1 =>
    rw [e, bind_ok] at p
    exact fun rho1 H1 v S R1 q => ⟨rho1, env, hh1, d1, d, R1, E.step R S, Den.step R S _ _ q1, q, p.start S⟩
  | err x hh1 => rw [e, bind_err] at p; exact p
  | stuck => rw [e, bind_stuck] at p; exact p
theorem At.seq3 {m : ME} {f : DEnv → D → D → D → Hh → Res α} {v1 v2 : V} (h : ∃ rho env hh d1 d2, Rep G rho hh H ∧ EnvD G rho H env σ ∧ Den G rho H d1 v1 ∧ Den G rho H d2 v2 ∧ PostE G Rl (wAt W σ) rho H ((m env hh).bind (f env d1 d2)) Q) :
    TD G W m σ H fun v H1 => ∃ rho env hh d1 d2 d3, Rep G rho hh H1 ∧ EnvD G rho H1 env σ ∧ Den G rho H1 d1 v1 ∧ Den G rho H1 d2 v2 ∧ Den G rho H1 d3 v ∧ PostE G Rl (wAt W σ) rho H1 (f env d1 d2 d3 hh) Q := by
  obtain ⟨rho, env, hh, d1, d2, R, E, q1, q2, p⟩ := h
  refine ⟨rho, env, hh, R, E, ?_⟩
  cases e : m env hh with
  | ok d hh1 =>
    rw [e, bind_ok] at p
    exact fun rho1 H1 v S R1 q => ⟨rho1, env, hh1, d1, d2, d, R1, E.step R S, Den.step R S _ _ q1, Den.step R S _ _ q2, q, p.start S⟩
  | err x hh1 => rw [e, bind_err] at p; exact p
  | stuck => rw [e, bind_stuck] at p; exact p
/-- the end: a value that stands -/
theorem PostE.val {Wk : XK} {rho : Rm} {hh : Hh} {a : α} {b : β} (h : PostE G Rl Wk rho H (.ok a hh) Q) (R : Rep G rho hh H) (r : Rl rho H a b) : Q b H := h rho H b .refl R r
end

section
variable {X : Cx}
def eSlot (i : Nat) : ME := fun env h => match env[i]? with
  | some (some d) => .ok d h
  | _ => .stuck
def eC (d : D) : ME := fun _ h => .ok d h
theorem de_slot (i : Nat) {x : Str} {pos : Pos} (hN : X.N[i]? = some x := by rfl) (hv : Vis X.env.scope x := by first | exact Or.inl rfl | exact Or.inr (Or.inl rfl) | exact Or.inr (Or.inr rfl)) (hd : (x == ("__debug__" : Str)) = false := by decide)
    (hcd : (x == ("__classdict__" : Str)) = false := by decide) : DE X (.Name x pos) (eSlot i) := ⟨fun W _ => pe_weak (pe_var (i := i) hN hv hd hcd) fun σ H Q h => by
  obtain ⟨rho, env, hh, R, E, p⟩ := h
  unfold eSlot at p
  split at p
  · rename_i d e
    obtain ⟨v, e1, q⟩ := E.2 i d e
    exact ⟨v, e1, p.val R q⟩
  · exact p.elim⟩
theorem de_const {e : Expr} {v : V} {d : D} (h : PE X e (tC v)) (q : ∀ G rho H, Den G rho H d v) : DE X e (eC d) := ⟨fun W _ => pe_weak h fun σ H Q h => by
  obtain ⟨rho, env, hh, R, E, p⟩ := h
  exact p.val (b := v) R (q _ _ _)⟩
theorem de_int {i j pos} : DE X (.Constant (.int i) j pos) (eC (.int i)) := de_const pe_int fun _ _ _ => rfl
theorem de_bl {b j pos} : DE X (.Constant (.bool b) j pos) (eC (.bl b)) := de_const pe_bl fun _ _ _ => rfl
theorem de_non {j pos} : DE X (.Constant .none j pos) (eC .non) := de_const pe_non fun _ _ _ => rfl
theorem de_str {x j pos} : DE X (.Constant (.str x) j pos) (eC (.str x)) := de_const pe_str fun _ _ _ => rfl
theorem de_glbD {x : Str} {v : V} {d : D} {u : Value} {pos : Pos} (hg : Gl X x) (hm : X.mg x = some u) (r : RelV v u) (q : ∀ rho H, Den (Cx.gm X) rho H d v) (hd : (x == ("__debug__" : Str)) = false := by decide) : DE X (.Name x pos) (eC d) :=
  ⟨fun W _ => pe_weak (pe_glob hg hm r hd) fun σ H Q h => by
    obtain ⟨rho, env, hh, R, E, p⟩ := h
    exact p.val (b := v) R (q _ _)⟩
/-- a built-in's name as a value -/
theorem de_bltn {x : Str} {v : V} {u : Value} {pos : Pos} (hg : Gl X x) (hm : X.mg x = none) (hv : bootBuiltins x = some u) (r : RelV v u) (hn : x ≠ "__name__" := by decide) (hd : (x == ("__debug__" : Str)) = false := by decide) : DE X (.Name x pos) (eC (.glb v)) :=
  de_const (pe_bltn hg hm hv r hn hd) fun _ _ _ => rfl

abbrev Op2 := D → D → Hh → Option D
abbrev OpN := List D → Hh → Option D
def Rz2 (G : Gm) (r : R2) (op : Op2) : Prop := ∀ rho hh H d1 d2 v1 v2 d (Q : VK), Rep G rho hh H → Den G rho H d1 v1 → Den G rho H d2 v2 → op d1 d2 hh = some d →
  (∀ v H', Step rho H rho H' → Rep G rho hh H' → Den G rho H' d v → Q v H') → r v1 v2 H Q
def RzN (G : Gm) (r : List V → Hp → VK → Prop) (op : OpN) : Prop := ∀ rho hh H ds vs d (Q : VK), Rep G rho hh H → Dens G rho H ds vs → op ds hh = some d →
  (∀ v H', Step rho H rho H' → Rep G rho hh H' → Den G rho H' d v → Q v H') → r vs H Q
def eOp2 (f : Op2) (a b : ME) : ME := fun env h => (a env h).bind fun x h1 => (b env h1).bind fun y h2 => lift (f x y h2) h2
def eOpN (f : OpN) (as : MA) : ME := fun env h => (as env h).bind fun xs h1 => lift (f xs h1) h1
theorem tOp_of {G : Gm} {W : WX} {r : R2} {f : Op2} {ma mb : ME} {σ : L2.St} {H : Hp} {Q : VK} (z : Rz2 G r f) (h : TD G W (eOp2 f ma mb) σ H Q) : tOp r (TD G W ma) (TD G W mb) σ H Q := by
  have h1 := At.seq (m := ma) (f := fun env x h1 => (mb env h1).bind fun y h2 => lift (f x y h2) h2) h
  obtain ⟨rho, env, hh, R, E, p⟩ := h1
  refine ⟨rho, env, hh, R, E, ?_⟩
  cases e : ma env hh with
  | ok d hh1 =>
    rw [e] at p
    intro rho1 H1 v S R1 q
    have h2 := At.seq2 (m := mb) (f := fun env x y h2 => lift (f x y h2) h2) (p rho1 H1 v S R1 q)
    obtain ⟨rho2, env2, hh2, R2, E2, p2⟩ := h2
    refine ⟨rho2, env2, hh2, R2, E2, ?_⟩
    cases e2 : mb env2 hh2 with
    | ok d2 hh3 =>
      rw [e2] at p2
      intro rho3 H3 v3 S3 R3 q3
      obtain ⟨rho4, env4, hh4, x, y, R4, E4, qx, qy, p4⟩ := p2 rho3 H3 v3 S3 R3 q3
      cases o : f x y hh4 with
      | none => rw [show lift (f x y hh4) hh4 = .stuck by rw [o]; rfl] at p4; exact p4.elim
      | some dd =>
        rw [show lift (f x y hh4) hh4 = .ok dd hh4 by rw [o]; rfl] at p4
        exact z rho4 hh4 H3 x y v v3 dd Q R4 qx qy o fun w H' S' R' q' => p4 rho4 H' w S' R' q'
    | err x hh1 => rw [e2] at p2; exact p2
    | stuck => rw [e2] at p2; exact p2
  | err x hh1 => rw [e] at p; exact p
  | stuck => rw [e] at p; exact p
variable {a b : Expr} {ma mb : ME} {pos : Pos}
theorem de_op {op : Operator} {r : R2} {f : Op2} (ho : OpR X (binaryOp op) r) (z : Rz2 (Cx.gm X) r f) (ha : DE X a ma) (hb : DE X b mb) : DE X (.BinOp a op b pos) (eOp2 f ma mb) :=
  ⟨fun W tk => pe_weak (pe_op ho (ha.run W tk) (hb.run W tk)) fun σ H Q h => tOp_of z h⟩
theorem de_cmp {op : CmpOp} {r : R2} {f : Op2} (ho : OpR X (compareOp op) r) (z : Rz2 (Cx.gm X) r f) (ha : DE X a ma) (hb : DE X b mb) (hm : behindInMarks op b = false) : DE X (.Compare a [op] [b] pos) (eOp2 f ma mb) :=
  ⟨fun W tk => pe_weak (pe_cmpR ho (ha.run W tk) (hb.run W tk) hm) fun σ H Q h => tOp_of z h⟩
theorem de_ix {r : R2} {f : Op2} (hr : IxR X r) (z : Rz2 (Cx.gm X) r f) (ha : DE X a ma) (hb : DE X b mb) (hs : PlainIx b) : DE X (.Subscript a b pos) (eOp2 f ma mb) :=
  ⟨fun W tk => pe_weak (pe_ix hr (ha.run W tk) (hb.run W tk) hs) fun σ H Q h => tOp_of z h⟩

def aNil : MA := fun _ h => .ok [] h
def aCons (a : ME) (as : MA) : MA := fun env h => (a env h).bind fun x h1 => (as env h1).bind fun xs h2 => .ok (x :: xs) h2
theorem da_nil : DA X [] aNil := ⟨fun W _ => pa_weak pa_nil fun σ H Q h => by
  obtain ⟨rho, env, hh, R, E, p⟩ := h
  exact PostE.val (b := []) p R rfl⟩
variable {es : List Expr} {e : Expr} {m : ME} {ms : MA}
theorem da_cons (ha : DE X e m) (hr : DA X es ms) (hs : starEach (e :: es) X.env = (false, eval e X.env) :: starEach es X.env := by rfl) : DA X (e :: es) (aCons m ms) :=
  ⟨fun W tk => pa_weak (pa_cons (ha.run W tk) (hr.run W tk) hs) fun σ H Q h => by
    have h1 := At.seq (m := m) (f := fun env x h1 => (ms env h1).bind fun xs h2 => .ok (x :: xs) h2) h
    obtain ⟨rho, env, hh, R, E, p⟩ := h1
    refine ⟨rho, env, hh, R, E, ?_⟩
    cases e : m env hh with
    | ok d hh1 =>
      rw [e] at p
      intro rho1 H1 v S R1 q
      have h2 := At.seq2A (m := ms) (f := fun env x xs h2 => .ok (x :: xs) h2) (p rho1 H1 v S R1 q)
      obtain ⟨rho2, env2, hh2, R2, E2, p2⟩ := h2
      refine ⟨rho2, env2, hh2, R2, E2, ?_⟩
      cases e2 : ms env2 hh2 with
      | ok d2 hh3 =>
        rw [e2] at p2
        intro rho3 H3 vs S3 R3 q3
        obtain ⟨rho4, env4, hh4, x, xs, R4, E4, qx, qy, p4⟩ := p2 rho3 H3 vs S3 R3 q3
        exact PostE.val (b := v :: vs) p4 R4 ⟨v, vs, rfl, qx, qy⟩
      | err x hh1 => rw [e2] at p2; exact p2
      | stuck => rw [e2] at p2; exact p2
    | err x hh1 => rw [e] at p; exact p
    | stuck => rw [e] at p; exact p⟩
/-- the reading of arguments, then something else -/
theorem tA_of {G : Gm} {W : WX} {ms : MA} {α β : Type} {Rl : Rm → Hp → α → β → Prop} {f : DEnv → List D → Hh → Res α} {σ : L2.St} {H : Hp} {Q : β → Hp → Prop} {k : List V → Hp → Prop}
    (h : At G W σ H Rl Q fun env hh => (ms env hh).bind (f env))
    (hk : ∀ rho env hh H1 ds vs, Rep G rho hh H1 → EnvD G rho H1 env σ → Dens G rho H1 ds vs → PostE G Rl (wAt W σ) rho H1 (f env ds hh) Q → k vs H1) : TDa G W ms σ H k := by
  obtain ⟨rho, env, hh, R, E, p⟩ := At.seqA h
  refine ⟨rho, env, hh, R, E, ?_⟩
  cases e : ms env hh with
  | ok d hh1 =>
    rw [e] at p
    intro rho1 H1 v S R1 q
    obtain ⟨rho4, env4, hh4, ds, R4, E4, q4, p4⟩ := p rho1 H1 v S R1 q
    exact hk rho4 env4 hh4 H1 ds v R4 E4 q4 p4
  | err x hh1 => rw [e] at p; exact p
  | stuck => rw [e] at p; exact p
theorem tE_of {G : Gm} {W : WX} {m : ME} {α β : Type} {Rl : Rm → Hp → α → β → Prop} {f : DEnv → D → Hh → Res α} {σ : L2.St} {H : Hp} {Q : β → Hp → Prop} {k : V → Hp → Prop}
    (h : At G W σ H Rl Q fun env hh => (m env hh).bind (f env))
    (hk : ∀ rho env hh H1 d v, Rep G rho hh H1 → EnvD G rho H1 env σ → Den G rho H1 d v → PostE G Rl (wAt W σ) rho H1 (f env d hh) Q → k v H1) : TD G W m σ H k := by
  obtain ⟨rho, env, hh, R, E, p⟩ := At.seq h
  refine ⟨rho, env, hh, R, E, ?_⟩
  cases e : m env hh with
  | ok d hh1 =>
    rw [e] at p
    intro rho1 H1 v S R1 q
    obtain ⟨rho4, env4, hh4, ds, R4, E4, q4, p4⟩ := p rho1 H1 v S R1 q
    exact hk rho4 env4 hh4 H1 ds v R4 E4 q4 p4
  | err x hh1 => rw [e] at p; exact p
  | stuck => rw [e] at p; exact p
theorem tE2_of {G : Gm} {W : WX} {m : ME} {α β : Type} {Rl : Rm → Hp → α → β → Prop} {f : DEnv → D → D → Hh → Res α} {σ : L2.St} {H : Hp} {Q : β → Hp → Prop} {v1 : V} {d1 : D} {k : V → Hp → Prop}
    (h : ∃ rho env hh, Rep G rho hh H ∧ EnvD G rho H env σ ∧ Den G rho H d1 v1 ∧ PostE G Rl (wAt W σ) rho H ((m env hh).bind (f env d1)) Q)
    (hk : ∀ rho env hh H1 d2 v, Rep G rho hh H1 → EnvD G rho H1 env σ → Den G rho H1 d1 v1 → Den G rho H1 d2 v → PostE G Rl (wAt W σ) rho H1 (f env d1 d2 hh) Q → k v H1) : TD G W m σ H k := by
  obtain ⟨rho, env, hh, R, E, q1, p⟩ := h
  refine ⟨rho, env, hh, R, E, ?_⟩
  cases e : m env hh with
  | ok d hh1 =>
    rw [e, bind_ok] at p
    exact fun rho1 H1 v S R1 q => hk rho1 env hh1 H1 d v R1 (E.step R S) (Den.step R S _ _ q1) q (p.start S)
  | err x hh1 => rw [e, bind_err] at p; exact p
  | stuck => rw [e, bind_stuck] at p; exact p
theorem lift_post {α β : Type} {G : Gm} {Rl : Rm → Hp → α → β → Prop} {W : XK} {rho : Rm} {H : Hp} {o : Option α} {hh : Hh} {Q : β → Hp → Prop} (p : PostE G Rl W rho H (lift o hh) Q) : ∃ a, o = some a ∧ PostE G Rl W rho H (.ok a hh) Q := by
  cases o with
  | none => exact p.elim
  | some a => exact ⟨a, rfl, p⟩
theorem rz_of {G : Gm} {W : XK} {r : List V → Hp → VK → Prop} {f : OpN} {rho : Rm} {hh : Hh} {H : Hp} {ds : List D} {vs : List V} {Q : VK} (z : RzN G r f) (R : Rep G rho hh H) (q : Dens G rho H ds vs)
    (p : PostE G (Den G) W rho H (lift (f ds hh) hh) Q) : r vs H Q := by
  obtain ⟨d, e, p⟩ := lift_post p
  exact z rho hh H ds vs d Q R q e fun w H' S' R' q' => p rho H' w S' R' q'

/-- a built-in function called by its name -/
theorem de_callB {id : String} {x : Str} {p : Pos} {r : List V → Hp → VK → Prop} {f : OpN} (hc : CallR X (.builtin id) r) (z : RzN (Cx.gm X) r f) (hg : Gl X x) (hm : X.mg x = none) (hv : bootBuiltins x = some (.builtin id)) (ha : DA X (e :: es) ms)
    (hn : x ≠ "__name__" := by decide) (hdb : (x == ("__debug__" : Str)) = false := by decide) (he : starEach (e :: es) X.env = (false, eval e X.env) :: starEach es X.env := by rfl) (hpl : (backTo pos (starEach es X.env)).any (·.1) = false := by rfl) :
    DE X (.Call (.Name x p) (e :: es) [] pos) (eOpN f ms) :=
  ⟨fun W tk => pe_weak (pe_callB hc hg hm hv (ha.run W tk) hn hdb he hpl) fun σ H Q h => tA_of h fun rho env hh H1 ds vs R E q p => rz_of z R q p⟩
theorem de_callTy {T : String} {x : Str} {p : Pos} {r : List V → Hp → VK → Prop} {f : OpN} (hc : CallR X (.type T) r) (z : RzN (Cx.gm X) r f) (hg : Gl X x) (hm : X.mg x = none) (hv : bootBuiltins x = some (.type T)) (ha : DA X (e :: es) ms)
    (hn : x ≠ "__name__" := by decide) (hdb : (x == ("__debug__" : Str)) = false := by decide) (he : starEach (e :: es) X.env = (false, eval e X.env) :: starEach es X.env := by rfl) (hpl : (backTo pos (starEach es X.env)).any (·.1) = false := by rfl) :
    DE X (.Call (.Name x p) (e :: es) [] pos) (eOpN f ms) :=
  ⟨fun W tk => pe_weak (pe_callTy hc hg hm hv (ha.run W tk) hn hdb he hpl) fun σ H Q h => tA_of h fun rho env hh H1 ds vs R E q p => rz_of z R q p⟩

def eTup (ms : MA) : ME := fun env h => (ms env h).bind fun xs h1 => .ok (.tup xs) h1
theorem Den.tup_new {G : Gm} {rho : Rm} {hh : Hh} {H : Hp} {ds : List D} {vs : List V} {p : Addr} {o : Obj} (ho : o.dict = none) (R : Rep G rho hh H) (q : Dens G rho H ds vs) (l : vs.length ≤ sizeLine) (hp : H p = none) : Den G rho (upd H p (.frz o (.tup vs))) (.tup ds) (.ref p) := by
  rw [Den]
  exact ⟨p, vs, rfl, .inl ⟨o, upd_same, ho⟩, l, Dens.step R (.laid hp) _ _ q⟩
/-- a pair that a walk hands out -/
theorem Den.wtp_new {G : Gm} {rho : Rm} {hh : Hh} {H : Hp} {ds : List D} {vs : List V} {p : Addr} (R : Rep G rho hh H) (q : Dens G rho H ds vs) (l : vs.length ≤ sizeLine) (hp : H p = none) : Den G rho (upd H p (.tup vs)) (.wtp ds) (.ref p) := by
  rw [Den]
  exact ⟨p, vs, rfl, SqT.of upd_same, l, Dens.step R (.laid hp) _ _ q⟩
/-- a new tuple, and what it is -/
abbrev NewT (H : Hp) (ys : List V) (Q : VK) : Prop := ∀ (p : Addr) (o : Obj), H p = none → o.dict = none → Q (.ref p) (upd H p (.frz o (.tup ys)))
theorem inv_newT {X : Cx} {pins : List (Addr × Obj)} {σ : L2.St} {H : Hp} {s : Shared} (I : Inv X pins σ H s) {ys : List V} {its : List Value} (r : Vals ys its) (hz : ys.length ≤ sizeLine) {Q : VK} (q : NewT H ys Q) :
    EP X pins σ Q (.ref s.heap.objs.size) { s with heap := s.heap.push { cls := .type "tuple", data := .seq its.toArray } } :=
  ⟨.ref s.heap.objs.size, _, I.laid (t' := s.toks) (o := .frz { cls := .type "tuple", data := .seq its.toArray } (.tup ys)) (fun b ob q => Heap.get?_push_of_some _ q) (Nat.le_refl _) ⟨Heap.get?_push_size _ rfl, hz, its, r, IsTup.new _ _⟩, rfl, q _ _ (I.hok.fresh (Nat.le_refl _)) rfl⟩
def tTupF (t : TA) : TE := fun σ H Q => t σ H fun xs H1 => xs.length ≤ sizeLine ∧ NewT H1 xs Q
theorem pe_tupF {X : Cx} {es : List Expr} {t : TA} {x1} {pos : Pos} (h : PA X es t) : PE X (.Tuple es x1 pos) (tTupF t) :=
  ⟨fun pins s σ H Q I hq => wpAny_Tuple_spliced (thn (h.run pos pins s σ H _ I hq) fun us s1 ⟨xs, H1, I1, r, z, q⟩ => ⟨by rw [← r.length]; exact z, inv_newT I1 r z q⟩)⟩
/-- so many arguments -/
structure DAn (X : Cx) (es : List Expr) (n : Nat) (m : MA) : Prop where
  da : DA X es m
  n : ∀ env h ds h', m env h = .ok ds h' → ds.length = n
theorem dan_nil : DAn X [] 0 aNil := ⟨da_nil, fun _ _ _ _ h => by cases h; rfl⟩
theorem dan_cons {n : Nat} (ha : DE X e m) (hr : DAn X es n ms) (hs : starEach (e :: es) X.env = (false, eval e X.env) :: starEach es X.env := by rfl) : DAn X (e :: es) (n + 1) (aCons m ms) := ⟨da_cons ha hr.da hs, fun env h ds h' q => by
  unfold aCons at q
  cases e : m env h with
  | ok d h1 =>
    rw [e, bind_ok] at q
    cases e2 : ms env h1 with
    | ok xs h2 =>
      rw [e2, bind_ok] at q
      cases q
      simp [hr.n _ _ _ _ e2]
    | err x h2 => rw [e2] at q; cases q
    | stuck => rw [e2] at q; cases q
  | err x h2 => rw [e] at q; cases q
  | stuck => rw [e] at q; cases q⟩
theorem de_tup {x1} {n : Nat} (h : DAn X es n ms) (hn : n ≤ sizeLine := by decide) : DE X (.Tuple es x1 pos) (eTup ms) :=
  ⟨fun W tk => pe_weak (pe_tupF (h.da.run W tk)) fun σ H Q hq => by
    obtain ⟨rho, env, hh, R, E, p⟩ := hq
    refine ⟨rho, env, hh, R, E, ?_⟩
    unfold eTup at p
    cases e : ms env hh with
    | ok ds hh1 =>
      rw [e, bind_ok] at p
      intro rho1 H1 vs S R1 q
      have hl : vs.length ≤ sizeLine := by rw [← q.length, h.n _ _ _ _ e]; exact hn
      exact ⟨hl, fun pp o hp ho => p rho1 _ _ (S.trans (.laid hp)) (R1.laid hp) (Den.tup_new ho R1 q hl hp)⟩
    | err x hh1 => rw [e] at p; exact p
    | stuck => rw [e] at p; exact p⟩
/-- a list that is laid anew, beside -/
theorem new_list {G : Gm} {rho rho' : Rm} {hh : Hh} {H H' : Hp} {ds : List D} {vs : List V} {p : Addr} (S : Step rho H rho' H') (R : Rep G rho' hh H') (q : Dens G rho' H' ds vs) (hp : H' p = none) :
    Step rho H (rho'.hold p) (upd H' p (.lst vs)) ∧ Rep G (rho'.hold p) hh (upd H' p (.lst vs)) ∧ p ∉ rho'.at_ ∧ Dens G (rho'.hold p) (upd H' p (.lst vs)) ds vs := by
  refine ⟨S.trans (.laidR hp), ?_, fun hm => ?_, Dens.step R (.laidR hp) _ _ q⟩
  · exact ⟨R.nd, fun a m => by
      rcases List.mem_cons.mp m with e | m
      · rw [e]; exact ⟨_, upd_same⟩
      · obtain ⟨o', e⟩ := R.hd a m
        exact ⟨o', by rw [upd_ne (ne_of_none e hp)]; exact e⟩, R.len, fun i a o' e1 e2 => (R.ob i a o' e1 e2).step R (.laidR hp) (fun u q => by rw [upd_ne (ne_of_none q hp)]; exact q) fun dx q => by rw [upd_ne (ne_of_none q hp)]; exact q⟩
  · obtain ⟨u, e, _⟩ := R.mut hm
    rw [hp] at e; cases e
/-- [a, b, ..]: a new list -/
theorem dl_lst {n : Nat} (h : DAn X es n ms) (hn : n ≤ sizeLine := by decide) : DL X (.List es pos) ms :=
  ⟨fun W tk => pe_weak (pe_lst (h.da.run W tk)) fun σ H Q hq => by
    obtain ⟨rho, env, hh, R, E, p⟩ := hq
    refine ⟨rho, env, hh, R, E, ?_⟩
    cases e : ms env hh with
    | ok ds hh1 =>
      rw [e] at p
      intro rho1 H1 vs S R1 q
      have hl : vs.length ≤ sizeLine := by rw [← q.length, h.n _ _ _ _ e]; exact hn
      refine ⟨hl, fun pp hp => ?_⟩
      obtain ⟨a, b, c, d⟩ := new_list S R1 q hp
      exact p _ _ pp vs a b upd_same List.mem_cons_self c (S.back hp) hl d
    | err x hh1 => rw [e] at p; exact p
    | stuck => rw [e] at p; exact p⟩
/-- a new list that never changes -/
def eFrz (ms : MA) : ME := fun env h => (ms env h).bind fun xs h1 => .ok (.lst xs) h1
theorem frz_of {G : Gm} {W : WX} {σ : L2.St} {H : Hp} {Q : VK} (hq : TD G W (eFrz ms) σ H Q) : TDl G W ms σ H Q := by
  obtain ⟨rho, env, hh, R, E, p⟩ := hq
  refine ⟨rho, env, hh, R, E, ?_⟩
  unfold eFrz at p
  cases e : ms env hh with
  | ok ds hh1 =>
    rw [e, bind_ok] at p
    intro rho1 H1 pp vs S R1 hp hr ha hn hl q
    -- all that was set apart but pp, and is still so
    have R2 := R1.free (res := rho1.res.filter (fun a => decide (a ≠ pp))) (fun a h => (List.mem_filter.mp h).1)
    refine p ⟨rho1.at_, rho1.res.filter (fun a => decide (a ≠ pp))⟩ H1 _ ⟨S.ext, fun a h => S.new a (List.mem_filter.mp h).1, fun a h => List.mem_filter.mpr ⟨S.kept a h, by
      obtain ⟨o', e⟩ := R.hd a h
      exact decide_eq_true (ne_of_none e hn)⟩, S.keep, S.there⟩ R2 ?_
    rw [Den]
    refine ⟨pp, vs, rfl, hp, ha, fun hm => by simp at hm, hl, ?_⟩
    exact Dens.res (rho' := rho1) ⟨[], by simp⟩ (fun a _ n hm => n (List.mem_filter.mp hm).1) _ _ q (show bels rho1.at_.length ds = true from Dens.bel _ _ q)
  | err x hh1 => rw [e] at p; exact p
  | stuck => rw [e] at p; exact p
theorem de_frz (h : DL X e ms) : DE X e (eFrz ms) := ⟨fun W tk => pe_weak (h.run W tk) fun σ H Q hq => frz_of hq⟩
/-- a new list that may change -/
def eNew (ms : MA) : ME := fun env h => (ms env h).bind fun xs h1 => .ok (.ref h1.length) (h1 ++ [.lst xs])
mutual
theorem den_turn {G : Gm} {rho rho' : Rm} {H : Hp} (h1 : ∀ (i : Nat) a, rho.at_[i]? = some a → rho'.at_[i]? = some a) (h2 : ∀ a, a ∉ rho.at_ → a ∉ rho.res → a ∉ rho'.at_ ∧ a ∉ rho'.res) : ∀ (d : D) (v : V), Den G rho H d v → Den G rho' H d v
  | .non, _, h => h
  | .bl _, _, h => h
  | .int _, _, h => h
  | .str _, _, h => h
  | .tup ds, v, h => by
    rw [Den] at h ⊢
    obtain ⟨a, vs, e, q, l, ds'⟩ := h
    exact ⟨a, vs, e, q, l, dens_turn h1 h2 ds vs ds'⟩
  | .wtp ds, v, h => by
    rw [Den] at h ⊢
    obtain ⟨a, vs, e, q, l, ds'⟩ := h
    exact ⟨a, vs, e, q, l, dens_turn h1 h2 ds vs ds'⟩
  | .lst ds, v, h => by
    rw [Den] at h ⊢
    obtain ⟨a, vs, e, q, n, n2, l, ds'⟩ := h
    exact ⟨a, vs, e, q, (h2 a n n2).1, (h2 a n n2).2, l, dens_turn h1 h2 ds vs ds'⟩
  | .ref i, v, h => by
    rw [Den] at h ⊢
    obtain ⟨a, e, q⟩ := h
    exact ⟨a, h1 i a e, q⟩
  | .glb _, _, h => h
  | .scr _, _, h => h
  | .dct ks ds, v, h => by
    rw [Den] at h ⊢
    obtain ⟨a, xs, es, us, e, q, n, n2, l1, l2, k1, k2, k3, k4, k5, d1, d2⟩ := h
    exact ⟨a, xs, es, us, e, q, (h2 a n n2).1, (h2 a n n2).2, l1, l2, k1, k2, k3, k4, k5, dens_turn h1 h2 ks _ d1, dens_turn h1 h2 ds us d2⟩
theorem dens_turn {G : Gm} {rho rho' : Rm} {H : Hp} (h1 : ∀ (i : Nat) a, rho.at_[i]? = some a → rho'.at_[i]? = some a) (h2 : ∀ a, a ∉ rho.at_ → a ∉ rho.res → a ∉ rho'.at_ ∧ a ∉ rho'.res) : ∀ (ds : List D) (vs : List V), Dens G rho H ds vs → Dens G rho' H ds vs
  | [], _, h => h
  | d :: ds, vs, h => by
    rw [Dens] at h ⊢
    obtain ⟨v, r, e, a, b⟩ := h
    exact ⟨v, r, e, den_turn h1 h2 d v a, dens_turn h1 h2 ds r b⟩
end
theorem obd_turn {G : Gm} {rho rho' : Rm} {H : Hp} (h1 : ∀ (i : Nat) a, rho.at_[i]? = some a → rho'.at_[i]? = some a) (h2 : ∀ a, a ∉ rho.at_ → a ∉ rho.res → a ∉ rho'.at_ ∧ a ∉ rho'.res) {a : Addr} {o : O} (x : ObD G rho H a o) : ObD G rho' H a o := by
  cases o with
  | lst ds => obtain ⟨vs, e, l, q⟩ := x; exact ⟨vs, e, l, dens_turn h1 h2 ds vs q⟩
  | dK kvs => obtain ⟨vs, e, l, q⟩ := x; exact ⟨vs, e, l, Paired.mapP q fun p q r => ⟨r.1, den_turn h1 h2 _ _ r.2⟩⟩
  | dN kvs =>
    obtain ⟨xs, l0, l1, es, e, q, r⟩ := x
    exact ⟨xs, l0, l1, es, e, Paired.mapP q fun p q r => ⟨r.1, den_turn h1 h2 _ _ r.2.1, let ⟨v, a, b⟩ := r.2.2; ⟨v, a, den_turn h1 h2 _ _ b⟩⟩, r⟩
  | ins C fs => obtain ⟨c, dx, fvs, g, e, o, q⟩ := x; exact ⟨c, dx, fvs, g, e, o, Paired.mapP q fun p q r => ⟨r.1, den_turn h1 h2 _ _ r.2⟩⟩
  | exc x => obtain ⟨c, d, q, e⟩ := x; exact ⟨c, d, q.turn h2, e⟩
/-- what is set apart becomes one that may change -/
theorem Rep.turn {G : Gm} {rho : Rm} {H : Hp} {hh : Hh} {p : Addr} {ob : O} (R : Rep G rho hh H) (hr : p ∈ rho.res) (ha : p ∉ rho.at_) (new : ObD G rho H p ob) : Rep G (rho.add p) (hh ++ [ob]) H := by
  have h1 : ∀ (i : Nat) a, rho.at_[i]? = some a → (rho.add p).at_[i]? = some a := fun i a e => by
    show (rho.at_ ++ [p])[i]? = some a
    rw [List.getElem?_append_left (List.getElem?_eq_some_iff.mp e).1]; exact e
  have h2 : ∀ a, a ∉ rho.at_ → a ∉ rho.res → a ∉ (rho.add p).at_ ∧ a ∉ (rho.add p).res := fun a n n2 => ⟨fun hm => by
    rcases List.mem_append.mp (show a ∈ rho.at_ ++ [p] from hm) with h | h
    · exact n h
    · simp at h; subst h; exact n2 hr, n2⟩
  refine ⟨?_, R.hd, by simp [Rm.add, R.len], fun i a o' e1 e2 => ?_⟩
  · show (rho.at_ ++ [p]).Nodup
    rw [List.nodup_append]
    exact ⟨R.nd, by simp, fun x hx y hy e => ha (by simp at hy; subst hy; exact e ▸ hx)⟩
  · have e1 : (rho.at_ ++ [p])[i]? = some a := e1
    by_cases hi : i < rho.at_.length
    · rw [List.getElem?_append_left hi] at e1
      rw [List.getElem?_append_left (by rw [← R.len]; exact hi)] at e2
      exact obd_turn h1 h2 (R.ob i a o' e1 e2)
    · have hl : i < (rho.at_ ++ [p]).length := (List.getElem?_eq_some_iff.mp e1).1
      have e : i = rho.at_.length := by simp at hl; omega
      subst e
      rw [List.getElem?_append_right (Nat.le_refl _)] at e1
      rw [R.len, List.getElem?_append_right (Nat.le_refl _)] at e2
      simp at e1 e2
      subst e1; subst e2
      exact obd_turn h1 h2 new
theorem Step.turn {rho rho' : Rm} {H H' : Hp} {p : Addr} (S : Step rho H rho' H') (h : H p = none) : Step rho H (rho'.add p) H' := by
  obtain ⟨e, ee, he⟩ := S.ext
  refine ⟨⟨e ++ [p], by show rho'.at_ ++ [p] = _; rw [ee, List.append_assoc], fun a hm => ?_⟩, S.new, S.kept, S.keep, S.there⟩
  rcases List.mem_append.mp hm with h1 | h1
  · exact he a h1
  · simp at h1; subst h1; exact h
theorem new_of {G : Gm} {W : WX} {σ : L2.St} {H : Hp} {Q : VK} (hq : TD G W (eNew ms) σ H Q) : TDl G W ms σ H Q := by
  obtain ⟨rho, env, hh, R, E, p⟩ := hq
  refine ⟨rho, env, hh, R, E, ?_⟩
  unfold eNew at p
  cases e : ms env hh with
  | ok ds hh1 =>
    rw [e, bind_ok] at p
    intro rho1 H1 pp vs S R1 hp hr ha hn hl q
    refine p _ _ _ (S.turn hn) (R1.turn hr ha ⟨vs, hp, hl, q⟩) ?_
    rw [Den]
    exact ⟨pp, by rw [← R1.len]; show (rho1.at_ ++ [pp])[_]? = _; rw [List.getElem?_append_right (Nat.le_refl _)]; simp, rfl⟩
  | err x hh1 => rw [e] at p; exact p
  | stuck => rw [e] at p; exact p
theorem de_new (h : DL X e ms) : DE X e (eNew ms) := ⟨fun W tk => pe_weak (h.run W tk) fun σ H Q hq => new_of hq⟩
end
end MR

namespace MR
open PySem PySem.Spec PyProof.Rows L2

def asB (d : D) : Option Bool := match d with | .bl b => some b | _ => none
theorem asB_some {d : D} {b : Bool} (h : asB d = some b) : d = .bl b := by
  cases d <;> simp [asB] at h
  subst h; rfl
def tE (m : ME) : MT := fun env h => (m env h).bind fun d h1 => lift (asB d) h1
def tAnd (a b : MT) : MT := fun env h => (a env h).bind fun k h1 => if k = true then b env h1 else .ok false h1
def tOr (a b : MT) : MT := fun env h => (a env h).bind fun k h1 => if k = true then .ok true h1 else b env h1
def tNot (a : MT) : MT := fun env h => (a env h).bind fun k h1 => .ok (!k) h1
def eAnd (a b : ME) : ME := fun env h => (a env h).bind fun d h1 => (lift (asB d) h1).bind fun k h2 => if k = true then b env h2 else .ok (.bl false) h2
def eOr (a b : ME) : ME := fun env h => (a env h).bind fun d h1 => (lift (asB d) h1).bind fun k h2 => if k = true then .ok (.bl true) h2 else b env h2
def eNot (a : ME) : ME := fun env h => (a env h).bind fun d h1 => (lift (asB d) h1).bind fun k h2 => .ok (.bl (!k)) h2
def eIf (t : MT) (a b : ME) : ME := fun env h => (t env h).bind fun k h1 => if k = true then a env h1 else b env h1
section
variable {X : Cx} {e a b : Expr} {m ma mb : ME} {ta tb : MT} {pos : Pos} {rest : List Expr}
theorem tB_of {G : Gm} {W : WX} {σ : L2.St} {H : Hp} {Q : Bool → Hp → Prop} (h : TDt G W (tE m) σ H Q) : TD G W m σ H fun x H1 => ∃ c, x = .bl c ∧ Q c H1 :=
  tE_of (Rl := fun _ _ a b => a = b) h fun rho env hh H1 d v R E q p => by
    obtain ⟨k, e, p⟩ := lift_post p
    have e := asB_some e
    subst e
    exact ⟨k, q, p.val R rfl⟩
theorem dt_val (h : DE X e m) (he : ∀ whole, isTrue e X.env whole = (do let v ← whole; standAt e.pos; holding [v] (truthy v)) := by intro _; rfl) : DT X e (tE m) :=
  ⟨fun W tk => pt_weak (pt_val (h.run W tk) he) fun σ H Q h => tB_of h⟩
theorem tTest_of {G : Gm} {W : WX} {r : R2} {f : Op2} {σ : L2.St} {H : Hp} {Q : Bool → Hp → Prop} (z : Rz2 G r f) (h : TDt G W (tE (eOp2 f ma mb)) σ H Q) : tTest (tOp r (TD G W ma) (TD G W mb)) σ H Q :=
  tOp_of (Q := fun x H' => ∃ k, x = .bl k ∧ Q k H') z (tB_of h)
theorem dt_cmp {op : CmpOp} {r : R2} {f : Op2} (ho : OpR X (compareOp op) r) (z : Rz2 (Cx.gm X) r f) (ha : DE X a ma) (hb : DE X b mb) (hm : behindInMarks op b = false) : DT X (.Compare a [op] [b] pos) (tE (eOp2 f ma mb)) :=
  ⟨fun W tk => pt_weak (pt_cmpR ho (ha.run W tk) (hb.run W tk) hm) fun σ H Q h => tTest_of z h⟩
theorem tSeq_of {α β : Type} {G : Gm} {W : WX} {m : MT} {Rl : Rm → Hp → α → β → Prop} {f : DEnv → Bool → Hh → Res α} {σ : L2.St} {H : Hp} {Q : β → Hp → Prop} {k : Bool → Hp → Prop}
    (h : At G W σ H Rl Q fun env hh => (m env hh).bind (f env)) (hk : ∀ b H1, At G W σ H1 Rl Q (fun env hh => f env b hh) → k b H1) : TDt G W m σ H k := by
  obtain ⟨rho, env, hh, R, E, p⟩ := At.seqT h
  refine ⟨rho, env, hh, R, E, ?_⟩
  cases e : m env hh with
  | ok d hh1 =>
    rw [e] at p
    intro rho1 H1 v S R1 q
    exact hk _ _ (p rho1 H1 v S R1 q)
  | err x hh1 => rw [e] at p; exact p
  | stuck => rw [e] at p; exact p
theorem dt_not (h : DT X a ta) : DT X (.UnaryOp .Not a pos) (tNot ta) :=
  ⟨fun W tk => pt_weak (pt_not (h.run W tk)) fun σ H Q h => tSeq_of h fun k H1 ⟨rho, env, hh, R, E, p⟩ => p.val R rfl⟩
theorem dw_or1 (h : DT X a ta) : DW X (.BoolOp .Or [a] pos) ta := ⟨fun W tk => pw_or1 (h.run W tk)⟩
theorem dw_or (h : DT X a ta) (hb : DW X (.BoolOp .Or (b :: rest) pos) tb) : DW X (.BoolOp .Or (a :: b :: rest) pos) (tOr ta tb) :=
  ⟨fun W tk => pw_weak (pw_or (h.run W tk) (hb.run W tk)) fun σ H Q h => tSeq_of h fun k H1 q => by
    cases k with
    | true =>
      obtain ⟨rho, env, hh, R, E, p⟩ := q
      exact p.val R rfl
    | false => exact q⟩
theorem dt_w (h : DW X a ta) : DT X a ta := ⟨fun W tk => PW.pt (h.run W tk)⟩
theorem de_one {op} (h : DE X a ma) : DE X (.BoolOp op [a] pos) ma := ⟨fun W tk => pe_one (h.run W tk)⟩
theorem de_and (ha : DE X a ma) (hb : DE X (.BoolOp .And (b :: rest) pos) mb) : DE X (.BoolOp .And (a :: b :: rest) pos) (eAnd ma mb) :=
  ⟨fun W tk => pe_weak (pe_and (ha.run W tk) (hb.run W tk)) fun σ H Q h => tE_of h fun rho env hh H1 d v R E q p => by
    cases o : asB d with
    | none => rw [o] at p; exact p.elim
    | some k =>
      rw [o] at p
      have e := asB_some o
      subst e
      refine ⟨k, q, ?_⟩
      cases k with
      | true => exact ⟨rho, env, hh, R, E, p⟩
      | false => exact PostE.val (a := D.bl false) (b := V.bl false) (Rl := Den _) p R rfl⟩
theorem de_or (ha : DE X a ma) (hb : DE X (.BoolOp .Or (b :: rest) pos) mb) : DE X (.BoolOp .Or (a :: b :: rest) pos) (eOr ma mb) :=
  ⟨fun W tk => pe_weak (pe_or (ha.run W tk) (hb.run W tk)) fun σ H Q h => tE_of h fun rho env hh H1 d v R E q p => by
    cases o : asB d with
    | none => rw [o] at p; exact p.elim
    | some k =>
      rw [o] at p
      have e := asB_some o
      subst e
      refine ⟨k, q, ?_⟩
      cases k with
      | true => exact PostE.val (a := D.bl true) (b := V.bl true) (Rl := Den _) p R rfl
      | false => exact ⟨rho, env, hh, R, E, p⟩⟩
theorem de_not (ha : DE X a ma) : DE X (.UnaryOp .Not a pos) (eNot ma) :=
  ⟨fun W tk => pe_weak (pe_not (ha.run W tk)) fun σ H Q h => tE_of h fun rho env hh H1 d v R E q p => by
    cases o : asB d with
    | none => rw [o] at p; exact p.elim
    | some k =>
      rw [o] at p
      have e := asB_some o
      subst e
      exact ⟨k, q, PostE.val (a := D.bl (!k)) (b := V.bl (!k)) (Rl := Den _) p R rfl⟩⟩
theorem de_if {c : Expr} {tc : MT} (hc : DT X c tc) (ha : DE X a ma) (hb : DE X b mb) : DE X (.IfExp c a b pos) (eIf tc ma mb) :=
  ⟨fun W tk => pe_weak (pe_ifExp (hc.run W tk) (ha.run W tk) (hb.run W tk)) fun σ H Q h => tSeq_of h fun k H1 q => by
    cases k with
    | true => exact q
    | false => exact q⟩
end

inductive RS where
  | nx (env : DEnv) (h : Hh)
  | rt (d : D) (h : Hh)
  | bk (env : DEnv) (h : Hh)
  | ct (env : DEnv) (h : Hh)
  | er (x : Exn) (env : DEnv) (h : Hh)
  | stuck
abbrev MS := DEnv → Hh → RS
def PostS (G : Gm) (W : WX) (D : Ends) (rho : Rm) (H : Hp) (r : RS) : Prop :=
  match r with
  | .nx env hh => ∀ rho' H' σ', Step rho H rho' H' → Rep G rho' hh H' → EnvD G rho' H' env σ' → D.nx σ' H'
  | .rt d hh => ∀ rho' H' v, Step rho H rho' H' → Rep G rho' hh H' → Den G rho' H' d v → D.rt v H'
  | .bk env hh => ∀ rho' H' σ', Step rho H rho' H' → Rep G rho' hh H' → EnvD G rho' H' env σ' → D.bk σ' H'
  | .ct env hh => ∀ rho' H' σ', Step rho H rho' H' → Rep G rho' hh H' → EnvD G rho' H' env σ' → D.ct σ' H'
  | .er x env hh => ∀ rho' H' σ' c d, Step rho H rho' H' → Rep G rho' hh H' → EnvD G rho' H' env σ' → ExD G rho' H' x c d → W c d σ' H'
  | .stuck => False
theorem PostS.start {G : Gm} {W : WX} {D : Ends} {rho rho' : Rm} {H H' : Hp} {r : RS} (h : PostS G W D rho H r) (S : Step rho H rho' H') : PostS G W D rho' H' r := by
  cases r with
  | nx env hh => exact fun rho2 H2 σ S2 R2 q => h rho2 H2 σ (S.trans S2) R2 q
  | rt d hh => exact fun rho2 H2 σ S2 R2 q => h rho2 H2 σ (S.trans S2) R2 q
  | bk env hh => exact fun rho2 H2 σ S2 R2 q => h rho2 H2 σ (S.trans S2) R2 q
  | ct env hh => exact fun rho2 H2 σ S2 R2 q => h rho2 H2 σ (S.trans S2) R2 q
  | er x env hh => exact fun rho2 H2 σ c d S2 R2 q => h rho2 H2 σ c d (S.trans S2) R2 q
  | stuck => exact h
def TDs (G : Gm) (W : WX) (m : MS) : TS := fun D σ H => ∃ rho env hh, Rep G rho hh H ∧ EnvD G rho H env σ ∧ PostS G W D rho H (m env hh)
structure DS (X : Cx) (st : Stmt) (m : MS) : Prop where
  run : ∀ W, Takes X W → PS X st (TDs (Cx.gm X) W m)
structure DSs (X : Cx) (st : List Stmt) (m : MS) : Prop where
  run : ∀ W, Takes X W → PSs X st (TDs (Cx.gm X) W m)
theorem ps_weak {X : Cx} {st : Stmt} {t t' : TS} (h : PS X st t) (i : ∀ D σ H, t' D σ H → t D σ H) : PS X st t' := ⟨fun pins s σ H D I q => h.run pins s σ H D I (i D σ H q)⟩
theorem pss_weak {X : Cx} {st : List Stmt} {t t' : TS} (h : PSs X st t) (i : ∀ D σ H, t' D σ H → t D σ H) : PSs X st t' := ⟨fun pins s σ H D I q => h.run pins s σ H D I (i D σ H q)⟩

def RS.seq (r : RS) (f : DEnv → Hh → RS) : RS := match r with | .nx env h => f env h | r => r
def sSeq (a b : MS) : MS := fun env h => (a env h).seq b
def sNext : MS := fun env h => .nx env h
/-- an expression's result, then a statement -/
def Res.st {α : Type} (r : Res α) (env : DEnv) (f : α → Hh → RS) : RS := match r with
  | .ok a h => f a h
  | .err x h => .er x env h
  | .stuck => .stuck
theorem st_ok {α : Type} (a : α) (h : Hh) (env : DEnv) (f : α → Hh → RS) : (Res.ok a h).st env f = f a h := rfl
def sDrop (m : ME) : MS := fun env h => (m env h).st env fun _ h1 => .nx env h1
def sRet (m : ME) : MS := fun env h => (m env h).st env fun d h1 => .rt d h1
def sRetN : MS := fun _ h => .rt .non h
def sIf (t : MT) (a b : MS) : MS := fun env h => (t env h).st env fun k h1 => if k = true then a env h1 else b env h1
def sBreak : MS := fun env h => .bk env h
def sCont : MS := fun env h => .ct env h
section
variable {X : Cx} {st : Stmt} {rest : List Stmt} {e : Expr} {m : ME} {t : MT} {ms ms' : MS} {pos : Pos} {G : Gm} {W : WX} {D : Ends} {σ : L2.St} {H : Hp}
theorem ss_nil : DSs X [] sNext := ⟨fun W _ => pss_weak pss_nil fun D σ H ⟨rho, env, hh, R, E, p⟩ => p rho H σ .refl R E⟩
theorem seq_post {rho : Rm} {r : RS} {f : DEnv → Hh → RS} (p : PostS G W D rho H (r.seq f)) : PostS G W { D with nx := TDs G W f D } rho H r := by
  cases r with
  | nx env hh => exact fun rho' H' σ' S R E => ⟨rho', env, hh, R, E, PostS.start (r := f env hh) p S⟩
  | rt d hh => exact p
  | bk env hh => exact p
  | ct env hh => exact p
  | er x env hh => exact p
  | stuck => exact p
theorem ss_cons (h1 : DS X st ms) (h2 : DSs X rest ms') : DSs X (st :: rest) (sSeq ms ms') :=
  ⟨fun W tk => pss_weak (pss_cons (h1.run W tk) (h2.run W tk)) fun D σ H ⟨rho, env, hh, R, E, p⟩ => ⟨rho, env, hh, R, E, seq_post p⟩⟩
theorem ss_one (h1 : DS X st ms) : DSs X [st] ms := ⟨fun W tk => pss_one (h1.run W tk)⟩
/-- the reading of an expression, then of a statement -/
theorem st_of {f : DEnv → MR.D → Hh → RS} {k : V → Hp → Prop} (h : TDs G W (fun env hh => (m env hh).st env (f env)) D σ H)
    (hk : ∀ rho env hh H1 d v, Rep G rho hh H1 → EnvD G rho H1 env σ → Den G rho H1 d v → PostS G W D rho H1 (f env d hh) → k v H1) : TD G W m σ H k := by
  obtain ⟨rho, env, hh, R, E, p⟩ := h
  refine ⟨rho, env, hh, R, E, ?_⟩
  have p : PostS G W D rho H ((m env hh).st env (f env)) := p
  cases e : m env hh with
  | ok d hh1 =>
    rw [e] at p
    exact fun rho1 H1 v S R1 q => hk rho1 env hh1 H1 d v R1 (E.step R S) q (PostS.start (r := f env d hh1) p S)
  | err x hh1 =>
    rw [e] at p
    exact fun rho1 H1 c d S R1 q => p rho1 H1 σ c d S R1 (E.step R S) q
  | stuck => rw [e] at p; exact p
theorem stT_of {f : DEnv → Bool → Hh → RS} {k : Bool → Hp → Prop} (h : TDs G W (fun env hh => (t env hh).st env (f env)) D σ H)
    (hk : ∀ b H1, TDs G W (fun env hh => f env b hh) D σ H1 → k b H1) : TDt G W t σ H k := by
  obtain ⟨rho, env, hh, R, E, p⟩ := h
  refine ⟨rho, env, hh, R, E, ?_⟩
  have p : PostS G W D rho H ((t env hh).st env (f env)) := p
  cases e : t env hh with
  | ok d hh1 =>
    rw [e] at p
    exact fun rho1 H1 v S R1 q => by
      subst q
      exact hk d H1 ⟨rho1, env, hh1, R1, E.step R S, PostS.start (r := f env d hh1) p S⟩
  | err x hh1 =>
    rw [e] at p
    exact fun rho1 H1 c d S R1 q => p rho1 H1 σ c d S R1 (E.step R S) q
  | stuck => rw [e] at p; exact p
theorem ds_expr (h : DE X e m) (hs : swapsWith e none pos.line X.env = pure false := by rfl) : DS X (.Expr e pos) (sDrop m) :=
  ⟨fun W tk => ps_weak (ps_expr (h.run W tk) hs) fun D σ H q => st_of q fun rho env hh H1 d v R E q p => p rho H1 σ .refl R E⟩
theorem ds_ret (h : DE X e m) : DS X (.Return (some e) pos) (sRet m) :=
  ⟨fun W tk => ps_weak (ps_ret (h.run W tk)) fun D σ H q => st_of q fun rho env hh H1 d v R E q p => p rho H1 v .refl R q⟩
theorem ds_if {c : Expr} {a b : List Stmt} {ma mb : MS} (hc : DT X c t) (ha : DSs X a ma) (hb : DSs X b mb) : DS X (.If c a b pos) (sIf t ma mb) :=
  ⟨fun W tk => ps_weak (ps_if (hc.run W tk) (ha.run W tk) (hb.run W tk)) fun D σ H q => stT_of q fun b H1 h => by
    cases b with
    | true => exact h
    | false => exact h⟩
end

abbrev MG := D → DEnv → Hh → Option (DEnv × Hh)
abbrev MGs := List D → DEnv → Hh → Option (DEnv × Hh)
def PostG (G : Gm) (rho : Rm) (H : Hp) (r : Option (DEnv × Hh)) (Q : L2.St → Hp → Prop) : Prop :=
  match r with
  | some (env, hh) => ∀ rho' H' σ', Step rho H rho' H' → Rep G rho' hh H' → EnvD G rho' H' env σ' → Q σ' H'
  | none => False
theorem PostG.start {G : Gm} {rho rho' : Rm} {H H' : Hp} {r : Option (DEnv × Hh)} {Q : L2.St → Hp → Prop} (h : PostG G rho H r Q) (S : Step rho H rho' H') : PostG G rho' H' r Q := by
  cases r with
  | none => exact h
  | some p => exact fun rho2 H2 σ S2 R2 q => h rho2 H2 σ (S.trans S2) R2 q
def TDg (G : Gm) (m : MG) : TG := fun v σ H Q => ∃ rho env hh d, Rep G rho hh H ∧ EnvD G rho H env σ ∧ Den G rho H d v ∧ PostG G rho H (m d env hh) Q
def TDgs (G : Gm) (m : MGs) : TGs := fun vs σ H Q => ∃ rho env hh ds, Rep G rho hh H ∧ EnvD G rho H env σ ∧ Dens G rho H ds vs ∧ PostG G rho H (m ds env hh) Q
structure DG (X : Cx) (tg : Expr) (m : MG) : Prop where
  run : PG X tg (TDg (Cx.gm X) m)
structure DGs (X : Cx) (tgs : List Expr) (m : MGs) : Prop where
  run : PGs X tgs (TDgs (Cx.gm X) m)
theorem pg_weak {X : Cx} {e : Expr} {t t' : TG} (h : PG X e t) (i : ∀ v σ H Q, t' v σ H Q → t v σ H Q) : PG X e t' := ⟨fun pins s σ H v u Q I r q => h.run pins s σ H v u Q I r (i v σ H Q q)⟩
theorem pgs_weak {X : Cx} {e : List Expr} {t t' : TGs} (h : PGs X e t) (i : ∀ v σ H Q, t' v σ H Q → t v σ H Q) : PGs X e t' := ⟨fun pins s σ H v u Q I r q => h.run pins s σ H v u Q I r (i v σ H Q q)⟩
def gName (i : Nat) : MG := fun d env h => some (env.set i (some d), h)
def gNil : MGs := fun ds env h => match ds with | [] => some (env, h) | _ :: _ => none
def gCons (g : MG) (gs : MGs) : MGs := fun ds env h => match ds with
  | [] => none
  | d :: r => match g d env h with
    | some (env', h') => gs r env' h'
    | none => none
def gTup (n : Nat) (gs : MGs) : MG := fun d env h => match d with
  | .tup ds => if ds.length = n then gs ds env h else none
  | _ => none
theorem EnvD.set {G : Gm} {rho : Rm} {H : Hp} {env : DEnv} {σ : L2.St} {i : Nat} {d : D} {v : V} (E : EnvD G rho H env σ) (q : Den G rho H d v) : EnvD G rho H (env.set i (some d)) (σ.set i (some v)) := by
  refine ⟨by simp [E.1], fun j d' e => ?_⟩
  by_cases hj : i = j
  · subst hj
    have hl : i < env.length := by
      have := (List.getElem?_eq_some_iff.mp e).1
      simpa using this
    rw [List.getElem?_set_self hl] at e
    cases e
    exact ⟨v, List.getElem?_set_self (by rw [← E.1]; exact hl), q⟩
  · rw [List.getElem?_set_ne hj] at e
    obtain ⟨w, e1, e2⟩ := E.2 j d' e
    exact ⟨w, by rw [List.getElem?_set_ne hj]; exact e1, e2⟩
section
variable {X : Cx} {pos : Pos}
def RSof (r : Option (DEnv × Hh)) : RS := match r with | some (env, h) => .nx env h | none => .stuck
def sAsg (m : ME) (g : MG) : MS := fun env h => (m env h).st env fun d h1 => RSof (g d env h1)
theorem postG_of {G : Gm} {W : WX} {D : Ends} {rho : Rm} {H : Hp} {r : Option (DEnv × Hh)} (p : PostS G W D rho H (RSof r)) : PostG G rho H r D.nx := by
  cases r with
  | none => exact p
  | some z => exact p
theorem ds_asg {tg e : Expr} {m : ME} {g : MG} (he : DE X e m) (hg : DG X tg g) (hs : swapsWithSole [tg] e pos.line X.env = pure false := by rfl) (hw : swappedStores [tg] e X.env = pure none := by rfl)
    (h1 : (assignEach [tg] X.env).map (·.2) = [assign tg X.env] := by rfl) : DS X (.Assign [tg] e pos) (sAsg m g) :=
  ⟨fun W tk => ps_weak (ps_asg (he.run W tk) hg.run hs hw h1) fun D σ H q => st_of q fun rho env hh H1 d v R E q p => ⟨rho, env, hh, d, R, E, q, postG_of p⟩⟩
theorem ds_set {i : Nat} {x : Str} {e : Expr} {m : ME} {pos' : Pos} (hN : X.N.Nodup) (he : DE X e m) (hi : X.N[i]? = some x := by rfl) (hx : Loc X.env.scope x := by first | exact Or.inl rfl | exact Or.inr rfl) (hs : swapsWith e (some (.Name x pos')) pos.line X.env = pure false := by rfl)
    (hf : X.fn x = true ∨ X.env.scope.names.lookup x = some .local := by first | exact .inl rfl | exact .inr rfl) : DS X (.Assign [.Name x pos'] e pos) (sAsg m (gName i)) :=
  ⟨fun W tk => ps_weak (ps_set hN hi hx (he.run W tk) hs hf) fun D σ H q => st_of q fun rho env hh H1 d v R E q p => p rho H1 _ .refl R (E.set q)⟩
/-- a, b = e1, e2 -/
def sPar (i j : Nat) (ms : MA) : MS := fun env h => (ms env h).st env fun ds h1 => match ds with
  | [d1, d2] => .nx ((env.set i (some d1)).set j (some d2)) h1
  | _ => .stuck
theorem ds_par {i j : Nat} {x y : Str} {a b : Expr} {ms : MA} {px py pt : Pos} {kt k2 pt2} (hc : X.calm = true) (hN : X.N.Nodup) (hi : X.N[i]? = some x) (hj : X.N[j]? = some y) (hij : i ≠ j)
    (hx : X.env.scope.names.lookup x = some .local) (hy : X.env.scope.names.lookup y = some .local) (ha : DA X [a, b] ms)
    (hw : swappedStores [.Tuple [.Name x px, .Name y py] kt pt] (.Tuple [a, b] k2 pt2) X.env = pure (some [x, y]))
    (hs : swapsWithSole [.Tuple [.Name x px, .Name y py] kt pt] (.Tuple [a, b] k2 pt2) pos.line X.env = pure false := by rfl) :
    DS X (.Assign [.Tuple [.Name x px, .Name y py] kt pt] (.Tuple [a, b] k2 pt2) pos) (sPar i j ms) :=
  ⟨fun W tk => ps_weak (ps_par hc hN hi hj hij hx hy (ha.run W tk) hw hs) fun D σ H ⟨rho, env, hh, R, E, p⟩ => by
    refine ⟨rho, env, hh, R, E, ?_⟩
    unfold sPar at p
    cases e : ms env hh with
    | ok ds h1 =>
      rw [e, st_ok] at p
      intro rho1 H1 vs S R1 q
      match ds, p, q with
      | [d1, d2], p, q =>
        simp only [Dens] at q
        obtain ⟨v, r, rfl, q1, w, r', rfl, q2, rfl⟩ := q
        exact ⟨v, w, rfl, p rho1 H1 _ S R1 (((E.step R S).set q1).set q2)⟩
      | [], p, q => exact p.elim
      | [_], p, q => exact p.elim
      | _ :: _ :: _ :: _, p, q => exact p.elim
    | err x h1 =>
      rw [e] at p
      exact fun rho1 H1 c d S R1 q => p rho1 H1 σ c d S R1 (E.step R S) q
    | stuck => rw [e] at p; exact p⟩
end

def startD (N : List Str) (ds : List D) : DEnv := ds.map some ++ List.replicate (N.length - ds.length) none
theorem startD_ok {G : Gm} {rho : Rm} {H : Hp} {N : List Str} {ds : List D} {vs : List V} (q : Dens G rho H ds vs) : EnvD G rho H (startD N ds) (L2.start N vs) := by
  have hl := q.length
  refine ⟨by simp [startD, L2.start, hl], fun i d e => ?_⟩
  unfold startD at e
  unfold L2.start
  by_cases hi : i < ds.length
  · rw [List.getElem?_append_left (by simpa using hi), List.getElem?_map] at e
    cases e2 : ds[i]? with
    | none => rw [e2] at e; cases e
    | some d' =>
      rw [e2] at e
      simp at e
      subst e
      obtain ⟨v, e3, q3⟩ := q.get e2
      exact ⟨v, by rw [List.getElem?_append_left (by simpa [← hl] using hi), List.getElem?_map, e3]; rfl, q3⟩
  · rw [List.getElem?_append_right (by simpa using hi)] at e
    rw [List.getElem?_replicate] at e
    split at e
    · cases e
    · cases e
/-- a def: from its arguments and the heap -/
abbrev MF := List D → Hh → Res D
def runF (n : Nat) (N : List Str) (body : MS) : MF := fun ds h => if ds.length = n then (match body (startD N ds) h with
  | .nx _ h' => .ok .non h'
  | .rt d h' => .ok d h'
  | .er x _ h' => .err x h'
  | _ => .stuck) else .stuck
def spD (G : Gm) (n : Nat) (F : MF) : Sp := fun vs H Q E => vs.length = n ∧ ∃ rho hh ds, Rep G rho hh H ∧ Dens G rho H ds vs ∧ PostE G (Den G) E rho H (F ds hh) Q
/-- the def at f does what F says -/
def FnD (P : Program) (w : World) (K : PySem.W.Frag) (mg : Str → Option Value) (base : Heap) (k : Nat) (f : Addr) (fd : FuncData) (ps : List Str) (F : MF) : Prop :=
  FnOk P w K mg base (L2.CX P w) k f fd ps (spD ⟨P, w, K⟩ ps.length F)
section
variable {P : Program} {w : World} {K : PySem.W.Frag} {mg : Str → Option Value} {base : Heap}
theorem fn_ok {x qual : Str} {st : Stmt} {f : Addr} {fd : FuncData} {N ps : List Str} {k : Nat} {m : MS} (F : Fun K x qual st f fd) (S : FnScope N ps (defScope st))
    (hbody : ∀ (cdv : Value) (A : Around) (outer : List PySem.Env) (s : Shared) (H : Hp) (E : XK), Room k (A.deeper (envOfC qual (defScope st) s.heap.objs.size f cdv)) →
      DSs (cxOf (L2.CX P w) P w K mg base N qual (defScope st) f cdv A outer s H E) (defBody st) m) : FnD P w K mg base (k + 1) f fd ps (runF ps.length N m) := by
  refine F.okX S (fun vs H Q E h => h.1) fun cdv A outer s H vs Q E hr h => ?_
  obtain ⟨hl, rho, hh, ds, R, q, p⟩ := h
  refine ⟨_, (hbody cdv A outer s H E hr).run (fun c d σ H => E c d H) (takes_of rfl rfl rfl rfl), rho, startD N ds, hh, R, startD_ok q, ?_⟩
  unfold runF at p
  split at p
  · generalize m (startD N ds) hh = r at p
    cases r with
    | nx env hh' => exact fun rho' H' σ' S R' _ => p rho' H' .non S R' rfl
    | rt d hh' => exact fun rho' H' v S R' q' => p rho' H' v S R' q'
    | er x env hh' => exact fun rho' H' σ' c d S R' _ q' => p rho' H' c d S R' q'
    | bk env hh' => exact p.elim
    | ct env hh' => exact p.elim
    | stuck => exact p.elim
  · exact p.elim
/-- a promise by a function that says no less -/
theorem FnD.imp {k : Nat} {f : Addr} {fd : FuncData} {ps : List Str} {F F' : MF} (h : FnD P w K mg base k f fd ps F) (hi : ∀ ds hh, F' ds hh = .stuck ∨ F' ds hh = F ds hh) : FnD P w K mg base k f fd ps F' :=
  FnOk.imp h fun vs H Q E ⟨hl, rho, hh, ds, R, q, p⟩ => ⟨hl, rho, hh, ds, R, q, by
    rcases hi ds hh with e | e
    · rw [e] at p; exact p.elim
    · rw [← e]; exact p⟩
/-- what a def has made for itself is forgotten -/
noncomputable def pureF (F : MF) : MF := fun ds h => match F ds h with
  | .ok d h' => open Classical in if bel h.length d = true ∧ ∃ g, h' = h ++ g then .ok d h else .stuck
  | .err x h' => .err x h'
  | .stuck => .stuck
theorem FnD.pure {k : Nat} {f : Addr} {fd : FuncData} {ps : List Str} {F : MF} (h : FnD P w K mg base k f fd ps F) : FnD P w K mg base k f fd ps (pureF F) :=
  FnOk.imp h fun vs H Q E ⟨hl, rho, hh, ds, R, q, p⟩ => ⟨hl, rho, hh, ds, R, q, by
    unfold pureF at p
    cases e : F ds hh with
    | ok d hh' =>
      rw [e] at p
      simp only at p
      split at p
      · rename_i hc
        obtain ⟨hb, g, rfl⟩ := hc
        intro rho' H' v S R' q'
        obtain ⟨ex, ee, hex⟩ := S.ext
        have b' : bel rho.at_.length d = true := by rw [R.len]; exact hb
        have h2 : ∀ a, a ∉ rho'.at_ → a ∉ rho'.res → a ∉ rho.res := fun a _ n m => n (S.kept a m)
        exact p rho H' v S.drop (R.drop S ⟨ex, ee⟩ h2 R') (Den.res ⟨ex, ee⟩ h2 d v q' b')
      · exact p.elim
    | err x hh' => rw [e] at p; exact p
    | stuck => rw [e] at p; exact p⟩
end
section
variable {X : Cx} {k : Nat} {f : Addr} {fd : FuncData} {ps : List Str} {F : MF} {x : Str} {p pos : Pos} {e : Expr} {es : List Expr} {ms : MA}
def eCall (F : MF) (ms : MA) : ME := fun env h => (ms env h).bind fun ds h1 => F ds h1
theorem call_of {W : WX} {σ : L2.St} {H : Hp} {Q : VK} (h : TD (Cx.gm X) W (eCall F ms) σ H Q) (hl : ∀ vs H1, (∃ rho ds, Dens (Cx.gm X) rho H1 ds vs ∧ ∃ env h0 h1, ms env h0 = .ok ds h1) → vs.length = ps.length) :
    tCallS (spD (Cx.gm X) ps.length F) (WE W) (TDa (Cx.gm X) W ms) σ H Q := by
  obtain ⟨rho, env, hh, R, E, p⟩ := h
  refine ⟨rho, env, hh, R, E, ?_⟩
  unfold eCall at p
  cases e : ms env hh with
  | ok ds hh1 =>
    rw [e, bind_ok] at p
    exact fun rho1 H1 vs S R1 q => ⟨hl vs H1 ⟨rho1, ds, q, env, hh, hh1, e⟩, rho1, hh1, ds, R1, q, p.start S⟩
  | err x hh1 => rw [e, bind_err] at p; exact p
  | stuck => rw [e, bind_stuck] at p; exact p
theorem de_call {n : Nat} (Fn : FnD X.prog X.w X.K X.mg X.base k f fd ps F) (hr : Room k X.A) (hg : Gl X x) (hm : X.mg x = some (.ref f)) (hk : PySem.W.keepIn X.K (.ref f) = true) (hb : Binds X.K fd ps []) (ha : DAn X (e :: es) n ms) (hn : n = ps.length := by rfl)
    (hdb : (x == ("__debug__" : Str)) = false := by decide) (he : starEach (e :: es) X.env = (false, eval e X.env) :: starEach es X.env := by rfl) (hpl : (backTo pos (starEach es X.env)).any (·.1) = false := by rfl) :
    DE X (.Call (.Name x p) (e :: es) [] pos) (eCall F ms) :=
  ⟨fun W tk => pe_weak (pe_callS (E := WE W) Fn hr hg hm hk hb (passAt tk) (ha.da.run W tk) hdb he hpl) fun σ H Q h => call_of h fun vs H1 ⟨rho, ds, q, env, h0, h1, e⟩ => by rw [← q.length, ha.n _ _ _ _ e, hn]⟩
/-- f() -/
theorem pe_callS0 {sp : Sp} {CX : CXT} {E : L2.St → XK} (F : FnOk X.prog X.w X.K X.mg X.base CX k f fd ps sp) (hr : Room k X.A) (hg : Gl X x) (hm : X.mg x = some (.ref f)) (hk : PySem.W.keepIn X.K (.ref f) = true) (hb : Binds X.K fd ps []) (hx : ∀ σ, PassesAt CX X σ (E σ))
    (hdb : (x == ("__debug__" : Str)) = false := by decide) : PE X (.Call (.Name x p) [] [] pos) (tCallS sp E tNil) := by
  refine ⟨fun pins s σ H Q I h => ?_⟩
  refine wpAny_Call_Name_kw (ld_glob I hg hm ?_ hdb)
  exact PySem.W.callWith_K0 I.kIn hk (run_fnS (us := []) F hr hb (hx σ) I .nil h)
theorem de_call0 (Fn : FnD X.prog X.w X.K X.mg X.base k f fd ps F) (hr : Room k X.A) (hg : Gl X x) (hm : X.mg x = some (.ref f)) (hk : PySem.W.keepIn X.K (.ref f) = true) (hb : Binds X.K fd ps []) (hn : ps = [] := by rfl)
    (hdb : (x == ("__debug__" : Str)) = false := by decide) : DE X (.Call (.Name x p) [] [] pos) (eCall F aNil) :=
  ⟨fun W tk => pe_weak (pe_callS0 (E := WE W) Fn hr hg hm hk hb (passAt tk) hdb) fun σ H Q ⟨rho, env, hh, R, E, p⟩ => ⟨by rw [hn]; rfl, rho, hh, [], R, rfl, p⟩⟩
end
end MR

namespace MR
open PySem PySem.Spec PyProof.Rows L2

inductive Tg where
  | name (i : Nat)
  | tup (is : List Nat)
def setAll {α : Type} : List Nat → List α → List (Option α) → List (Option α)
  | i :: is, d :: ds, env => setAll is ds (env.set i (some d))
  | _, _, env => env
def bindT (T : Tg) (d : D) (env : DEnv) : Option DEnv := match T with
  | .name i => some (env.set i (some d))
  | .tup is => match d with
    | .tup ds => if ds.length = is.length then some (setAll is ds env) else none
    | .wtp ds => if ds.length = is.length then some (setAll is ds env) else none
    | _ => none
def Tg.slots : Tg → List Nat
  | .name i => [i]
  | .tup is => is
def gSet : List Nat → TGs := fun is vs σ H Q => vs.length = is.length ∧ Q (setAll is vs σ) H
def gT (K : PySem.W.Frag) : Tg → TG
  | .name i => L2.gName i
  | .tup is => L2.gTup K is.length (gSet is)
structure DTg (X : Cx) (tg : Expr) (T : Tg) : Prop where
  run : PG X tg (gT X.K T)
structure DTgs (X : Cx) (tgs : List Expr) (is : List Nat) : Prop where
  run : PGs X tgs (gSet is)
section
variable {X : Cx} {pos : Pos}
theorem dtg_name {i : Nat} {x : Str} (hN : X.N.Nodup) (hi : X.N[i]? = some x := by rfl) (hx : Loc X.env.scope x := by first | exact Or.inl rfl | exact Or.inr rfl) (hf : X.fn x = true ∨ X.env.scope.names.lookup x = some .local := by first | exact .inl rfl | exact .inr rfl) : DTg X (.Name x pos) (.name i) := ⟨pg_name hN hi hx hf⟩
theorem dtgs_nil : DTgs X [] [] := ⟨pgs_weak pgs_nil fun vs σ H Q ⟨h, q⟩ => by
  cases vs with
  | nil => exact ⟨rfl, q⟩
  | cons v r => simp at h⟩
theorem dtgs_cons {i : Nat} {x : Str} {es : List Expr} {is : List Nat} (hN : X.N.Nodup) (h2 : DTgs X es is) (hi : X.N[i]? = some x := by rfl) (hx : Loc X.env.scope x := by first | exact Or.inl rfl | exact Or.inr rfl) (hf : X.fn x = true ∨ X.env.scope.names.lookup x = some .local := by first | exact .inl rfl | exact .inr rfl)
    (hs : (assignEach (.Name x pos :: es) X.env).map (·.2) = assign (.Name x pos) X.env :: (assignEach es X.env).map (·.2) := by rfl) : DTgs X (.Name x pos :: es) (i :: is) :=
  ⟨pgs_weak (pgs_cons (pg_name hN hi hx hf) h2.run hs) fun vs σ H Q ⟨h, q⟩ => by
    cases vs with
    | nil => simp at h
    | cons v r => exact ⟨v, r, rfl, by simpa using h, q⟩⟩
theorem dtg_tup {es : List Expr} {k : Nat} {is : List Nat} (hc : X.calm = true) (h : DTgs X es is)
    (hn : (assignEach es X.env).length = is.length := by rfl) (hst : (assignEach es X.env).findIdx? (·.1) = none := by rfl) : DTg X (.Tuple es k pos) (.tup is) := ⟨pg_tup hc h.run hn hst⟩
end
section
variable {G : Gm} {rho : Rm} {H : Hp}
theorem EnvD.setAll {is : List Nat} : ∀ {ds : List D} {vs : List V} {env : DEnv} {σ : L2.St}, EnvD G rho H env σ → Dens G rho H ds vs → EnvD G rho H (MR.setAll is ds env) (MR.setAll is vs σ) := by
  induction is with
  | nil => intro ds vs env σ E q; exact E
  | cons i is ih =>
    intro ds vs env σ E q
    cases ds with
    | nil => rw [Dens] at q; subst q; exact E
    | cons d ds =>
      rw [Dens] at q
      obtain ⟨v, r, rfl, q1, q2⟩ := q
      exact ih (E.set q1) q2
theorem wipe_at {σ : L2.St} {j : Nat} : ∀ {vs : List Nat}, (wipe σ vs)[j]? = if j ∈ vs then (if j < σ.length then some none else none) else σ[j]?
  | [] => by simp [wipe]
  | v :: vs => by
    unfold wipe
    have ih := wipe_at (σ := σ) (j := j) (vs := vs)
    by_cases hj : v = j
    · subst hj
      by_cases hl : v < σ.length
      · rw [List.getElem?_set_self (by rw [wipe_length]; exact hl)]; simp [hl]
      · rw [List.getElem?_eq_none (by rw [List.length_set, wipe_length]; omega)]; simp [hl]
    · rw [List.getElem?_set_ne hj, ih]
      have : (j ∈ v :: vs) ↔ j ∈ vs := by simp [Ne.symm hj, fun e => hj (Eq.symm e)]
      simp only [this]
theorem wipe_set {σ : L2.St} {i : Nat} {x : Option V} {vs : List Nat} (h : i ∈ vs) : wipe (σ.set i x) vs = wipe σ vs := by
  apply List.ext_getElem?
  intro j
  rw [wipe_at, wipe_at, List.length_set]
  by_cases hj : j ∈ vs
  · simp [hj]
  · simp only [hj, if_false]
    exact List.getElem?_set_ne fun e => hj (by rw [← e]; exact h)
theorem wipe_setAll {vs : List Nat} {is : List Nat} : ∀ {ws : List V} {σ : L2.St}, (∀ i ∈ is, i ∈ vs) → wipe (MR.setAll is ws σ) vs = wipe σ vs := by
  induction is with
  | nil => intro ws σ h; rfl
  | cons i is ih =>
    intro ws σ h
    cases ws with
    | nil => rfl
    | cons w ws => exact (ih fun j hj => h j (List.mem_cons_of_mem _ hj)).trans (wipe_set (h i List.mem_cons_self))
def wipeE (env : DEnv) : List Nat → DEnv
  | [] => env
  | v :: vs => (wipeE env vs).set v none
theorem EnvD.setN {env : DEnv} {σ : L2.St} {i : Nat} (E : EnvD G rho H env σ) : EnvD G rho H (env.set i none) (σ.set i none) := by
  refine ⟨by simp [E.1], fun j d e => ?_⟩
  by_cases hj : i = j
  · subst hj
    by_cases hl : i < env.length
    · rw [List.getElem?_set_self hl] at e; cases e
    · rw [List.getElem?_eq_none (by rw [List.length_set]; omega)] at e; cases e
  · rw [List.getElem?_set_ne hj] at e ⊢
    exact E.2 j d e
theorem EnvD.wipe {env : DEnv} {σ : L2.St} (E : EnvD G rho H env σ) : ∀ vs : List Nat, EnvD G rho H (wipeE env vs) (L2.wipe σ vs)
  | [] => E
  | v :: vs => (EnvD.wipe E vs).setN
/-- a target takes its value -/
theorem bindT_of {T : Tg} {d : D} {v : V} {env env' : DEnv} {σ : L2.St} {Q : L2.St → Hp → Prop} (E : EnvD G rho H env σ) (q : Den G rho H d v) (h : bindT T d env = some env')
    (hq : ∀ σ', EnvD G rho H env' σ' → (∀ vs, (∀ i ∈ T.slots, i ∈ vs) → L2.wipe σ' vs = L2.wipe σ vs) → Q σ' H) : gT G.K T v σ H Q := by
  cases T with
  | name i =>
    cases h
    exact hq _ (E.set q) fun vs hv => wipe_set (hv i (by simp [Tg.slots]))
  | tup is =>
    unfold bindT at h
    cases d with
    | tup ds =>
      simp only at h
      split at h
      · rename_i hl
        cases h
        rw [Den] at q
        obtain ⟨a, vs, rfl, hs, l, q⟩ := q
        refine ⟨a, vs, rfl, hs.t, by rw [← q.length]; exact hl, by rw [← q.length]; exact hl, ?_⟩
        exact hq _ (E.setAll q) fun ws hv => wipe_setAll hv
      · cases h
    | wtp ds =>
      simp only at h
      split at h
      · rename_i hl
        cases h
        rw [Den] at q
        obtain ⟨a, vs, rfl, hs, l, q⟩ := q
        refine ⟨a, vs, rfl, hs, by rw [← q.length]; exact hl, by rw [← q.length]; exact hl, ?_⟩
        exact hq _ (E.setAll q) fun ws hv => wipe_setAll hv
      · cases h
    | non => cases h
    | bl b => cases h
    | int i => cases h
    | str x => cases h
    | lst xs => cases h
    | ref i => cases h
    | glb u => cases h
    | scr u => cases h
    | dct u w => cases h
end

structure Src where
  items : List D
  live : Option (Nat × List D)
def gOk (g : Option (Nat × List D)) (h : Hh) : Prop := ∀ i ds, g = some (i, ds) → h[i]? = some (.lst ds)
theorem gOk_none {h : Hh} : gOk none h := fun _ _ e => nomatch e
abbrev MI := DEnv → Hh → Res Src
def WalkD (G : Gm) (rho1 : Rm) (H1 : Hp) (src : Src) (J : It) : Prop := src.items.length ≤ sizeLine ∧ ∀ rho hh H, Step rho1 H1 rho H → Rep G rho hh H → gOk src.live hh →
  (∀ i, i < src.items.length → J.go i H) ∧ J.stop src.items.length H ∧ ∀ i d x H', src.items[i]? = some d → J.yld i H x H' → Step rho H rho H' ∧ Rep G rho hh H' ∧ Den G rho H' d x
def TDi (G : Gm) (W : WX) (m : MI) : TI := fun σ H R => ∃ rho env hh, Rep G rho hh H ∧ EnvD G rho H env σ ∧ PostE G (WalkD G) (wAt W σ) rho H (m env hh) R
structure DI (X : Cx) (tg iter : Expr) (m : MI) : Prop where
  run : ∀ W, Takes X W → PI X tg iter (TDi (Cx.gm X) W m)
theorem pi_weak {X : Cx} {tg e : Expr} {t t' : TI} (h : PI X tg e t) (i : ∀ σ H R, t' σ H R → t σ H R) : PI X tg e t' := ⟨fun pins s σ H R I q => h.run pins s σ H R I (i σ H R q)⟩

def loopBack (r : RS) (f : DEnv → Hh → RS) : RS := match r with
  | .nx e h => f e h
  | .ct e h => f e h
  | .bk e h => .nx e h
  | r => r
open Classical in
noncomputable def forL (g : Option (Nat × List D)) (body : D → DEnv → Hh → RS) : List D → DEnv → Hh → RS
  | [], env, h => if gOk g h then .nx env h else .stuck
  | d :: ds, env, h => if gOk g h then loopBack (body d env h) (forL g body ds) else .stuck
def bodyT (T : Tg) (b : MS) : D → DEnv → Hh → RS := fun d env h => match bindT T d env with
  | some env' => b env' h
  | none => .stuck
noncomputable def sFor (mi : MI) (T : Tg) (b : MS) : MS := fun env h => (mi env h).st env fun src h1 => forL src.live (bodyT T b) src.items env h1
section
variable {X : Cx} {G : Gm} {W : WX}
theorem loop_post {De : Ends} {rho : Rm} {H : Hp} {r : RS} {f : DEnv → Hh → RS} {N : L2.St → Hp → Prop} (p : PostS G W De rho H (loopBack r f))
    (hN : ∀ rho' H' σ' env hh, Step rho H rho' H' → Rep G rho' hh H' → EnvD G rho' H' env σ' → PostS G W De rho' H' (f env hh) → N σ' H') :
    PostS G W { De with nx := N, ct := N, bk := De.nx } rho H r := by
  cases r with
  | nx env hh => exact fun rho' H' σ' S R E => hN rho' H' σ' env hh S R E (PostS.start (r := f env hh) p S)
  | rt d hh => exact p
  | bk env hh => exact p
  | ct env hh => exact fun rho' H' σ' S R E => hN rho' H' σ' env hh S R E (PostS.start (r := f env hh) p S)
  | er x env hh => exact p
  | stuck => exact p
theorem ds_for {tg iter : Expr} {body : List Stmt} {mi : MI} {T : Tg} {b : MS} {pos : Pos} (hp : PassesOwn (model X.prog X.w) X.A X.env X.xe) (hc : X.calm = true) (hi : DI X tg iter mi) (hg : DTg X tg T) (hb : DSs X body b)
    (hs : ∀ x, foldedSetIterable iter X.env x = pure x := by intro _; rfl) : DS X (.For tg iter body [] pos) (sFor mi T b) :=
  ⟨fun W tk => ps_weak (ps_for hp hc (hi.run W tk) hg.run (hb.run W tk) hs) fun De σ H ⟨rho, env, hh, R, E, p⟩ => by
    refine ⟨rho, env, hh, R, E, ?_⟩
    unfold sFor at p
    cases e : mi env hh with
    | stuck => rw [e] at p; exact p
    | err x h1 =>
      rw [e] at p
      exact fun rho1 H1 c d S R1 q => p rho1 H1 σ c d S R1 (E.step R S) q
    | ok src h1 =>
      rw [e, st_ok] at p
      intro rho1 H1 J S1 R1 wk
      have E1 := E.step R S1
      have p1 := PostS.start p S1
      refine ⟨fun i m σ H => m = src.items.length - i ∧ i ≤ src.items.length ∧ ∃ rho env hh, Rep (Cx.gm X) rho hh H ∧ EnvD (Cx.gm X) rho H env σ ∧ Step rho1 H1 rho H ∧ PostS (Cx.gm X) W De rho H (forL src.live (bodyT T b) (src.items.drop i) env hh),
        ⟨_, rfl, Nat.zero_le _, rho1, env, h1, R1, E1, .refl, by rw [List.drop_zero]; exact p1⟩, ?_⟩
      rintro i m σ2 H2 ⟨rfl, hi, rho2, env2, hh2, R2, E2, S2, p2⟩
      obtain ⟨wl, wk⟩ := wk
      by_cases hlt : i < src.items.length
      · have ed : src.items.drop i = src.items[i] :: src.items.drop (i + 1) := List.drop_eq_getElem_cons hlt
        rw [ed] at p2
        unfold forL at p2
        split at p2
        · rename_i hg2
          obtain ⟨w1, w2, w3⟩ := wk rho2 hh2 H2 S2 R2 hg2
          refine .inr ⟨w1 i hlt, fun σ' H' => ∃ rho env hh, Rep (Cx.gm X) rho hh H' ∧ EnvD (Cx.gm X) rho H' env σ' ∧ Step rho1 H1 rho H' ∧ PostS (Cx.gm X) W De rho H' (forL src.live (bodyT T b) (src.items.drop (i + 1)) env hh),
            fun σ' H' q => ⟨src.items.length - (i + 1), by omega, rfl, hlt, q⟩, fun x H3 y => ?_⟩
          obtain ⟨S3, R3, q3⟩ := w3 i _ x H3 (List.getElem?_eq_getElem hlt) y
          have E3 := E2.step R2 S3
          have p3 := PostS.start p2 S3
          unfold bodyT at p3
          cases eb : bindT T src.items[i] env2 with
          | none => rw [eb] at p3; exact p3.elim
          | some env3 =>
            rw [eb] at p3
            refine bindT_of (G := Cx.gm X) E3 q3 eb fun σ4 E4 _ => ⟨rho2, env3, hh2, R3, E4, ?_⟩
            exact loop_post p3 fun rho' H' σ' env' hh' S' R' E' p' => ⟨rho', env', hh', R', E', S2.trans (S3.trans S'), p'⟩
        · exact p2.elim
      · have ei : i = src.items.length := by omega
        subst ei
        rw [List.drop_length] at p2
        unfold forL at p2
        split at p2
        · rename_i hg2
          obtain ⟨w1, w2, w3⟩ := wk rho2 hh2 H2 S2 R2 hg2
          exact .inl ⟨w2, p2 rho2 H2 σ2 .refl R2 E2⟩
        · exact p2.elim⟩

open Classical in
end
end MR

namespace MR
open PySem PySem.Spec PyProof.Rows L2

structure DTs (X : Cx) (ifs : List Expr) (m : MT) : Prop where
  run : ∀ W, Takes X W → PTs X ifs (TDt (Cx.gm X) W m)
theorem dts_nil {X : Cx} : DTs X [] (fun _ h => .ok true h) := ⟨fun W _ => ⟨fun pins s σ H Q I ⟨rho, env, hh, R, E, p⟩ => pts_nil.run pins s σ H Q I (p.val R rfl)⟩⟩
theorem dts_one {X : Cx} {c : Expr} {t : MT} (h : DT X c t) : DTs X [c] t := ⟨fun W tk => pts_one (h.run W tk)⟩

open Classical in
noncomputable def compL (g : Option (Nat × List D)) (T : Tg) (t : MT) (e : ME) (env : DEnv) : List D → Hh → Res (List D)
  | [], h => if gOk g h then .ok [] h else .stuck
  | d :: ds, h => if gOk g h then (match bindT T d env with
    | some env' => (t env' h).bind fun k h1 => if k = true then (e env' h1).bind fun y h2 => (compL g T t e env ds h2).bind fun ys h3 => .ok (y :: ys) h3 else compL g T t e env ds h1
    | none => .stuck) else .stuck
def noErr {α : Type} (r : Res α) : Res α := match r with
  | .ok a h => .ok a h
  | _ => .stuck
noncomputable def aComp (mi : MI) (T : Tg) (t : MT) (e : ME) (vs : List Nat) : MA := fun env h => (mi env h).bind fun src h1 => noErr (compL src.live T t e (wipeE env vs) src.items h1)

abbrev WF : WX := fun _ _ _ _ => False
section
variable {G : Gm} {rho : Rm} {H H' : Hp}
mutual
theorem den_same (ht : ∀ a vs, SqT G.K H a vs → SqT G.K H' a vs) (hl : ∀ a o, H a = some o → a ∉ rho.at_ → a ∉ rho.res → H' a = some o) (hf : ∀ a o u, H a = some (.frz o u) → H' a = some (.frz o u)) : ∀ (d : D) (v : V), Den G rho H d v → Den G rho H' d v
  | .non, _, h => h
  | .bl _, _, h => h
  | .int _, _, h => h
  | .str _, _, h => h
  | .tup ds, v, h => by
    rw [Den] at h ⊢
    obtain ⟨a, vs, e, q, l, ds'⟩ := h
    refine ⟨a, vs, e, ?_, l, dens_same ht hl hf ds vs ds'⟩
    rcases q with ⟨o, q, d⟩ | q
    · exact .inl ⟨o, hf a o _ q, d⟩
    · exact .inr q
  | .wtp ds, v, h => by
    rw [Den] at h ⊢
    obtain ⟨a, vs, e, q, l, ds'⟩ := h
    exact ⟨a, vs, e, ht a vs q, l, dens_same ht hl hf ds vs ds'⟩
  | .lst ds, v, h => by
    rw [Den] at h ⊢
    obtain ⟨a, vs, e, q, n, n2, l, ds'⟩ := h
    exact ⟨a, vs, e, hl a _ q n n2, n, n2, l, dens_same ht hl hf ds vs ds'⟩
  | .ref i, v, h => h
  | .glb _, _, h => h
  | .scr ns, v, h => by
    rw [Den] at h ⊢
    obtain ⟨a, e, q, l⟩ := h
    refine ⟨a, e, ?_, l⟩
    rcases q with ⟨o, q⟩ | q
    · exact .inl ⟨o, hf a o _ q⟩
    · exact .inr q
  | .dct ks ds, v, h => by
    rw [Den] at h ⊢
    obtain ⟨a, xs, es, us, e, q, n, n2, l1, l2, k1, k2, k3, k4, k5, d1, d2⟩ := h
    exact ⟨a, xs, es, us, e, hl a _ q n n2, n, n2, l1, l2, k1, k2, k3, k4, k5, dens_same ht hl hf ks _ d1, dens_same ht hl hf ds us d2⟩
theorem dens_same (ht : ∀ a vs, SqT G.K H a vs → SqT G.K H' a vs) (hl : ∀ a o, H a = some o → a ∉ rho.at_ → a ∉ rho.res → H' a = some o) (hf : ∀ a o u, H a = some (.frz o u) → H' a = some (.frz o u)) : ∀ (ds : List D) (vs : List V), Dens G rho H ds vs → Dens G rho H' ds vs
  | [], _, h => h
  | d :: ds, vs, h => by
    rw [Dens] at h ⊢
    obtain ⟨v, r, e, a, b⟩ := h
    exact ⟨v, r, e, den_same ht hl hf d v a, dens_same ht hl hf ds r b⟩
end
/-- a list that is set apart is changed -/
theorem putR {p : Addr} {xs ys : List V} (hp : H p = some (.lst xs)) (hr : p ∈ rho.res) : (∀ a vs, SqT G.K H a vs → SqT G.K (upd H p (.lst ys)) a vs) ∧ (∀ a o, H a = some o → a ∉ rho.at_ → a ∉ rho.res → (upd H p (.lst ys)) a = some o) ∧ (∀ a o u, H a = some (.frz o u) → (upd H p (.lst ys)) a = some (.frz o u)) := by
  refine ⟨fun a vs h => ?_, fun a vs h n n2 => ?_, fun a o u h => ?_⟩
  · rcases h with (h | ⟨o, h⟩) | h
    · exact .inl (.inl (by rw [upd_ne (ne_of h hp (by intro z; cases z))]; exact h))
    · exact .inl (.inr ⟨o, by rw [upd_ne (ne_of h hp (by intro z; cases z))]; exact h⟩)
    · exact .inr h
  · have ne : a ≠ p := fun e => n2 (by rw [e]; exact hr)
    rw [upd_ne ne]; exact h
  · rw [upd_ne (ne_of h hp (by intro z; cases z))]; exact h
theorem Rep.putR {hh : Hh} (R : Rep G rho hh H) {p : Addr} {xs ys : List V} (hp : H p = some (.lst xs)) (hr : p ∈ rho.res) (ha : p ∉ rho.at_) : Rep G rho hh (upd H p (.lst ys)) := by
  obtain ⟨ht, hl, hf⟩ := MR.putR (G := G) (ys := ys) hp hr
  refine ⟨R.nd, fun a m => ?_, R.len, fun i a o e1 e2 => ?_⟩
  · by_cases e : a = p
    · subst e; exact ⟨_, upd_same⟩
    · obtain ⟨o, q⟩ := R.hd a m
      exact ⟨o, by rw [upd_ne e]; exact q⟩
  · have ne : a ≠ p := fun e => ha (by rw [← e]; exact List.mem_of_getElem? e1)
    have x := R.ob i a o e1 e2
    cases o with
    | lst ds => obtain ⟨vs, e, l, q⟩ := x; exact ⟨vs, by rw [upd_ne ne]; exact e, l, dens_same ht hl hf ds vs q⟩
    | dK kvs => obtain ⟨vs, e, l, q⟩ := x; exact ⟨vs, by rw [upd_ne ne]; exact e, l, Paired.mapP q fun p q r => ⟨r.1, den_same ht hl hf _ _ r.2⟩⟩
    | dN kvs =>
      obtain ⟨xs, l0, l1, es, e, q, r⟩ := x
      exact ⟨xs, l0, l1, es, by rw [upd_ne ne]; exact e, Paired.mapP q fun p q r => ⟨r.1, den_same ht hl hf _ _ r.2.1, let ⟨v, a, b⟩ := r.2.2; ⟨v, a, den_same ht hl hf _ _ b⟩⟩, r⟩
    | ins C fs =>
      obtain ⟨c, dx, fvs, g, e, o, q⟩ := x
      have nd : dx ≠ p := ne_of o hp (by intro z; cases z)
      exact ⟨c, dx, fvs, g, by rw [upd_ne ne]; exact e, by rw [upd_ne nd]; exact o, Paired.mapP q fun p q r => ⟨r.1, den_same ht hl hf _ _ r.2⟩⟩
    | exc x => obtain ⟨c, d, q, e⟩ := x; exact ⟨c, d, q.put (.inr hr), by rw [upd_ne ne]; exact e⟩
theorem EnvD.putR {env : DEnv} {σ : L2.St} (E : EnvD G rho H env σ) {p : Addr} {xs ys : List V} (hp : H p = some (.lst xs)) (hr : p ∈ rho.res) : EnvD G rho (upd H p (.lst ys)) env σ := by
  obtain ⟨ht, hl, hf⟩ := MR.putR (G := G) (ys := ys) hp hr
  exact ⟨E.1, fun i d e => let ⟨v, e1, e2⟩ := E.2 i d e; ⟨v, e1, den_same ht hl hf _ _ e2⟩⟩
end

section
variable {X : Cx}
/-- what is wanted at the comprehension's end -/
def Fin (G : Gm) (rho1 : Rm) (H1 : Hp) (L : Addr) (Q : VK) (acc : List D) (r : Res (List D)) : Prop :=
  match r with
  | .ok ys hh' => ∀ rho' H' vs, Step rho1 H1 rho' H' → Rep G rho' hh' H' → H' L = some (.lst vs) → L ∈ rho'.res → L ∉ rho'.at_ → vs.length ≤ sizeLine → Dens G rho' H' (acc ++ ys) vs → Q (.ref L) H'
  | _ => False
theorem lc_of {G : Gm} {W : WX} {mi : MI} {T : Tg} {t : MT} {e : ME} {vs : List Nat} {σ : L2.St} {H : Hp} {Q : VK} (hT : ∀ i ∈ T.slots, i ∈ vs) (h : TDl G W (aComp mi T t e vs) σ H Q) :
    tLc (TDi G W mi) (gT G.K T) (TDt G WF t) (TD G WF e) vs σ H Q := by
  obtain ⟨rho, env, hh, R, E, p⟩ := h
  refine ⟨rho, env, hh, R, E, ?_⟩
  unfold aComp at p
  cases em : mi env hh with
  | stuck => rw [em] at p; exact p.elim
  | err x h1 =>
    rw [em] at p
    exact p
  | ok src h1 =>
    rw [em, bind_ok] at p
    intro rho1 H1 J S1 R1 wk L hL
    have E1 := (E.step R S1).wipe vs
    -- the list is laid, apart
    have hLa : L ∉ rho1.at_ := fun hm => by
      obtain ⟨u, e, _⟩ := R1.mut hm
      rw [hL] at e; cases e
    obtain ⟨S2, R2, _, _⟩ := new_list (ds := []) (vs := []) (Step.refl (rho := rho1) (H := H1)) R1 rfl hL
    have E2 := E1.step R1 S2
    have fin : Fin G rho1 H1 L Q [] (compL src.live T t e (wipeE env vs) src.items h1) := by
      cases ec : compL src.live T t e (wipeE env vs) src.items h1 with
      | ok ys h2 =>
        rw [ec] at p
        exact fun rho' H' ws S' R' hl hr ha hz q => p rho' H' L ws (S1.trans S') R' hl hr ha (S1.back hL) hz q
      | err x h2 => rw [ec] at p; exact p
      | stuck => rw [ec] at p; exact p
    obtain ⟨wl, wk⟩ := wk
    refine ⟨fun i m H => m = src.items.length - i ∧ i ≤ src.items.length ∧ ∃ rho hh acc av, Step rho1 H1 rho H ∧ Rep G rho hh H ∧ EnvD G rho H (wipeE env vs) (wipe σ vs) ∧ H L = some (.lst av) ∧ L ∈ rho.res ∧ L ∉ rho.at_ ∧ av.length ≤ i ∧ Dens G rho H acc av ∧
        Fin G rho1 H1 L Q acc (compL src.live T t e (wipeE env vs) (src.items.drop i) hh),
      ⟨_, rfl, Nat.zero_le _, rho1.hold L, h1, [], [], S2, R2, E2, upd_same, List.mem_cons_self, hLa, Nat.le_refl _, rfl, by rw [List.drop_zero]; exact fin⟩, ?_⟩
    rintro i m H3 ⟨rfl, hi, rho3, hh3, acc, av, S3, R3, E3, h3, hr3, ha3, hz3, q3, f3⟩
    by_cases hlt : i < src.items.length
    · have ed : src.items.drop i = src.items[i] :: src.items.drop (i + 1) := List.drop_eq_getElem_cons hlt
      rw [ed] at f3
      unfold compL at f3
      split at f3
      · rename_i hg3
        obtain ⟨w1, w2, w3⟩ := wk rho3 hh3 H3 S3 R3 hg3
        refine .inr ⟨w1 i hlt, fun H' => ∃ rho hh acc av, Step rho1 H1 rho H' ∧ Rep G rho hh H' ∧ EnvD G rho H' (wipeE env vs) (wipe σ vs) ∧ H' L = some (.lst av) ∧ L ∈ rho.res ∧ L ∉ rho.at_ ∧ av.length ≤ i + 1 ∧ Dens G rho H' acc av ∧
            Fin G rho1 H1 L Q acc (compL src.live T t e (wipeE env vs) (src.items.drop (i + 1)) hh),
          fun H' q => ⟨src.items.length - (i + 1), by omega, rfl, hlt, q⟩, fun x H4 y => ?_⟩
        obtain ⟨S4, R4, q4⟩ := w3 i _ x H4 (List.getElem?_eq_getElem hlt) y
        have E4 := E3.step R3 S4
        cases eb : bindT T src.items[i] (wipeE env vs) with
        | none => rw [eb] at f3; exact f3.elim
        | some env5 =>
          rw [eb] at f3
          refine bindT_of E4 q4 eb fun σ5 E5 hw => ⟨by rw [hw vs hT, show wipe (wipe σ vs) vs = wipe σ vs from by
            apply List.ext_getElem?
            intro j
            rw [wipe_at, wipe_length]
            by_cases hj : j ∈ vs
            · simp [hj, wipe_at]
            · simp [hj]], rho3, env5, hh3, R4, E5, ?_⟩
          simp only at f3
          cases et : t env5 hh3 with
          | stuck => rw [et] at f3; exact f3.elim
          | err x2 h5 => rw [et] at f3; exact f3.elim
          | ok k h5 =>
            rw [et, bind_ok] at f3
            intro rho6 H6 k' S6 R6 ek
            subst ek
            have S16 := S3.trans (S4.trans S6)
            have L4 := S4.keep L _ h3 ha3
            have L6 := S6.keep L _ L4 ha3
            have r6 := S6.kept L hr3
            have a6 : L ∉ rho6.at_ := S6.out L4 ha3
            have q6 := Dens.step R4 S6 _ _ (Dens.step R3 S4 _ _ q3)
            have E6 := (E3.step R3 S4).step R4 S6
            cases k with
            | false =>
              simp only [Bool.false_eq_true, if_false] at f3 ⊢
              exact ⟨rho6, h5, acc, av, S16, R6, E6, L6, r6, a6, Nat.le_succ_of_le hz3, q6, f3⟩
            | true =>
              simp only [if_true] at f3 ⊢
              refine ⟨rho6, env5, h5, R6, E5.step R4 S6, ?_⟩
              cases ee : e env5 h5 with
              | stuck => rw [ee] at f3; exact f3.elim
              | err x2 h7 => rw [ee] at f3; exact f3.elim
              | ok y2 h7 =>
                rw [ee, bind_ok] at f3
                intro rho8 H8 yv S8 R8 q8
                have L8 := S8.keep L _ L6 a6
                have r8 := S8.kept L r6
                have a8 : L ∉ rho8.at_ := S8.out L6 a6
                refine ⟨av, L8, by omega, rho8, h7, acc ++ [y2], av ++ [yv], (S16.trans S8).since hL, R8.putR L8 r8 a8, (E6.step R6 S8).putR L8 r8, upd_same, r8, a8, by simp; omega, ?_, ?_⟩
                · obtain ⟨ht, hl, hf⟩ := putR (G := G) (ys := av ++ [yv]) L8 r8
                  exact dens_same ht hl hf _ _ ((Dens.step R6 S8 _ _ q6).append ⟨yv, [], rfl, q8, rfl⟩)
                · cases ec : compL src.live T t e (wipeE env vs) (src.items.drop (i + 1)) h7 with
                  | stuck => rw [ec] at f3; exact f3.elim
                  | err x2 h9 => rw [ec] at f3; exact f3.elim
                  | ok ys h9 =>
                    rw [ec, bind_ok] at f3
                    intro rho' H' ws a b c d e' f g
                    exact f3 rho' H' ws a b c d e' f (by rw [List.append_assoc] at g; exact g)
      · exact f3.elim
    · have ei : i = src.items.length := by omega
      subst ei
      rw [List.drop_length] at f3
      unfold compL at f3
      split at f3
      · rename_i hg3
        obtain ⟨w1, w2, w3⟩ := wk rho3 hh3 H3 S3 R3 hg3
        exact .inl ⟨w2, f3 rho3 H3 av S3 R3 h3 hr3 ha3 (by omega) (by rw [List.append_nil]; exact q3)⟩
      · exact f3.elim
variable {elt tg iter : Expr} {ifs : List Expr} {scope : Scope} {own : List (Str × Nat)} {pos : Pos} {mi : MI} {T : Tg} {t : MT} {e : ME}
/-- [elt for tg in iter if ..] -/
theorem dl_comp (hc : X.calm = true) (hN : X.N.Nodup) (hi : DI X tg iter mi) (ok : BlkOk X.N X.env.scope scope own)
    (hg : ∀ (s : Shared) (H : Hp) (C : Addr) (cl : List (Str × Addr)) (fp : List Addr), DTg (X.blk s H scope (compEnvC scope cl C X.env) fp) tg T) (ht : ∀ (s : Shared) (H : Hp) (C : Addr) (cl : List (Str × Addr)) (fp : List Addr), DTs (X.blk s H scope (compEnvC scope cl C X.env) fp) ifs t)
    (he : ∀ (s : Shared) (H : Hp) (C : Addr) (cl : List (Str × Addr)) (fp : List Addr), DE (X.blk s H scope (compEnvC scope cl C X.env) fp) elt e) (hT : ∀ i ∈ T.slots, i ∈ own.map (·.2) := by decide) (hs : ∀ x, foldedSetIterable iter X.env x = pure x := by intro _; rfl) :
    DL X (.ListComp elt [⟨tg, iter, ifs, 0⟩] scope pos) (aComp mi T t e (own.map (·.2))) :=
  ⟨fun W tk => pe_weak (pe_lc hc hN (hi.run W tk) ok (fun s H C cl fp => (hg s H C cl fp).run) (fun s H C cl fp => (ht s H C cl fp).run WF takes0) (fun s H C cl fp => (he s H C cl fp).run WF takes0) hs) fun σ H Q h => lc_of hT h⟩
theorem asg_of {G : Gm} {W : WX} {m : ME} {i : Nat} {De : Ends} {σ : L2.St} {H : Hp} (h : TDs G W (sAsg m (gName i)) De σ H) : TD G W m σ H fun x H1 => L2.gName i x σ H1 De.nx :=
  st_of h fun rho env hh H1 d v R E q p => p rho H1 _ .refl R (E.set q)
variable {i : Nat} {y : Str} {py spos : Pos}
/-- name = [..] on one line -/
theorem ds_setComp {m : ME} (hm : ∀ {G : Gm} {W : WX} {σ : L2.St} {H : Hp} {Q : VK}, TD G W m σ H Q → TDl G W (aComp mi T t e (own.map (·.2))) σ H Q) (hc : X.calm = true) (hN : X.N.Nodup) (hy : X.N[i]? = some y) (hyl : X.env.scope.names.lookup y = some .local)
    (hsw : swapsWith (.ListComp elt [⟨tg, iter, ifs, 0⟩] scope pos) (some (.Name y py)) spos.line X.env = pure true) (hi : DI X tg iter mi) (ok : BlkOk X.N X.env.scope scope own)
    (hg : ∀ (s : Shared) (H : Hp) (C : Addr) (cl : List (Str × Addr)) (fp : List Addr), DTg (X.blk s H scope (compEnvC scope cl C X.env) fp) tg T) (ht : ∀ (s : Shared) (H : Hp) (C : Addr) (cl : List (Str × Addr)) (fp : List Addr), DTs (X.blk s H scope (compEnvC scope cl C X.env) fp) ifs t)
    (he : ∀ (s : Shared) (H : Hp) (C : Addr) (cl : List (Str × Addr)) (fp : List Addr), DE (X.blk s H scope (compEnvC scope cl C X.env) fp) elt e) (hT : ∀ i ∈ T.slots, i ∈ own.map (·.2) := by decide) (hs : ∀ x, foldedSetIterable iter X.env x = pure x := by intro _; rfl) :
    DS X (.Assign [.Name y py] (.ListComp elt [⟨tg, iter, ifs, 0⟩] scope pos) spos) (sAsg m (gName i)) :=
  ⟨fun W tk => ps_weak (ps_setLc hc hN hy hyl hsw (hi.run W tk) ok (fun s H C cl fp => (hg s H C cl fp).run) (fun s H C cl fp => (ht s H C cl fp).run WF takes0) (fun s H C cl fp => (he s H C cl fp).run WF takes0) hs) fun De σ H h => lc_of hT (hm (asg_of h))⟩
end
end MR

set_option maxHeartbeats 1000000
namespace MR
open PySem PySem.Spec PyProof.Rows L2

structure SeqK (P : Program) (w : World) (K : PySem.W.Frag) (Sq : Hp → Addr → List V → Prop) (IsIt : Heap → Addr → Addr → Nat → Prop) (IsSq : Heap → Addr → Array Value → Prop) (io : Addr → Obj) : Prop where
  beg : ∀ a items, Begins (.ref a) (io a) (fun h => IsSq h a items)
  it0 : ∀ (h : Heap) it a, h.get? it = some (io a) → IsIt h it a 0
  at_ : ∀ (h h' : Heap) it a i, IsIt h it a i → (∀ o, h.get? it = some o → h'.get? it = some o) → IsIt h' it a i
  obj : ∀ (h : Heap) it a i, IsIt h it a i → ∃ o, h.get? it = some o ∧ ∀ v, o.data ≠ .cell v
  draws : ∀ (A : Around) it a (items : Array Value), A.handled = none → a ≠ it → Draws P w A it [it, a] items.size (fun i v => items[i]? = some v) (fun i h => IsIt h it a i ∧ IsSq h a items)
  inv : ∀ (X : Cx) pins σ H s a xs, X.prog = P → X.w = w → X.K = K → Inv X pins σ H s → Sq H a xs → ∃ its : List Value, Vals xs its ∧ IsSq s.heap a its.toArray ∧ a < s.heap.objs.size
  inj : ∀ (X : Cx) pins σ H s a xs ys, X.K = K → Inv X pins σ H s → Sq H a xs → Sq H a ys → xs = ys
theorem seqK_list (P : Program) (w : World) (K : PySem.W.Frag) : SeqK P w K (SqL K) (fun h it a i => h.IsListIter it a i) (fun h a items => h.IsList a items) (fun a => { cls := .type "list_iterator", data := .fields #[.ref a, .int 0 0] }) where
  beg := begins_list
  it0 := fun h it a e => ⟨_, e, rfl, rfl⟩
  at_ := fun h h' it a i x k => x.at k
  obj := fun h it a i ⟨o, ho, _, hd⟩ => ⟨o, ho, fun v q => by rw [hd] at q; cases q⟩
  draws := fun A it a items hh ne => Draws.list hh it a ne items
  inv := fun X pins σ H s a xs hP hw hK I q => by
    subst hP hw hK
    obtain ⟨its, r, p, _⟩ := I.list q
    exact ⟨its, r, p.isList, p.lt⟩
  inj := fun X pins σ H s a xs ys hK I q q' => by subst hK; exact I.list_inj q q'
theorem seqK_tup (P : Program) (w : World) (K : PySem.W.Frag) : SeqK P w K (SqT K) (fun h it a i => h.IsTupleIter it a i) (fun h a items => h.IsTuple a items) (fun a => { cls := .type "tuple_iterator", data := .fields #[.ref a, .int 0 0] }) where
  beg := begins_tuple
  it0 := fun h it a e => ⟨_, e, rfl, rfl⟩
  at_ := fun h h' it a i x k => x.at k
  obj := fun h it a i ⟨o, ho, _, hd⟩ => ⟨o, ho, fun v q => by rw [hd] at q; cases q⟩
  draws := fun A it a items hh ne => Draws.tuple hh it a ne items
  inv := fun X pins σ H s a xs hP hw hK I q => by
    subst hP hw hK
    obtain ⟨its, r, p, _⟩ := I.tuple q
    obtain ⟨o, ho, _⟩ := id p
    exact ⟨its, r, p, Heap.lt_size ho⟩
  inj := fun X pins σ H s a xs ys hK I q q' => by subst hK; exact I.tuple_inj q q'

def IteK (Sq : Hp → Addr → List V → Prop) (a : Addr) : It :=
  ⟨fun i H => ∃ (xs : List V) (x : V), Sq H a xs ∧ xs[i]? = some x, fun i H v H' => ∃ T x, v = .ref T ∧ H T = none ∧ H' = upd H T (.tup [.int (i : Nat), x]) ∧ ∀ xs, Sq H a xs → xs[i]? = some x, fun i H => ∃ xs : List V, Sq H a xs ∧ xs.length = i⟩
theorem turn_enumK {P : Program} {w : World} {K : PySem.W.Frag} {Sq : Hp → Addr → List V → Prop} {IsIt : Heap → Addr → Addr → Nat → Prop} {IsSq : Heap → Addr → Array Value → Prop} {io : Addr → Obj} (S : SeqK P w K Sq IsIt IsSq io)
    {elts : List Expr} {kk : Nat} {tpos : Pos} (a e it : Addr) :
    Turn P w K (.Tuple elts kk tpos) (IteK Sq a) [e, it] e (fun i h => (∃ old, IsEnum h e it ((i : Nat) : Int) old) ∧ IsIt h it a i ∧ e ≠ it ∧ a ≠ it ∧ a ≠ e) where
  mem := by simp
  obj := fun i h st b hb => by
    obtain ⟨⟨old, he⟩, hi, _⟩ := st
    have e' : b = e ∨ b = it := by simpa using hb
    rcases e' with z | z
    · rw [z]; exact ⟨_, he, fun v q => nomatch q⟩
    · rw [z]; exact S.obj _ _ _ _ hi
  keep := fun i h h' st k => let ⟨⟨old, he⟩, hi, hne⟩ := st; ⟨⟨old, k e (by simp) _ he⟩, S.at_ _ _ _ _ _ hi fun o q => k it (by simp) o q, hne⟩
  item := by
    intro X hP hw hK hc i pins s σ H E I hf st hg
    obtain ⟨⟨old, he⟩, hit, hne, hai, hae⟩ := st
    obtain ⟨xs, x, hq, hx⟩ := hg
    obtain ⟨its, rv, p, hz⟩ := S.inv X pins σ H s a xs hP hw hK I hq
    have hn := rv.length
    have hi : i < its.toArray.size := by have := (List.getElem?_eq_some_iff.mp hx).1; simp; omega
    have hh : X.A.in1.handled = none := I.ok.hd hc
    have D := S.draws X.A.in1 it a its.toArray hh hai
    have Gn := GoesN.enumFrom (elts := elts) (x1 := kk) (pos := tpos) 0 D e hne (by simp [hne, Ne.symm hae]) (by simp)
    refine Gn.goes i s _ E hi ⟨⟨old, by rw [Int.zero_add]; exact he⟩, hit, p⟩ fun v h' tk hY hSt hk htk => ?_
    obtain ⟨T, t, y, rfl, hT, hy, hTup⟩ := hY
    rw [Int.zero_add] at hTup
    obtain ⟨⟨old', he'⟩, hit', _⟩ := hSt
    rw [Int.zero_add] at he'
    obtain ⟨u, hu, ru⟩ := rv.get hx
    have ey : y = u := by
      have : its.toArray[i]? = some u := by simpa using hu
      rw [this] at hy; exact (Option.some.inj hy).symm
    subst ey
    have el : e < s.heap.objs.size := Heap.lt_size he
    have il : it < s.heap.objs.size := by obtain ⟨o, q, _⟩ := S.obj _ _ _ _ hit; exact Heap.lt_size q
    have new : ObjOk X.prog X.w (upd H T (.tup [.int (i : Nat), x])) h' T (.tup [.int (i : Nat), x]) :=
      ⟨by show 2 ≤ sizeLine; decide, [.int i t, y], .cons ⟨_, rfl⟩ (.cons ru .nil), hTup⟩
    have I1 : Inv X pins σ (upd H T (.tup [.int (i : Nat), x])) { s with heap := h', toks := tk } :=
      I.turnedNew (ch := [e, it]) (fun b ob hb q => hk b ob (fun z => hb z) q) hf hT new
    refine ⟨.ref T, _, I1, rfl, ⟨T, x, rfl, I.hok.fresh hT, rfl, fun ys hy => by rw [S.inj X pins σ H s a ys xs hK I hy hq]; exact hx⟩, ⟨⟨old', he'⟩, hit', hne, hai, hae⟩, fun b hb => ?_⟩
    have hb' : b < s.heap.objs.size := by
      have e' : b = e ∨ b = it := by simpa using hb
      rcases e' with z | z
      · rw [z]; exact el
      · rw [z]; exact il
    rw [upd_ne (Nat.ne_of_lt (Nat.lt_of_lt_of_le hb' hT))]
    exact (hf b hb).1
  done := by
    intro X hP hw hK hc i pins s σ H E I hf st hg
    obtain ⟨⟨old, he⟩, hit, hne, hai, hae⟩ := st
    obtain ⟨xs, hq, hx⟩ := hg
    obtain ⟨its, rv, p, hz⟩ := S.inv X pins σ H s a xs hP hw hK I hq
    have hn := rv.length
    have ei : i = its.toArray.size := by simp; omega
    subst ei
    have hh : X.A.in1.handled = none := I.ok.hd hc
    have D := S.draws X.A.in1 it a its.toArray hh hai
    have Gn := GoesN.enumFrom (elts := elts) (x1 := kk) (pos := tpos) 0 D e hne (by simp [hne, Ne.symm hae]) (by simp)
    exact Gn.stops s (fun s1 => Inv X pins σ H s1) E ⟨⟨old, by rw [Int.zero_add]; exact he⟩, hit, p⟩ fun h' tk hk htk => I.turnedL (ch := [e, it]) (fun b ob hb q => hk b ob hb q) hf
  self := fun A i s Q E st h => let ⟨⟨_, he⟩, _⟩ := st; wpAny_pyIter_enum he h
set_option maxHeartbeats 2000000 in
theorem meets_enum1 {v : Value} {o : Obj} {H : Heap → Prop} (B : Begins v o H) :
    Meets (Builtin.«enumerate.__new__» ⟨[.type "enumerate", v], []⟩) (fun _ R s => H s.heap ∧
      R (.ok (.ret (.ref (s.heap.push o).objs.size))) { s with heap := (s.heap.push o).push { cls := .type "enumerate", data := .fields #[.none, .bool false, .ref s.heap.objs.size, rawInt 0, .none, .none] } }) :=
  .of_wp fun prog w A R s h => by
    obtain ⟨hp, g, d, tk, os⟩ := s; obtain ⟨h1, h⟩ := h
    have hsub := sub_enumerate
    have q1 : ∀ {A' : Around} {E : Value → Shared → Prop} {Q : Value → Shared → Prop}, Q (.ref hp.objs.size) ⟨hp.push o, g, d, tk, os⟩ → wpAny (model prog w) A' (pyIter v) Q E ⟨hp, g, d, tk, os⟩ :=
      fun q => B.iter prog w _ _ ⟨hp, g, d, tk, os⟩ _ h1 q
    wp_walk using q1
    refine wpAny_stack_any fun st => wpAny_pure ?_
    split
    · rename_i c _ _ _ _ _
      cases (c == Value.type "enumerate")
      · wp_walk using q1
        exact ⟨_, rfl, h⟩
      · wp_walk using q1
        exact ⟨_, rfl, h⟩
    · wp_walk using q1
      exact ⟨_, rfl, h⟩
theorem enum1_begins {prog : Program} {w : World} {A : Around} {E : Value → Shared → Prop} {s : Shared} {v : Value} {o : Obj} {H : Heap → Prop} {Q : Value → Shared → Prop} (B : Begins v o H) (h1 : H s.heap)
    (h : ∀ h', IsEnum h' (s.heap.objs.size + 1) s.heap.objs.size 0 .none → h'.get? s.heap.objs.size = some o → h'.objs.size = s.heap.objs.size + 2 →
      (∀ b o, s.heap.get? b = some o → h'.get? b = some o) → Q (.ref (s.heap.objs.size + 1)) { s with heap := h' }) :
    wpAny (model prog w) A (call (.type "enumerate") [v]) Q E s := by
  refine callType_new F.called_enumerate (by decide) (F.typeCall_enumerate_1 _) (F.newCall_enumerate_1 _) (fun obj => F.args_object_init_2 obj _) F.entry_enumerate_new
    (meets_enum1 B) ⟨h1, ?_⟩
  have hz : (s.heap.push o).objs.size = s.heap.objs.size + 1 := Heap.size_push ..
  show _ ∧ _
  rw [hz]
  have he : IsEnum ((s.heap.push o).push { cls := .type "enumerate", data := .fields #[.none, .bool false, .ref s.heap.objs.size, rawInt 0, .none, .none] }) (s.heap.objs.size + 1) s.heap.objs.size 0 .none := by
    have := Heap.get?_push_size (s.heap.push o) (o := { cls := .type "enumerate", data := .fields #[.none, .bool false, .ref s.heap.objs.size, rawInt 0, .none, .none] }) rfl
    rw [hz] at this; exact this
  refine ⟨⟨_, he, rfl⟩, h _ he (Heap.get?_push_of_some _ (Heap.get?_push_size _ B.free)) (by rw [Heap.size_push, hz]) fun b o x => Heap.get?_push_of_some _ (Heap.get?_push_of_some _ x)⟩
theorem enum_go {X : Cx} {Sq : Hp → Addr → List V → Prop} {IsIt : Heap → Addr → Addr → Nat → Prop} {IsSq : Heap → Addr → Array Value → Prop} {io : Addr → Obj} (S : SeqK X.prog X.w X.K Sq IsIt IsSq io) {pins : List (Addr × Obj)} {σ : L2.St} {H1 : Hp} {s1 : Shared} {a : Addr} {xs : List V} {R : It → Hp → Prop} {elts : List Expr} {kk : Nat} {tpos : Pos}
    (I1 : Inv X pins σ H1 s1) (hq : Sq H1 a xs) (q : R (IteK Sq a) H1) : wpAny (model X.prog X.w) X.A (call (.type "enumerate") [.ref a]) (fun v s2 => wpAny (model X.prog X.w) X.A (pyIter v) (PIE X pins σ (.Tuple elts kk tpos) R) X.xe s2) X.xe s1 := by
  obtain ⟨its, rv, p, hz⟩ := S.inv X pins σ H1 s1 a xs rfl rfl rfl I1 hq
  refine enum1_begins (S.beg a its.toArray) p fun h' he hit hsz hk => wpAny_pyIter_enum he ?_
  have I2 : Inv X pins σ H1 { s1 with heap := h' } := I1.kept (t' := s1.toks) hk
  refine ⟨s1.heap.objs.size + 1, [s1.heap.objs.size + 1, s1.heap.objs.size], _, _, H1, rfl, I2, turn_enumK S a (s1.heap.objs.size + 1) s1.heap.objs.size, ⟨⟨.none, he⟩, S.it0 _ _ _ hit, Nat.succ_ne_self _, Nat.ne_of_lt hz, Nat.ne_of_lt (Nat.lt_succ_of_lt hz)⟩, fun b hb => ?_, q⟩
  have e' : b = s1.heap.objs.size + 1 ∨ b = s1.heap.objs.size := by simpa using hb
  have hle : s1.heap.objs.size ≤ b := by
    rcases e' with z | z
    · rw [z]; exact Nat.le_add_right _ _
    · rw [z]; exact Nat.le_refl _
  exact I1.fpOk hle (I1.hok.fresh hle)
/-- enumerate of a list or a tuple -/
def iEnumK (K : PySem.W.Frag) (ta : TA) : TI := fun σ H R => ta σ H fun vs H1 => ∃ a, vs = [.ref a] ∧ ((∃ xs, SqL K H1 a xs ∧ R (IteK (SqL K) a) H1) ∨ (∃ xs, SqT K H1 a xs ∧ R (IteK (SqT K) a) H1))
theorem pi_enumK {X : Cx} {e : Expr} {ta : TA} {p pos tpos : Pos} {elts : List Expr} {kk : Nat} (hg : Gl X "enumerate") (hm : X.mg "enumerate" = none) (ha : PA X [e] ta) (hs : starEach [e] X.env = [(false, eval e X.env)] := by rfl) :
    PI X (.Tuple elts kk tpos) (.Call (.Name "enumerate" p) [e] [] pos) (iEnumK X.K ta) := by
  refine ⟨fun pins s σ H R I h => ?_⟩
  refine Call_ (ld_blt I hg hm boot_enumerate (PyProof.Rows.callWith_type1 (thn (ha.run pos pins s σ H _ I h) fun us s1 ⟨vs, H1, I1, r1, q1⟩ => ?_) hs rfl))
  obtain ⟨a, ex, q1⟩ := q1
  subst ex
  cases r1 with
  | cons r rr =>
    cases rr
    cases r
    rcases q1 with ⟨xs, hq, q⟩ | ⟨xs, hq, q⟩
    · exact enum_go (seqK_list X.prog X.w X.K) I1 hq q
    · exact enum_go (seqK_tup X.prog X.w X.K) I1 hq q

def ItzK (Sq Sq2 : Hp → Addr → List V → Prop) (a b : Addr) : It :=
  ⟨fun i H => ∃ (xs ys : List V) (x y : V), Sq H a xs ∧ Sq2 H b ys ∧ xs[i]? = some x ∧ ys[i]? = some y,
    fun i H v H' => ∃ T x y, v = .ref T ∧ H T = none ∧ H' = upd H T (.tup [x, y]) ∧ (∀ xs, Sq H a xs → xs[i]? = some x) ∧ ∀ ys, Sq2 H b ys → ys[i]? = some y,
    fun i H => ∃ xs ys : List V, Sq H a xs ∧ Sq2 H b ys ∧ min xs.length ys.length = i⟩
theorem turn_zipK {P : Program} {w : World} {K : PySem.W.Frag} {Sq Sq2 : Hp → Addr → List V → Prop} {IsIt IsIt2 : Heap → Addr → Addr → Nat → Prop} {IsSq IsSq2 : Heap → Addr → Array Value → Prop} {io io2 : Addr → Obj}
    (S : SeqK P w K Sq IsIt IsSq io) (S2 : SeqK P w K Sq2 IsIt2 IsSq2 io2) {elts : List Expr} {kk : Nat} {tpos : Pos} {a b z TI TO i1 i2 : Addr} (Z : ZipSep2 z TI TO i1 i2 [i1, a] [i2, b]) (n1 : a ≠ i1) (n2 : b ≠ i2) :
    Turn P w K (.Tuple elts kk tpos) (ItzK Sq Sq2 a b) [z, TI, TO, i1, i2] z (fun i h => IsZip h z TI TO .none ∧ IsTupOf2 h TI (.ref i1) (.ref i2) ∧ (∃ x y, IsTupOf2 h TO x y) ∧ IsIt h i1 a i ∧ IsIt2 h i2 b i) where
  mem := by simp
  obj := fun i h st c hc => by
    obtain ⟨hz, hTI, ⟨x, y, hTO⟩, h1, h2⟩ := st
    have e' : c = z ∨ c = TI ∨ c = TO ∨ c = i1 ∨ c = i2 := by simpa using hc
    rcases e' with q | q | q | q | q
    · rw [q]; exact ⟨_, hz, fun v q => nomatch q⟩
    · rw [q]; exact ⟨_, hTI, fun v q => nomatch q⟩
    · rw [q]; exact ⟨_, hTO, fun v q => nomatch q⟩
    · rw [q]; exact S.obj _ _ _ _ h1
    · rw [q]; exact S2.obj _ _ _ _ h2
  keep := fun i h h' st k => by
    obtain ⟨hz, hTI, ⟨x, y, hTO⟩, h1, h2⟩ := st
    exact ⟨k z (by simp) _ hz, k TI (by simp) _ hTI, ⟨x, y, k TO (by simp) _ hTO⟩, S.at_ _ _ _ _ _ h1 fun o q => k i1 (by simp) o q, S2.at_ _ _ _ _ _ h2 fun o q => k i2 (by simp) o q⟩
  item := by
    intro X hP hw hK hc i pins s σ H E I hf st hg
    obtain ⟨hz, hTI, ⟨x0, y0, hTO⟩, h1, h2⟩ := st
    obtain ⟨xs, ys, x, y, hqx, hqy, hx, hy⟩ := hg
    obtain ⟨its, rv, p, _⟩ := S.inv X pins σ H s a xs hP hw hK I hqx
    obtain ⟨its2, rv2, p2, _⟩ := S2.inv X pins σ H s b ys hP hw hK I hqy
    have l1 := rv.length
    have l2 := rv2.length
    have hh : X.A.in1.handled = none := I.ok.hd hc
    have hi1 : i < its.toArray.size := by have := (List.getElem?_eq_some_iff.mp hx).1; simp; omega
    have hi2 : i < its2.toArray.size := by have := (List.getElem?_eq_some_iff.mp hy).1; simp; omega
    have Gn := GoesN.zip2 (elts := elts) (x1 := kk) (pos := tpos) Z (S.draws X.A.in1 i1 a its.toArray hh n1) (S2.draws X.A.in1 i2 b its2.toArray hh n2)
    refine Gn.goes i s _ E (by omega) ⟨hz, hTI, ⟨x0, y0, hTO⟩, ⟨h1, p⟩, ⟨h2, p2⟩⟩ fun v h' tk hY hSt hk htk => ?_
    obtain ⟨T, ux, uy, rfl, hT, hux, huy, hTup⟩ := hY
    obtain ⟨hz', hTI', hTO', ⟨h1', _⟩, ⟨h2', _⟩⟩ := hSt
    obtain ⟨u, hu, ru⟩ := rv.get hx
    obtain ⟨u2, hu2, ru2⟩ := rv2.get hy
    have e1 : ux = u := by
      have : its.toArray[i]? = some u := by simpa using hu
      rw [this] at hux; exact (Option.some.inj hux).symm
    have e2 : uy = u2 := by
      have : its2.toArray[i]? = some u2 := by simpa using hu2
      rw [this] at huy; exact (Option.some.inj huy).symm
    subst e1 e2
    have new : ObjOk X.prog X.w (upd H T (.tup [x, y])) h' T (.tup [x, y]) :=
      ⟨by show 2 ≤ sizeLine; decide, [ux, uy], .cons ru (.cons ru2 .nil), hTup⟩
    have I1 : Inv X pins σ (upd H T (.tup [x, y])) { s with heap := h', toks := tk } :=
      I.turnedNew (ch := [z, TO, i1, i2]) (fun c o hb q => hk c o (fun q' => hb q') q) (fun c hcm => hf c (by simp only [List.mem_cons, List.not_mem_nil, or_false] at hcm ⊢; rcases hcm with q | q | q | q <;> simp [q])) hT new
    refine ⟨.ref T, _, I1, rfl, ⟨T, x, y, rfl, I.hok.fresh hT, rfl, fun l hl => by rw [S.inj X pins σ H s a l xs hK I hl hqx]; exact hx, fun l hl => by rw [S2.inj X pins σ H s b l ys hK I hl hqy]; exact hy⟩, ⟨hz', hTI', hTO', h1', h2'⟩, fun c hcm => ?_⟩
    have hlt : c < s.heap.objs.size := by
      have e' : c = z ∨ c = TI ∨ c = TO ∨ c = i1 ∨ c = i2 := by simpa using hcm
      rcases e' with q | q | q | q | q
      · rw [q]; exact Heap.lt_size hz
      · rw [q]; exact Heap.lt_size hTI
      · rw [q]; exact Heap.lt_size hTO
      · rw [q]; obtain ⟨o, e1, _⟩ := S.obj _ _ _ _ h1; exact Heap.lt_size e1
      · rw [q]; obtain ⟨o, e2, _⟩ := S2.obj _ _ _ _ h2; exact Heap.lt_size e2
    rw [upd_ne (Nat.ne_of_lt (Nat.lt_of_lt_of_le hlt hT))]
    exact (hf c hcm).1
  done := by
    intro X hP hw hK hc i pins s σ H E I hf st hg
    obtain ⟨hz, hTI, ⟨x0, y0, hTO⟩, h1, h2⟩ := st
    obtain ⟨xs, ys, hqx, hqy, hend⟩ := hg
    obtain ⟨its, rv, p, _⟩ := S.inv X pins σ H s a xs hP hw hK I hqx
    obtain ⟨its2, rv2, p2, _⟩ := S2.inv X pins σ H s b ys hP hw hK I hqy
    have l1 := rv.length
    have l2 := rv2.length
    have hh : X.A.in1.handled = none := I.ok.hd hc
    have Gn := GoesN.zip2 (elts := elts) (x1 := kk) (pos := tpos) Z (S.draws X.A.in1 i1 a its.toArray hh n1) (S2.draws X.A.in1 i2 b its2.toArray hh n2)
    have ei : i = min its.toArray.size its2.toArray.size := by simp; omega
    subst ei
    exact Gn.stops s (fun s1 => Inv X pins σ H s1) E ⟨hz, hTI, ⟨x0, y0, hTO⟩, ⟨h1, p⟩, ⟨h2, p2⟩⟩ fun h' tk hk htk => I.turnedL (ch := [z, TO, i1, i2]) (fun c o hb q => hk c o hb q) (fun c hcm => hf c (by simp only [List.mem_cons, List.not_mem_nil, or_false] at hcm ⊢; rcases hcm with q | q | q | q <;> simp [q]))
  self := fun A i s Q E st h => wpAny_pyIter_zip st.1 h
theorem zip_go {X : Cx} {Sq Sq2 : Hp → Addr → List V → Prop} {IsIt IsIt2 : Heap → Addr → Addr → Nat → Prop} {IsSq IsSq2 : Heap → Addr → Array Value → Prop} {io io2 : Addr → Obj} (S : SeqK X.prog X.w X.K Sq IsIt IsSq io) (S2 : SeqK X.prog X.w X.K Sq2 IsIt2 IsSq2 io2)
    {pins : List (Addr × Obj)} {σ : L2.St} {H1 : Hp} {s1 : Shared} {a b : Addr} {xs ys : List V} {R : It → Hp → Prop} {elts : List Expr} {kk : Nat} {tpos : Pos}
    (I1 : Inv X pins σ H1 s1) (hq : Sq H1 a xs) (hq2 : Sq2 H1 b ys) (q : R (ItzK Sq Sq2 a b) H1) : wpAny (model X.prog X.w) X.A (call (.type "zip") [.ref a, .ref b]) (fun v s2 => wpAny (model X.prog X.w) X.A (pyIter v) (PIE X pins σ (.Tuple elts kk tpos) R) X.xe s2) X.xe s1 := by
  obtain ⟨its, rv, p, hz⟩ := S.inv X pins σ H1 s1 a xs rfl rfl rfl I1 hq
  obtain ⟨its2, rv2, p2, hz2⟩ := S2.inv X pins σ H1 s1 b ys rfl rfl rfl I1 hq2
  refine zip_begins2 (S.beg a its.toArray) (S2.beg b its2.toArray) p p2 fun h' hzz hTI hTO h1 h2 hsz hk => wpAny_pyIter_zip hzz ?_
  have I2 : Inv X pins σ H1 { s1 with heap := h' } := I1.kept (t' := s1.toks) hk
  have Z : ZipSep2 (s1.heap.objs.size + 4) (s1.heap.objs.size + 2) (s1.heap.objs.size + 3) s1.heap.objs.size (s1.heap.objs.size + 1) [s1.heap.objs.size, a] [s1.heap.objs.size + 1, b] := zip_sep2 (fp1 := [a]) (fp2 := [b]) (by simpa using hz) (by simpa using hz2)
  refine ⟨s1.heap.objs.size + 4, [s1.heap.objs.size + 4, s1.heap.objs.size + 2, s1.heap.objs.size + 3, s1.heap.objs.size, s1.heap.objs.size + 1], _, _, H1, rfl, I2, turn_zipK S S2 Z (Nat.ne_of_lt hz) (Nat.ne_of_lt (Nat.lt_succ_of_lt hz2)), ⟨hzz, hTI, ⟨_, _, hTO⟩, S.it0 _ _ _ h1, S2.it0 _ _ _ h2⟩, fun c hcm => ?_, q⟩
  have e' : c = s1.heap.objs.size + 4 ∨ c = s1.heap.objs.size + 2 ∨ c = s1.heap.objs.size + 3 ∨ c = s1.heap.objs.size ∨ c = s1.heap.objs.size + 1 := by simpa using hcm
  have hle : s1.heap.objs.size ≤ c := by
    rcases e' with z | z | z | z | z
    · rw [z]; exact Nat.le_add_right _ _
    · rw [z]; exact Nat.le_add_right _ _
    · rw [z]; exact Nat.le_add_right _ _
    · rw [z]; exact Nat.le_refl _
    · rw [z]; exact Nat.le_add_right _ _
  exact I1.fpOk hle (I1.hok.fresh hle)
/-- zip of two, each a list or a tuple -/
def iZipK (K : PySem.W.Frag) (ta : TA) : TI := fun σ H R => ta σ H fun vs H1 => ∃ a b, vs = [.ref a, .ref b] ∧ ((∃ xs ys, SqL K H1 a xs ∧ SqL K H1 b ys ∧ R (ItzK (SqL K) (SqL K) a b) H1) ∨ (∃ xs ys, SqL K H1 a xs ∧ SqT K H1 b ys ∧ R (ItzK (SqL K) (SqT K) a b) H1) ∨
  (∃ xs ys, SqT K H1 a xs ∧ SqL K H1 b ys ∧ R (ItzK (SqT K) (SqL K) a b) H1) ∨ (∃ xs ys, SqT K H1 a xs ∧ SqT K H1 b ys ∧ R (ItzK (SqT K) (SqT K) a b) H1))
theorem pi_zipK {X : Cx} {e e2 : Expr} {ta : TA} {p pos tpos : Pos} {elts : List Expr} {kk : Nat} (hg : Gl X "zip") (hm : X.mg "zip" = none) (ha : PA X [e, e2] ta)
    (hs : starEach [e, e2] X.env = (false, eval e X.env) :: starEach [e2] X.env := by rfl) (hpl : (backTo pos (starEach [e2] X.env)).any (·.1) = false := by rfl) :
    PI X (.Tuple elts kk tpos) (.Call (.Name "zip" p) [e, e2] [] pos) (iZipK X.K ta) := by
  refine ⟨fun pins s σ H R I h => ?_⟩
  refine Call_ (ld_blt I hg hm PyProof.Rows.boot_zip (PyProof.Rows.callWith_type1 (thn (ha.run pos pins s σ H _ I h) fun us s1 ⟨vs, H1, I1, r1, q1⟩ => ?_) hs hpl))
  obtain ⟨a, b, ex, q1⟩ := q1
  subst ex
  cases r1 with
  | cons r rr =>
    cases rr with
    | cons r' rr =>
      cases rr
      cases r
      cases r'
      rcases q1 with ⟨xs, ys, h1, h2, q⟩ | ⟨xs, ys, h1, h2, q⟩ | ⟨xs, ys, h1, h2, q⟩ | ⟨xs, ys, h1, h2, q⟩
      · exact zip_go (seqK_list ..) (seqK_list ..) I1 h1 h2 q
      · exact zip_go (seqK_list ..) (seqK_tup ..) I1 h1 h2 q
      · exact zip_go (seqK_tup ..) (seqK_list ..) I1 h1 h2 q
      · exact zip_go (seqK_tup ..) (seqK_tup ..) I1 h1 h2 q
end MR

namespace MR
open PySem PySem.Spec PyProof.Rows L2

/-- what a value is walked as -/
def srcOf (d : D) (h : Hh) : Option Src := match d with
  | .tup ds => some ⟨ds, none⟩
  | .lst ds => some ⟨ds, none⟩
  | .scr ns => some ⟨ns.map D.int, none⟩
  | .ref i => match h[i]? with
    | some (.lst ds) => some ⟨ds, some (i, ds)⟩
    | _ => none
  | .str x => if x.cps.size ≤ sizeLine then some ⟨x.cps.toList.map fun c => .str ⟨#[c]⟩, none⟩ else none
  | _ => none
/-- a list or a tuple as it is read -/
def seqOf (d : D) (h : Hh) : Option Src := match d with
  | .str _ => none
  | d => srcOf d h

section
variable {G : Gm} {rho : Rm} {H : Hp} {hh : Hh}
/-- a sequence at an address, as long as it is as it was -/
def SeqAt (G : Gm) (rho1 : Rm) (H1 : Hp) (src : Src) (a : Addr) (Sq : Hp → Addr → List V → Prop) : Prop :=
  src.items.length ≤ sizeLine ∧ ∀ rho hh H, Step rho1 H1 rho H → Rep G rho hh H → gOk src.live hh → ∃ vs, Sq H a vs ∧ Dens G rho H src.items vs
theorem SeqAt.here {src : Src} {a : Addr} {Sq : Hp → Addr → List V → Prop} (x : SeqAt G rho H src a Sq) (R : Rep G rho hh H) (g : gOk src.live hh) : ∃ vs, Sq H a vs ∧ Dens G rho H src.items vs := x.2 rho hh H .refl R g
theorem srcOf_live {d : D} {src : Src} (h : srcOf d hh = some src) : gOk src.live hh := by
  intro i ds e
  cases d with
  | wtp ds => cases h
  | tup ds => cases h; cases e
  | lst ds => cases h; cases e
  | scr ns => cases h; cases e
  | ref j =>
    have h : (match hh[j]? with
      | some (O.lst ds) => some (⟨ds, some (j, ds)⟩ : Src)
      | _ => none) = some src := h
    split at h
    · rename_i ds2 e2
      cases h
      cases e
      exact e2
    · cases h
  | str x =>
    have h : (if x.cps.size ≤ sizeLine then some (⟨x.cps.toList.map fun c => .str ⟨#[c]⟩, none⟩ : Src) else none) = some src := h
    split at h
    · cases h; cases e
    · cases h
  | non => cases h
  | bl b => cases h
  | int i => cases h
  | glb u => cases h
  | dct u w => cases h
theorem seqOf_srcOf {d : D} {src : Src} (h : seqOf d hh = some src) : srcOf d hh = some src := by
  cases d <;> first | exact h | cases h
theorem dens_ints (ns : List Int) : Dens G rho H (ns.map D.int) (ns.map V.int) := by
  induction ns with
  | nil => rfl
  | cons n ns ih => exact ⟨.int n, ns.map V.int, rfl, rfl, ih⟩
theorem seqAt_of {d : D} {v : V} {src : Src} (R : Rep G rho hh H) (q : Den G rho H d v) (h : seqOf d hh = some src) : ∃ a, v = .ref a ∧ (SeqAt G rho H src a (SqL G.K) ∨ SeqAt G rho H src a (SqT G.K)) := by
  cases d with
  | tup ds =>
    cases h
    rw [Den] at q
    obtain ⟨a, vs, rfl, hs, l, q⟩ := q
    have e := q.length
    exact ⟨a, rfl, .inr ⟨by show ds.length ≤ sizeLine; omega, fun rho2 hh2 H2 S R2 _ => ⟨vs, sqT_step R S hs.t, Dens.step R S _ _ q⟩⟩⟩
  | wtp ds => cases h
  | lst ds =>
    cases h
    rw [Den] at q
    obtain ⟨a, vs, rfl, hs, n, n2, l, q⟩ := q
    have e := q.length
    exact ⟨a, rfl, .inl ⟨by show ds.length ≤ sizeLine; omega, fun rho2 hh2 H2 S R2 _ => ⟨vs, .inl (.inl (S.keep a _ hs n)), Dens.step R S _ _ q⟩⟩⟩
  | scr ns =>
    cases h
    have q0 := q
    rw [Den] at q
    obtain ⟨a, rfl, hs, l⟩ := q
    refine ⟨a, rfl, .inl ⟨by simpa using l, fun rho2 hh2 H2 S R2 _ => ⟨ns.map V.int, ?_, ?_⟩⟩⟩
    · have q2 := Den.step R S _ _ q0
      rw [Den] at q2
      obtain ⟨a2, e2, hs2, _⟩ := q2
      cases e2
      rcases hs2 with ⟨o, hs2⟩ | hs2
      · exact .inl (.inr ⟨o, hs2⟩)
      · exact .inr hs2
    · exact dens_ints ns
  | ref i =>
    have h : (match hh[i]? with
      | some (O.lst ds) => some (⟨ds, some (i, ds)⟩ : Src)
      | _ => none) = some src := h
    split at h
    · rename_i ds e
      cases h
      rw [Den] at q
      obtain ⟨a, e1, rfl⟩ := q
      obtain ⟨vs, e2, l, q⟩ := R.ob i a _ e1 e
      have el := q.length
      refine ⟨a, rfl, .inl ⟨by show ds.length ≤ sizeLine; omega, fun rho2 hh2 H2 S R2 g => ?_⟩⟩
      obtain ⟨vs2, e3, l2, q2⟩ := R2.ob i a _ (S.get e1) (g i ds rfl)
      exact ⟨vs2, SqL.of e3, q2⟩
    · cases h
  | non => cases h
  | bl b => cases h
  | int i => cases h
  | str x => cases h
  | glb u => cases h
  | dct u w => cases h
theorem walkD_seq {src : Src} {a : Addr} {Sq : Hp → Addr → List V → Prop} {J : It} (x : SeqAt G rho H src a Sq) (hw : ∀ xs, Walk J xs.length (fun H => Sq H a xs) (YAt xs)) : WalkD G rho H src J := by
  refine ⟨x.1, fun rho2 hh2 H2 S R2 g => ?_⟩
  obtain ⟨vs, hs, q⟩ := x.2 rho2 hh2 H2 S R2 g
  have w := hw vs
  have e := q.length
  refine ⟨fun i hi => w.goes i H2 (by omega) hs, by rw [e]; exact w.stops H2 hs, fun i d y H' hd hy => ?_⟩
  have hi : i < vs.length := by have := (List.getElem?_eq_some_iff.mp hd).1; omega
  obtain ⟨e1, e2⟩ := w.yields i H2 y H' hi hs hy
  subst e1
  obtain ⟨v, e3, q3⟩ := q.get hd
  rw [e3] at e2; cases e2
  exact ⟨.refl, R2, q3⟩
end

def iSeq (K : PySem.W.Frag) (tl : TE) : TI := fun σ H R => tl σ H fun x H1 => (∃ a, x = .ref a ∧ ((∃ xs, SqL K H1 a xs) ∧ R (Itl K a) H1 ∨ (∃ xs, SqT K H1 a xs) ∧ R (Itt K a) H1)) ∨ ∃ z, x = .str z ∧ R (Its z) H1
section
variable {X : Cx} {tg : Expr}
theorem pi_seq {l : Expr} {tl : TE} (hl : PE X l tl) : PI X tg l (iSeq X.K tl) := by
  refine ⟨fun pins s σ H R I h => ?_⟩
  refine thn (hl.run pins s σ H _ I h) fun v s1 ⟨x, H1, I1, r1, q1⟩ => ?_
  rcases q1 with ⟨a, e, q1⟩ | ⟨z, e, q1⟩
  · subst e
    cases r1
    rcases q1 with ⟨⟨xs, hq⟩, q⟩ | ⟨⟨xs, hq⟩, q⟩
    · obtain ⟨its, rv, p, hz⟩ := I1.list hq
      refine wpAny_pyIter_list p.isList ?_
      refine ⟨s1.heap.objs.size, [s1.heap.objs.size], _, _, H1, rfl, I1.kept (t' := s1.toks) fun b o e => Heap.get?_push_of_some _ e, turn_list a _, ⟨_, Heap.get?_push_size _ rfl, rfl, rfl⟩, fun b hb => ?_, q⟩
      have e : b = s1.heap.objs.size := by simpa using hb
      subst e
      exact I1.fpOk (Nat.le_refl _) (I1.hok.fresh (Nat.le_refl _))
    · obtain ⟨its, rv, p, hz⟩ := I1.tuple hq
      refine wpAny_pyIter_tuple (show s1.heap.IsTuple a its.toArray from p) ?_
      refine ⟨s1.heap.objs.size, [s1.heap.objs.size], _, _, H1, rfl, I1.kept (t' := s1.toks) fun b o e => Heap.get?_push_of_some _ e, turn_tuple a _, ⟨_, Heap.get?_push_size _ rfl, rfl, rfl⟩, fun b hb => ?_, q⟩
      have e : b = s1.heap.objs.size := by simpa using hb
      subst e
      exact I1.fpOk (Nat.le_refl _) (I1.hok.fresh (Nat.le_refl _))
  · subst e
    obtain ⟨t, rfl⟩ := r1
    cases ha : z.cps.all (· < 128)
    · exact wpAny_pyIter_wide ha (pi_one (tk := s1.toks) I1 _ (turn_str _ z t "str_iterator" (.inr rfl)) ⟨_, Heap.get?_push_size _ rfl, rfl, rfl⟩ q1)
    · exact wpAny_pyIter_ascii ha (pi_one (tk := s1.toks) I1 _ (turn_str _ z t "str_ascii_iterator" (.inl rfl)) ⟨_, Heap.get?_push_size _ rfl, rfl, rfl⟩ q1)
def iOf (m : ME) : MI := fun env h => (m env h).bind fun d h1 => lift (srcOf d h1) h1
theorem di_seq {l : Expr} {m : ME} (h : DE X l m) : DI X tg l (iOf m) :=
  ⟨fun W tk => pi_weak (pi_seq (h.run W tk)) fun σ H R q => tE_of (Rl := WalkD (Cx.gm X)) q fun rho env hh H1 d v Rp E qd p => by
    obtain ⟨src, es, pp⟩ := lift_post p
    clear p
    cases d with
    | str x =>
      have es : (if x.cps.size ≤ sizeLine then some (⟨x.cps.toList.map fun c => .str ⟨#[c]⟩, none⟩ : Src) else none) = some src := es
      split at es
      · rename_i hx
        cases es
        refine .inr ⟨x, qd, pp rho H1 _ .refl Rp ⟨by simpa using hx, fun rho2 hh2 H2 S R2 _ => ?_⟩⟩
        have w := walk_str (z := x)
        refine ⟨fun i hi => w.goes i H2 (by simpa using hi) True.intro, by simpa using w.stops H2 True.intro, fun i d y H' hd hy => ?_⟩
        have hi : i < x.cps.size := by have := (List.getElem?_eq_some_iff.mp hd).1; simpa using this
        obtain ⟨e1, c, ec, e2⟩ := w.yields i H2 y H' hi True.intro hy
        subst e1
        have ed : d = .str ⟨#[c]⟩ := by
          simp only [List.getElem?_map] at hd
          have : x.cps.toList[i]? = some c := by simpa using ec
          rw [this] at hd; exact (Option.some.inj hd).symm
        subst ed
        exact ⟨.refl, R2, e2⟩
      · cases es
    | tup ds =>
      obtain ⟨a, rfl, sq⟩ := seqAt_of Rp qd (src := src) es
      refine .inl ⟨a, rfl, ?_⟩
      rcases sq with sq | sq
      · obtain ⟨vs, h1, _⟩ := sq.here Rp (srcOf_live es)
        exact .inl ⟨⟨vs, h1⟩, pp rho H1 _ .refl Rp (walkD_seq sq fun xs => walk_list)⟩
      · obtain ⟨vs, h1, _⟩ := sq.here Rp (srcOf_live es)
        exact .inr ⟨⟨vs, h1⟩, pp rho H1 _ .refl Rp (walkD_seq sq fun xs => walk_tup)⟩
    | lst ds =>
      obtain ⟨a, rfl, sq⟩ := seqAt_of Rp qd (src := src) es
      refine .inl ⟨a, rfl, ?_⟩
      rcases sq with sq | sq
      · obtain ⟨vs, h1, _⟩ := sq.here Rp (srcOf_live es)
        exact .inl ⟨⟨vs, h1⟩, pp rho H1 _ .refl Rp (walkD_seq sq fun xs => walk_list)⟩
      · obtain ⟨vs, h1, _⟩ := sq.here Rp (srcOf_live es)
        exact .inr ⟨⟨vs, h1⟩, pp rho H1 _ .refl Rp (walkD_seq sq fun xs => walk_tup)⟩
    | scr ds =>
      obtain ⟨a, rfl, sq⟩ := seqAt_of Rp qd (src := src) es
      refine .inl ⟨a, rfl, ?_⟩
      rcases sq with sq | sq
      · obtain ⟨vs, h1, _⟩ := sq.here Rp (srcOf_live es)
        exact .inl ⟨⟨vs, h1⟩, pp rho H1 _ .refl Rp (walkD_seq sq fun xs => walk_list)⟩
      · obtain ⟨vs, h1, _⟩ := sq.here Rp (srcOf_live es)
        exact .inr ⟨⟨vs, h1⟩, pp rho H1 _ .refl Rp (walkD_seq sq fun xs => walk_tup)⟩
    | ref i =>
      obtain ⟨a, rfl, sq⟩ := seqAt_of Rp qd (src := src) es
      refine .inl ⟨a, rfl, ?_⟩
      rcases sq with sq | sq
      · obtain ⟨vs, h1, _⟩ := sq.here Rp (srcOf_live es)
        exact .inl ⟨⟨vs, h1⟩, pp rho H1 _ .refl Rp (walkD_seq sq fun xs => walk_list)⟩
      · obtain ⟨vs, h1, _⟩ := sq.here Rp (srcOf_live es)
        exact .inr ⟨⟨vs, h1⟩, pp rho H1 _ .refl Rp (walkD_seq sq fun xs => walk_tup)⟩
    | wtp ds => cases es
    | non => cases es
    | bl b => cases es
    | int i => cases es
    | glb u => cases es
    | dct u w => cases es⟩

def rangeD (lo hi : Int) : List D := (List.range (hi - lo).toNat).map fun i : Nat => D.int (lo + (i : Int))
def rng1 (ds : List D) (_ : Hh) : Option Src := match ds with
  | [.int j] => if -1000000 ≤ j ∧ j ≤ 1000000 then some ⟨rangeD 0 j, none⟩ else none
  | _ => none
def rng2 (ds : List D) (_ : Hh) : Option Src := match ds with
  | [.int i, .int j] => if (-1000000 ≤ i ∧ i ≤ 1000000) ∧ -1000000 ≤ j ∧ j ≤ 1000000 then some ⟨rangeD i j, none⟩ else none
  | _ => none
def iA (f : List D → Hh → Option Src) (ms : MA) : MI := fun env h => (ms env h).bind fun ds h1 => lift (f ds h1) h1
theorem walkD_range {G : Gm} {rho : Rm} {H : Hp} {lo : Int} {n : Nat} {hi : Int} (hn : n = (hi - lo).toNat) (hz : n ≤ sizeLine) : WalkD G rho H ⟨rangeD lo hi, none⟩ (Itr lo n) := by
  subst hn
  refine ⟨by simpa [rangeD] using hz, fun rho2 hh2 H2 S R2 _ => ?_⟩
  have w := walk_range (lo := lo) (n := (hi - lo).toNat)
  refine ⟨fun i h => w.goes i H2 (by simpa [rangeD] using h) True.intro, by simpa [rangeD] using w.stops H2 True.intro, fun i d y H' hd hy => ?_⟩
  have hi : i < (hi - lo).toNat := by have := (List.getElem?_eq_some_iff.mp hd).1; simpa [rangeD] using this
  obtain ⟨e1, e2⟩ := w.yields i H2 y H' hi True.intro hy
  subst e1 e2
  have ed : d = .int (lo + i) := by
    unfold rangeD at hd
    rw [List.getElem?_map, List.getElem?_range hi] at hd
    exact (Option.some.inj hd).symm
  subst ed
  exact ⟨.refl, R2, rfl⟩
theorem di_range1 {a : Expr} {ms : MA} {p pos : Pos} (hg : Gl X "range") (hm : X.mg "range" = none) (ha : DA X [a] ms) (hs : starEach [a] X.env = [(false, eval a X.env)] := by rfl) : DI X tg (.Call (.Name "range" p) [a] [] pos) (iA rng1 ms) :=
  ⟨fun W tk => pi_weak (pi_range1 hg hm (ha.run W tk) hs) fun σ H R q => tA_of (Rl := WalkD (Cx.gm X)) q fun rho env hh H1 ds vs Rp E qd p => by
    obtain ⟨src, es, p⟩ := lift_post p
    unfold rng1 at es
    split at es
    · rename_i j
      split at es
      · rename_i hj
        cases es
        rw [Dens] at qd
        obtain ⟨v, r, rfl, hv, hr⟩ := qd
        rw [Dens] at hr
        subst hr
        exact ⟨j, by rw [show v = .int j from hv], by omega, by omega, p rho H1 _ .refl Rp (walkD_range (by simp) (by rw [sizeLine_eq]; omega))⟩
      · cases es
    · cases es⟩
def enumD (ds : List D) : List D := ds.zipIdx.map fun p => D.wtp [.int (p.2 : Int), p.1]
def enm (ds : List D) (h : Hh) : Option Src := match ds with
  | [d] => (seqOf d h).map fun src => ⟨enumD src.items, src.live⟩
  | _ => none
def zipD (xs ys : List D) : List D := (xs.zip ys).map fun p => D.wtp [p.1, p.2]
def joinL (a b : Option (Nat × List D)) : Option (Option (Nat × List D)) := match a, b with
  | none, b => some b
  | a, none => some a
  | some _, some _ => none
def zp (ds : List D) (h : Hh) : Option Src := match ds with
  | [d, e] => match seqOf d h, seqOf e h with
    | some s1, some s2 => (joinL s1.live s2.live).map fun l => ⟨zipD s1.items s2.items, l⟩
    | _, _ => none
  | _ => none
theorem walkD_enum {G : Gm} {rho : Rm} {H : Hp} {src : Src} {a : Addr} {Sq : Hp → Addr → List V → Prop} (x : SeqAt G rho H src a Sq) : WalkD G rho H ⟨enumD src.items, src.live⟩ (IteK Sq a) := by
  refine ⟨by simpa [enumD] using x.1, fun rho2 hh2 H2 S R2 g => ?_⟩
  obtain ⟨vs, hs, q⟩ := x.2 rho2 hh2 H2 S R2 g
  have e := q.length
  refine ⟨fun i hi => ?_, ⟨vs, hs, by simp [enumD, e]⟩, fun i d y H' hd hy => ?_⟩
  · have hi' : i < vs.length := by simpa [enumD, e] using hi
    exact ⟨vs, vs[i], hs, List.getElem?_eq_getElem hi'⟩
  · obtain ⟨T, v, rfl, hT, rfl, hv⟩ := hy
    have hi : i < src.items.length := by have := (List.getElem?_eq_some_iff.mp hd).1; simpa [enumD] using this
    have ed : d = .wtp [.int (i : Int), src.items[i]] := by
      unfold enumD at hd
      rw [List.getElem?_map, List.getElem?_zipIdx, List.getElem?_eq_getElem hi] at hd
      simpa using (Option.some.inj hd).symm
    subst ed
    obtain ⟨v2, e3, q3⟩ := q.get (List.getElem?_eq_getElem hi)
    rw [hv vs hs] at e3; cases e3
    exact ⟨.laid hT, R2.laid hT, Den.wtp_new R2 ⟨.int i, [v], rfl, rfl, v, [], rfl, q3, rfl⟩ (by show 2 ≤ sizeLine; decide) hT⟩
theorem joinL_ok {a b l : Option (Nat × List D)} {h : Hh} (e : joinL a b = some l) (g : gOk l h) : gOk a h ∧ gOk b h := by
  unfold joinL at e
  split at e
  · cases e; exact ⟨gOk_none, g⟩
  · cases e; exact ⟨g, gOk_none⟩
  · cases e
theorem walkD_zip {G : Gm} {rho : Rm} {H : Hp} {s1 s2 : Src} {a b : Addr} {Sq Sq2 : Hp → Addr → List V → Prop} {l : Option (Nat × List D)} (hl : joinL s1.live s2.live = some l) (x : SeqAt G rho H s1 a Sq) (x2 : SeqAt G rho H s2 b Sq2) : WalkD G rho H ⟨zipD s1.items s2.items, l⟩ (ItzK Sq Sq2 a b) := by
  refine ⟨by have := x.1; simp [zipD]; omega, fun rho2 hh2 H2 S R2 g => ?_⟩
  obtain ⟨g1, g2⟩ := joinL_ok hl g
  obtain ⟨vs, hs, q⟩ := x.2 rho2 hh2 H2 S R2 g1
  obtain ⟨ws, hs2, q2⟩ := x2.2 rho2 hh2 H2 S R2 g2
  have e := q.length
  have e2 := q2.length
  refine ⟨fun i hi => ?_, ⟨vs, ws, hs, hs2, by simp [zipD, e, e2]⟩, fun i d y H' hd hy => ?_⟩
  · have hi' : i < vs.length ∧ i < ws.length := by simp [zipD, e, e2] at hi; omega
    exact ⟨vs, ws, vs[i]'hi'.1, ws[i]'hi'.2, hs, hs2, List.getElem?_eq_getElem hi'.1, List.getElem?_eq_getElem hi'.2⟩
  · obtain ⟨T, v, w, rfl, hT, rfl, hv, hw⟩ := hy
    have hi : i < s1.items.length ∧ i < s2.items.length := by have := (List.getElem?_eq_some_iff.mp hd).1; simp [zipD] at this; omega
    have ed : d = .wtp [s1.items[i]'hi.1, s2.items[i]'hi.2] := by
      unfold zipD at hd
      have hz : (s1.items.zip s2.items)[i]? = some (s1.items[i]'hi.1, s2.items[i]'hi.2) := by
        rw [List.getElem?_zip_eq_some]
        exact ⟨List.getElem?_eq_getElem hi.1, List.getElem?_eq_getElem hi.2⟩
      rw [List.getElem?_map, hz] at hd
      simpa using (Option.some.inj hd).symm
    subst ed
    obtain ⟨v2, e3, q3⟩ := q.get (List.getElem?_eq_getElem hi.1)
    obtain ⟨w2, e4, q4⟩ := q2.get (List.getElem?_eq_getElem hi.2)
    rw [hv vs hs] at e3; cases e3
    rw [hw ws hs2] at e4; cases e4
    exact ⟨.laid hT, R2.laid hT, Den.wtp_new R2 ⟨v, [w], rfl, q3, w, [], rfl, q4, rfl⟩ (by show 2 ≤ sizeLine; decide) hT⟩
theorem di_enum {e : Expr} {ms : MA} {p pos tpos : Pos} {elts : List Expr} {kk : Nat} (hg : Gl X "enumerate") (hm : X.mg "enumerate" = none) (ha : DA X [e] ms) (hs : starEach [e] X.env = [(false, eval e X.env)] := by rfl) :
    DI X (.Tuple elts kk tpos) (.Call (.Name "enumerate" p) [e] [] pos) (iA enm ms) :=
  ⟨fun W tk => pi_weak (pi_enumK hg hm (ha.run W tk) hs) fun σ H R q => tA_of (Rl := WalkD (Cx.gm X)) q fun rho env hh H1 ds vs Rp E qd p => by
    obtain ⟨src, es, p⟩ := lift_post p
    unfold enm at es
    split at es
    · rename_i d
      obtain ⟨s0, e0, e1⟩ := Option.map_eq_some_iff.mp es
      subst e1
      rw [Dens] at qd
      obtain ⟨v, r, rfl, hv, hr⟩ := qd
      rw [Dens] at hr
      subst hr
      obtain ⟨a, rfl, sq⟩ := seqAt_of Rp hv e0
      have lv := srcOf_live (seqOf_srcOf e0)
      refine ⟨a, rfl, ?_⟩
      rcases sq with sq | sq
      · obtain ⟨ws, h1, _⟩ := sq.here Rp lv
        exact .inl ⟨ws, h1, p rho H1 _ .refl Rp (walkD_enum sq)⟩
      · obtain ⟨ws, h1, _⟩ := sq.here Rp lv
        exact .inr ⟨ws, h1, p rho H1 _ .refl Rp (walkD_enum sq)⟩
    · cases es⟩
theorem di_zip {e e2 : Expr} {ms : MA} {p pos tpos : Pos} {elts : List Expr} {kk : Nat} (hg : Gl X "zip") (hm : X.mg "zip" = none) (ha : DA X [e, e2] ms)
    (hs : starEach [e, e2] X.env = (false, eval e X.env) :: starEach [e2] X.env := by rfl) (hpl : (backTo pos (starEach [e2] X.env)).any (·.1) = false := by rfl) :
    DI X (.Tuple elts kk tpos) (.Call (.Name "zip" p) [e, e2] [] pos) (iA zp ms) :=
  ⟨fun W tk => pi_weak (pi_zipK hg hm (ha.run W tk) hs hpl) fun σ H R q => tA_of (Rl := WalkD (Cx.gm X)) q fun rho env hh H1 ds vs Rp E qd p => by
    obtain ⟨src, es, p⟩ := lift_post p
    unfold zp at es
    split at es
    · rename_i d d2
      split at es
      · rename_i s1 s2 e1 e2
        obtain ⟨l, e0, e3⟩ := Option.map_eq_some_iff.mp es
        subst e3
        simp only [Dens] at qd
        obtain ⟨v, r, rfl, hv, v2, r2, rfl, hv2, rfl⟩ := qd
        obtain ⟨a, rfl, sq⟩ := seqAt_of Rp hv e1
        obtain ⟨b, rfl, sq2⟩ := seqAt_of Rp hv2 e2
        have lv := srcOf_live (seqOf_srcOf e1)
        have lv2 := srcOf_live (seqOf_srcOf e2)
        refine ⟨a, b, rfl, ?_⟩
        rcases sq with sq | sq <;> rcases sq2 with sq2 | sq2 <;> obtain ⟨xs, h1, _⟩ := sq.here Rp lv <;> obtain ⟨ys, h2, _⟩ := sq2.here Rp lv2
        · exact .inl ⟨xs, ys, h1, h2, p rho H1 _ .refl Rp (walkD_zip e0 sq sq2)⟩
        · exact .inr (.inl ⟨xs, ys, h1, h2, p rho H1 _ .refl Rp (walkD_zip e0 sq sq2)⟩)
        · exact .inr (.inr (.inl ⟨xs, ys, h1, h2, p rho H1 _ .refl Rp (walkD_zip e0 sq sq2)⟩))
        · exact .inr (.inr (.inr ⟨xs, ys, h1, h2, p rho H1 _ .refl Rp (walkD_zip e0 sq sq2)⟩))
      · cases es
    · cases es⟩
end
end MR

namespace MR
open PySem PySem.Spec PyProof.Rows L2

theorem OpR.imp {X : Cx} {f : Value → Value → Sem Value} {r r' : R2} (h : OpR X f r) (i : ∀ x y H Q, r' x y H Q → r x y H Q) : OpR X f r' := fun pins s σ H x y v u Q I rx ry q => h pins s σ H x y v u Q I rx ry (i x y H Q q)
theorem CallR.or {X : Cx} {f : Value} {r r' : List V → Hp → VK → Prop} (h : CallR X f r) (h' : CallR X f r') : CallR X f (fun xs H Q => r xs H Q ∨ r' xs H Q) := fun pins s σ H xs us Q I rx q => by
  rcases q with q | q
  · exact h pins s σ H xs us Q I rx q
  · exact h' pins s σ H xs us Q I rx q

mutual
def toPy : D → Option PyData
  | .non => some PyData.none
  | .bl b => some (PyData.bool b)
  | .int i => some (PyData.int i)
  | .str x => some (PyData.str x)
  | .tup ds => (toPys ds).map PyData.tuple
  | .lst ds => (toPys ds).map PyData.list
  | .ref _ => none
  | .glb _ => none
  | .scr _ => none
  | .wtp _ => none
  | .dct _ _ => none
def toPys : List D → Option (List PyData)
  | [] => some []
  | d :: ds => match toPy d, toPys ds with
    | some p, some ps => some (p :: ps)
    | _, _ => none
end
def deref (d : D) (h : Hh) : D := match d with
  | .ref i => match h[i]? with
    | some (.lst ds) => .lst ds
    | _ => .ref i
  | d => d
def pyOf (d : D) (h : Hh) : Option PyData := match toPy (deref d h) with
  | some p => if SeqAt.shaped p = true then some p else none
  | none => none
section
variable {G : Gm} {rho : Rm} {H : Hp} {hh : Hh}
mutual
theorem dp_of : ∀ (d : D) (v : V) (p : PyData), Den G rho H d v → toPy d = some p → Dp G.K H v p
  | .non, v, p, h, e => by cases e; rw [show v = .non from h]; exact .non
  | .bl b, v, p, h, e => by cases e; rw [show v = .bl b from h]; exact .bl b
  | .int i, v, p, h, e => by cases e; rw [show v = .int i from h]; exact .int i
  | .str x, v, p, h, e => by cases e; rw [show v = .str x from h]; exact .str x
  | .tup ds, v, p, h, e => by
    rw [Den] at h
    obtain ⟨a, vs, rfl, q, l, ds'⟩ := h
    rw [toPy] at e
    obtain ⟨ps, e1, rfl⟩ := Option.map_eq_some_iff.mp e
    exact .tup q.t (dps_of ds vs ps ds' e1)
  | .wtp ds, v, p, h, e => by rw [toPy] at e; cases e
  | .lst ds, v, p, h, e => by
    rw [Den] at h
    obtain ⟨a, vs, rfl, q, _, _, l, ds'⟩ := h
    rw [toPy] at e
    obtain ⟨ps, e1, rfl⟩ := Option.map_eq_some_iff.mp e
    exact .lst (SqL.of q) (dps_of ds vs ps ds' e1)
  | .ref i, v, p, h, e => by rw [toPy] at e; cases e
  | .glb i, v, p, h, e => by rw [toPy] at e; cases e
  | .scr i, v, p, h, e => by rw [toPy] at e; cases e
  | .dct i j, v, p, h, e => by rw [toPy] at e; cases e
theorem dps_of : ∀ (ds : List D) (vs : List V) (ps : List PyData), Dens G rho H ds vs → toPys ds = some ps → DpAll G.K H vs ps
  | [], vs, ps, h, e => by
    rw [Dens] at h; subst h
    rw [toPys] at e; cases e
    exact .nil
  | d :: ds, vs, ps, h, e => by
    rw [Dens] at h
    obtain ⟨v, r, rfl, a, b⟩ := h
    rw [toPys] at e
    cases e1 : toPy d with
    | none => rw [e1] at e; cases e
    | some p =>
      cases e2 : toPys ds with
      | none => rw [e1, e2] at e; cases e
      | some qs =>
        rw [e1, e2] at e; cases e
        exact .cons (dp_of d v p a e1) (dps_of ds r qs b e2)
end
theorem dp_deref {d : D} {v : V} {p : PyData} (R : Rep G rho hh H) (h : Den G rho H d v) (e : toPy (deref d hh) = some p) : Dp G.K H v p := by
  cases d with
  | ref i =>
    have e : toPy (match hh[i]? with
      | some (O.lst ds) => D.lst ds
      | _ => D.ref i) = some p := e
    split at e
    · rename_i ds e1
      rw [Den] at h
      obtain ⟨a, e2, rfl⟩ := h
      obtain ⟨vs, e3, l, q⟩ := R.ob i a _ e2 e1
      rw [toPy] at e
      obtain ⟨ps, e4, rfl⟩ := Option.map_eq_some_iff.mp e
      exact .lst (SqL.of e3) (dps_of ds vs ps q e4)
    · rw [toPy] at e; cases e
  | non => exact dp_of _ _ _ h e
  | bl b => exact dp_of _ _ _ h e
  | int b => exact dp_of _ _ _ h e
  | str b => exact dp_of _ _ _ h e
  | tup b => exact dp_of _ _ _ h e
  | lst b => exact dp_of _ _ _ h e
  | glb b => exact dp_of _ _ _ h e
  | scr b => exact dp_of _ _ _ h e
  | wtp b => exact dp_of _ _ _ h e
  | dct b c => exact dp_of _ _ _ h e
theorem pyOf_dp {d : D} {v : V} {p : PyData} (R : Rep G rho hh H) (h : Den G rho H d v) (e : pyOf d hh = some p) : Dp G.K H v p ∧ SeqAt.shaped p = true := by
  unfold pyOf at e
  split at e
  · rename_i q e1
    split at e
    · rename_i hs
      cases e
      exact ⟨dp_deref R h e1, hs⟩
    · cases e
  · cases e
end
def eqO : Op2 := fun a b h => match pyOf a h, pyOf b h with
  | some p, some q => some (.bl (PyData.eqv p q))
  | _, _ => none
def neO : Op2 := fun a b h => match pyOf a h, pyOf b h with
  | some p, some q => some (.bl (!PyData.eqv p q))
  | _, _ => none
section
variable {G : Gm}
theorem rz_eq : Rz2 G (rEqD G.K) eqO := fun rho hh H d1 d2 v1 v2 d Q R q1 q2 e k => by
  unfold eqO at e
  split at e
  · rename_i p q e1 e2
    cases e
    obtain ⟨a, b⟩ := pyOf_dp R q1 e1
    obtain ⟨a2, b2⟩ := pyOf_dp R q2 e2
    exact ⟨p, q, a, a2, b, b2, k _ H .refl R rfl⟩
  · cases e
theorem rz_ne : Rz2 G (rNeD G.K) neO := fun rho hh H d1 d2 v1 v2 d Q R q1 q2 e k => by
  unfold neO at e
  split at e
  · rename_i p q e1 e2
    cases e
    obtain ⟨a, b⟩ := pyOf_dp R q1 e1
    obtain ⟨a2, b2⟩ := pyOf_dp R q2 e2
    exact ⟨p, q, a, a2, b, b2, k _ H .refl R rfl⟩
  · cases e
/-- x in a list or a tuple of data -/
def rInDT (K : PySem.W.Frag) (neg : Bool) : R2 := fun x y H Q => ∃ d ds, Dp K H x d ∧ (Dp K H y (.list ds) ∧ SeqAt.shaped (.list ds) = true ∨ Dp K H y (.tuple ds) ∧ SeqAt.shaped (.tuple ds) = true) ∧ SeqAt.shaped d = true ∧ Q (.bl (if neg then !(ds.any fun z => PyData.eqv z d) else ds.any fun z => PyData.eqv z d)) H
theorem op_inDT {X : Cx} (hu : X.A.units + 65 < cLine) : OpR X (compareOp .In) (rInDT X.K false) := by
  intro pins s σ H x y v u Q I rx ry h
  obtain ⟨d, ds, hd, he, sd, q⟩ := h
  obtain ⟨as, r1⟩ := Dp.reads I d x v hd rx
  rcases he with ⟨he, se⟩ | ⟨he, se⟩
  · obtain ⟨bs, r2⟩ := Dp.reads I (.list ds) y u he ry
    exact SeqAt.in_list_reads r2 r1 (SeqAt.canLay_of_shaped se) (SeqAt.canLay_of_shaped sd) (room_in_shaped sd hu) ⟨.bl _, H, I, rfl, q⟩
  · obtain ⟨bs, r2⟩ := Dp.reads I (.tuple ds) y u he ry
    exact SeqAt.in_tuple_reads r2 r1 (SeqAt.canLay_of_shaped se) (SeqAt.canLay_of_shaped sd) (room_in_shaped sd hu) ⟨.bl _, H, I, rfl, q⟩
def inO (neg : Bool) : Op2 := fun a b h => match pyOf a h, pyOf b h with
  | some d, some (.list ds) => some (.bl (if neg then !(ds.any fun z => PyData.eqv z d) else ds.any fun z => PyData.eqv z d))
  | some d, some (.tuple ds) => some (.bl (if neg then !(ds.any fun z => PyData.eqv z d) else ds.any fun z => PyData.eqv z d))
  | _, _ => none
theorem rz_in (neg : Bool) : Rz2 G (rInDT G.K neg) (inO neg) := fun rho hh H d1 d2 v1 v2 d Q R q1 q2 e k => by
  unfold inO at e
  split at e
  · rename_i p ds e1 e2
    cases e
    obtain ⟨a, b⟩ := pyOf_dp R q1 e1
    obtain ⟨a2, b2⟩ := pyOf_dp R q2 e2
    exact ⟨p, ds, a, .inl ⟨a2, b2⟩, b, k _ H .refl R rfl⟩
  · rename_i p ds e1 e2
    cases e
    obtain ⟨a, b⟩ := pyOf_dp R q1 e1
    obtain ⟨a2, b2⟩ := pyOf_dp R q2 e2
    exact ⟨p, ds, a, .inr ⟨a2, b2⟩, b, k _ H .refl R rfl⟩
  · cases e

def isNO (neg : Bool) : Op2 := fun a b _ => match b with
  | .non => match a with
    | .non => some (.bl (!neg))
    | .glb _ => none
    | _ => some (.bl neg)
  | _ => none
theorem den_non {rho : Rm} {H : Hp} {d : D} {v : V} (q : Den G rho H d v) (hn : d ≠ .non) (hg : ∀ u, d ≠ .glb u) : v ≠ .non := by
  intro e
  subst e
  cases d with
  | non => exact hn rfl
  | bl b => cases q
  | int b => cases q
  | str b => cases q
  | tup b => rw [Den] at q; obtain ⟨a, vs, e, _⟩ := q; cases e
  | wtp b => rw [Den] at q; obtain ⟨a, vs, e, _⟩ := q; cases e
  | lst b => rw [Den] at q; obtain ⟨a, vs, e, _⟩ := q; cases e
  | ref b => rw [Den] at q; obtain ⟨a, _, e⟩ := q; cases e
  | glb b => exact hg b rfl
  | scr b => rw [Den] at q; obtain ⟨a, e, _⟩ := q; cases e
  | dct b c => rw [Den] at q; obtain ⟨a, xs, es, us, e, _⟩ := q; cases e
theorem rz_isN : Rz2 G (fun x y H Q => y = .non ∧ Q (.bl (decide (x = .non))) H) (isNO false) := fun rho hh H d1 d2 v1 v2 d Q R q1 q2 e k => by
  unfold isNO at e
  split at e
  · refine ⟨q2, ?_⟩
    split at e
    · cases e
      rw [show v1 = .non from q1]
      exact k _ H .refl R rfl
    · cases e
    · rename_i hn hg
      cases e
      rw [decide_eq_false (den_non q1 hn hg)]
      exact k _ H .refl R rfl
  · cases e
theorem rz_notN : Rz2 G (fun x y H Q => y = .non ∧ Q (.bl (!decide (x = .non))) H) (isNO true) := fun rho hh H d1 d2 v1 v2 d Q R q1 q2 e k => by
  unfold isNO at e
  split at e
  · refine ⟨q2, ?_⟩
    split at e
    · cases e
      rw [show v1 = .non from q1]
      exact k _ H .refl R rfl
    · cases e
    · rename_i hn hg
      cases e
      rw [decide_eq_false (den_non q1 hn hg)]
      exact k _ H .refl R rfl
  · cases e

def i2 (g : Int → Int → Option D) : Op2 := fun a b _ => match a, b with
  | .int i, .int j => g i j
  | _, _ => none
theorem rz_i2 {C : Int → Int → Prop} {g : Int → Int → V} {f : Int → Int → Option D} (h : ∀ i j d, f i j = some d → C i j ∧ ∀ rho H, Den G rho H d (g i j)) : Rz2 G (rI C g) (i2 f) := fun rho hh H d1 d2 v1 v2 d Q R q1 q2 e k => by
  unfold i2 at e
  split at e
  · rename_i i j
    obtain ⟨c, z⟩ := h i j d e
    exact ⟨i, j, q1, q2, c, k _ H .refl R (z rho H)⟩
  · cases e
theorem rz_i20 {g : Int → Int → V} {f : Int → Int → Option D} (h : ∀ i j d, f i j = some d → ∀ rho H, Den G rho H d (g i j)) : Rz2 G (rI0 g) (i2 f) := fun rho hh H d1 d2 v1 v2 d Q R q1 q2 e k => by
  unfold i2 at e
  split at e
  · rename_i i j
    exact ⟨i, j, q1, q2, k _ H .refl R (h i j d e rho H)⟩
  · cases e
def subO : Op2 := i2 fun i j => some (.int (i - j))
def ltO : Op2 := i2 fun i j => some (.bl (decide (i < j)))
def leO : Op2 := i2 fun i j => some (.bl (decide (i ≤ j)))
def gtO : Op2 := i2 fun i j => some (.bl (decide (j < i)))
def geO : Op2 := i2 fun i j => some (.bl (decide (j ≤ i)))
def modO : Op2 := i2 fun i j => if 0 < j then some (.int (i % j)) else none
def fdivO : Op2 := i2 fun i j => if 0 < j ∧ j < 1073741824 then some (.int (i / j)) else none
def powO : Op2 := i2 fun i j => if 0 ≤ j ∧ j ≤ 1000000 ∧ i.natAbs < 18446744073709551616 then some (.int (i ^ j.toNat)) else none
theorem rz_sub : Rz2 G (rI0 fun i j => .int (i - j)) subO := rz_i20 fun i j d e => by cases e; intro rho H; rfl
theorem rz_lt : Rz2 G (rI0 fun i j => .bl (decide (i < j))) ltO := rz_i20 fun i j d e => by cases e; intro rho H; rfl
theorem rz_le : Rz2 G (rI0 fun i j => .bl (decide (i ≤ j))) leO := rz_i20 fun i j d e => by cases e; intro rho H; rfl
theorem rz_gt : Rz2 G (rI0 fun i j => .bl (decide (j < i))) gtO := rz_i20 fun i j d e => by cases e; intro rho H; rfl
theorem rz_mod : Rz2 G (rI (fun _ j => 0 < j) fun i j => .int (i % j)) modO := rz_i2 fun i j d e => by
  split at e
  · cases e; exact ⟨by assumption, fun _ _ => rfl⟩
  · cases e
theorem rz_fdiv : Rz2 G (rI CDiv fun i j => .int (i / j)) fdivO := rz_i2 fun i j d e => by
  split at e
  · rename_i h
    cases e; exact ⟨h, fun _ _ => rfl⟩
  · cases e
theorem rz_pow : Rz2 G (rI CPow fun i j => .int (i ^ j.toNat)) powO := rz_i2 fun i j d e => by
  split at e
  · rename_i h
    cases e; exact ⟨⟨h.1, h.2.1, by have := h.2.2; omega⟩, fun _ _ => rfl⟩
  · cases e

def seqL (d : D) (h : Hh) : Option (List D) := match d with
  | .lst ds => some ds
  | .ref i => match h[i]? with
    | some (.lst ds) => some ds
    | _ => none
  | _ => none
theorem seqL_of {rho : Rm} {hh : Hh} {H : Hp} {d : D} {v : V} {ds : List D} (R : Rep G rho hh H) (q : Den G rho H d v) (e : seqL d hh = some ds) : ∃ a vs, v = .ref a ∧ H a = some (.lst vs) ∧ vs.length ≤ sizeLine ∧ Dens G rho H ds vs := by
  cases d with
  | lst es =>
    cases e
    rw [Den] at q
    obtain ⟨a, vs, rfl, h, _, _, l, q⟩ := q
    exact ⟨a, vs, rfl, h, l, q⟩
  | ref i =>
    have e : (match hh[i]? with
      | some (O.lst ds) => some ds
      | _ => none) = some ds := e
    split at e
    · rename_i es e1
      cases e
      rw [Den] at q
      obtain ⟨a, e2, rfl⟩ := q
      obtain ⟨vs, e3, l, q⟩ := R.ob i a _ e2 e1
      exact ⟨a, vs, rfl, e3, l, q⟩
    · cases e
  | non => cases e
  | bl b => cases e
  | int b => cases e
  | str b => cases e
  | tup b => cases e
  | wtp b => cases e
  | glb b => cases e
  | scr b => cases e
  | dct b c => cases e
def addO : Op2 := fun a b h => match a, b with
  | .int i, .int j => some (.int (i + j))
  | .str x, .str y => if x.length + y.length ≤ sizeLine then some (.str (x ++ y)) else none
  | .tup xs, .tup ys => if xs.length + ys.length ≤ sizeLine then some (.tup (xs ++ ys)) else none
  | a, b => match seqL a h, seqL b h with
    | some xs, some ys => if xs.length + ys.length ≤ sizeLine then some (.lst (xs ++ ys)) else none
    | _, _ => none
/-- t + u, what is new known -/
def rCatF (K : PySem.W.Frag) : R2 := fun x y H Q => ∃ a b xs ys, x = .ref a ∧ y = .ref b ∧ SqT K H a xs ∧ SqT K H b ys ∧ xs.length + ys.length ≤ sizeLine ∧
  (xs = [] → Q (.ref b) H) ∧ (xs ≠ [] → ys = [] → Q (.ref a) H) ∧ (xs ≠ [] → ys ≠ [] → NewT H (xs ++ ys) Q)
theorem op_catF {X : Cx} : OpR X (binaryOp .Add) (rCatF X.K) := by
  intro pins s σ H x y v u Q I rx ry h
  obtain ⟨a, b, xs, ys, rfl, rfl, ha, hb, hz, q0, q1, q2⟩ := h
  by_cases hx : xs = []
  · exact op_catA pins s σ H _ _ v u Q I rx ry ⟨a, b, xs, ys, rfl, rfl, ha, hb, hz, q0, q1, fun z => absurd hx z⟩
  · cases rx
    cases ry
    obtain ⟨its, r1, p1, _⟩ := I.tuple ha
    obtain ⟨its2, r2, p2, _⟩ := I.tuple hb
    refine HT.cat_tup p1 p2 (fun z => hx (r1.nil_iff.mp z)) (fun z => ⟨.ref a, H, I, rfl, q1 hx (r2.nil_iff.mp z)⟩) (fun z => ?_) (by rw [← r1.length, ← r2.length]; exact hz)
    exact inv_newT I (r1.append r2) (by rw [List.length_append]; exact hz) (q2 hx fun w => z (r2.nil_iff.mpr w))
def rAddA (K : PySem.W.Frag) : R2 := fun x y H Q => rI0 (fun i j => .int (i + j)) x y H Q ∨ ((∃ i j, x = .str i ∧ y = .str j ∧ i.length + j.length ≤ sizeLine ∧ Q (.str (i ++ j)) H) ∨ (rCatF K x y H Q ∨ rCat x y H Q))
theorem op_addA {X : Cx} : OpR X (binaryOp .Add) (rAddA X.K) := op_add.or (op_add_str.or (op_catF.or op_cat))
theorem den_lst_new {rho : Rm} {hh : Hh} {H : Hp} {ds : List D} {vs : List V} {p : Addr} (R : Rep G rho hh H) (q : Dens G rho H ds vs) (l : vs.length ≤ sizeLine) (hp : H p = none) : Den G rho (upd H p (.lst vs)) (.lst ds) (.ref p) := by
  rw [Den]
  refine ⟨p, vs, rfl, upd_same, fun hm => ?_, fun hm => ?_, l, Dens.step R (.laid hp) _ _ q⟩
  · obtain ⟨u, e, _⟩ := R.mut hm
    rw [hp] at e; cases e
  · obtain ⟨o, e⟩ := R.hd p hm
    rw [hp] at e; cases e
theorem dens_nil {rho : Rm} {H : Hp} {ds : List D} (q : Dens G rho H ds []) : ds = [] := List.length_eq_zero_iff.mp q.length
theorem rz_add : Rz2 G (rAddA G.K) addO := fun rho hh H d1 d2 v1 v2 d Q R q1 q2 e k => by
  unfold addO at e
  split at e
  · rename_i i j
    cases e
    exact .inl ⟨i, j, q1, q2, k _ H .refl R rfl⟩
  · rename_i x y
    split at e
    · rename_i hl
      cases e
      exact .inr (.inl ⟨x, y, q1, q2, hl, k _ H .refl R rfl⟩)
    · cases e
  · rename_i xs ys
    split at e
    · rename_i hl
      cases e
      have q1' := q1
      have q2' := q2
      rw [Den] at q1 q2
      obtain ⟨a, vs, rfl, h1, l1, z1⟩ := q1
      obtain ⟨b, ws, rfl, h2, l2, z2⟩ := q2
      have e1 := z1.length
      have e2 := z2.length
      refine .inr (.inr (.inl ⟨a, b, vs, ws, rfl, rfl, h1.t, h2.t, by omega, fun hv => ?_, fun hv hw => ?_, fun hv hw p o hp ho => ?_⟩))
      · subst hv
        rw [dens_nil z1] at k
        exact k _ H .refl R q2'
      · subst hw
        rw [dens_nil z2, List.append_nil] at k
        exact k _ H .refl R q1'
      · exact k _ _ (.laid hp) (R.laid hp) (Den.tup_new ho R (z1.append z2) (by rw [List.length_append]; omega) hp)
    · cases e
  · split at e
    · rename_i xs ys e1 e2
      split at e
      · rename_i hl
        cases e
        obtain ⟨a, vs, rfl, h1, l1, z1⟩ := seqL_of R q1 e1
        obtain ⟨b, ws, rfl, h2, l2, z2⟩ := seqL_of R q2 e2
        have n1 := z1.length
        have n2 := z2.length
        exact .inr (.inr (.inr ⟨a, b, vs, ws, rfl, rfl, h1, h2, by omega, fun p hp => k _ _ (.laid hp) (R.laid hp) (den_lst_new R (z1.append z2) (by rw [List.length_append]; omega) hp)⟩))
      · cases e
    · cases e

def ixO : Op2 := fun a b h => match b with
  | .int i => match a with
    | .tup ds => atI ds i
    | .scr ns => atI (ns.map D.int) i
    | .str x => if x.length ≤ sizeLine then (atI x.cps.toList i).map fun c => .str ⟨#[c]⟩ else none
    | a => match seqL a h with
      | some ds => atI ds i
      | none => none
  | _ => none
theorem atI_of {rho : Rm} {H : Hp} {ds : List D} {vs : List V} {i : Int} {d : D} (q : Dens G rho H ds vs) (e : atI ds i = some d) : ∃ v, atI vs i = some v ∧ Den G rho H d v := by
  have hl := q.length
  unfold atI at e ⊢
  rw [← hl]
  cases h : ixN ds.length i with
  | none => rw [h] at e; cases e
  | some j =>
    rw [h] at e
    exact q.get e
theorem rz_ix : Rz2 G (rIx G.K) ixO := fun rho hh H d1 d2 v1 v2 d Q R q1 q2 e k => by
  unfold ixO at e
  split at e
  · rename_i i
    split at e
    · rename_i ds
      rw [Den] at q1
      obtain ⟨a, vs, rfl, h1, l1, z1⟩ := q1
      obtain ⟨v, e1, e2⟩ := atI_of z1 e
      exact .inr (.inl ⟨a, vs, i, v, rfl, q2, h1.t, e1, k _ H .refl R e2⟩)
    · rename_i ns
      rw [Den] at q1
      obtain ⟨a, rfl, hs, l⟩ := q1
      obtain ⟨v, e1, e2⟩ := atI_of (dens_ints (G := G) (rho := rho) (H := H) ns) e
      refine .inl ⟨a, ns.map V.int, i, v, rfl, q2, ?_, e1, k _ H .refl R e2⟩
      rcases hs with ⟨o, hs⟩ | hs
      · exact .inl (.inr ⟨o, hs⟩)
      · exact .inr hs
    · rename_i x
      split at e
      · rename_i hl
        obtain ⟨c, e1, rfl⟩ := Option.map_eq_some_iff.mp e
        exact .inr (.inr ⟨x, i, c, q1, q2, hl, e1, k _ H .refl R rfl⟩)
      · cases e
    · split at e
      · rename_i ds es
        obtain ⟨a, vs, rfl, h1, l1, z1⟩ := seqL_of R q1 es
        obtain ⟨v, e1, e2⟩ := atI_of z1 e
        exact .inl ⟨a, vs, i, v, rfl, q2, SqL.of h1, e1, k _ H .refl R e2⟩
      · cases e
  · cases e
end
end MR

namespace MR
open PySem PySem.Spec PyProof.Rows L2

def mulO : Op2 := i2 fun i j => if ((-18446744073709551616 < i ∧ i < 18446744073709551616) ∨ (-18446744073709551616 < j ∧ j < 18446744073709551616)) ∨ i.natAbs.log2 + j.natAbs.log2 < 1000000 then some (.int (i * j)) else none
def rMulA : R2 := fun x y H Q => rI CMul (fun i j => .int (i * j)) x y H Q ∨ rI CMulW (fun i j => .int (i * j)) x y H Q
theorem op_mulA {X : Cx} : OpR X (binaryOp .Mult) rMulA := op_mul.or op_mulW
section
variable {G : Gm}
theorem rz_mul : Rz2 G rMulA mulO := fun rho hh H d1 d2 v1 v2 d Q R q1 q2 e k => by
  unfold mulO i2 at e
  split at e
  · rename_i i j
    dsimp only at e
    split at e
    · rename_i h
      cases e
      rcases h with h | h
      · exact .inl ⟨i, j, q1, q2, by unfold CMul; omega, k _ H .refl R rfl⟩
      · exact .inr ⟨i, j, q1, q2, h, k _ H .refl R rfl⟩
    · cases e
  · cases e
end
def eNeg (m : ME) : ME := fun env h => (m env h).bind fun d h1 => lift (match d with | .int i => some (.int (-i)) | _ => none) h1
def eChain (f g : Op2) (a b c : ME) : ME := fun env h => (a env h).bind fun x h1 => (b env h1).bind fun y h2 => (lift (f x y h2) h2).bind fun z h3 => (lift (asB z) h3).bind fun k h4 => if k = true then (c env h4).bind fun u h5 => lift (g y u h5) h5 else .ok (.bl false) h4
section
variable {X : Cx} {a b c : Expr} {ma mb mc : ME} {pos : Pos}
theorem tChain_of {G : Gm} {W : WX} {r r' : R2} {f g : Op2} {σ : L2.St} {H : Hp} {Q : VK} (z : Rz2 G r f) (z' : Rz2 G r' g) (h : TD G W (eChain f g ma mb mc) σ H Q) : tChain r r' (TD G W ma) (TD G W mb) (TD G W mc) σ H Q := by
  refine tE_of (f := fun env x h1 => (mb env h1).bind fun y h2 => (lift (f x y h2) h2).bind fun z h3 => (lift (asB z) h3).bind fun k h4 => if k = true then (mc env h4).bind fun u h5 => lift (g y u h5) h5 else .ok (.bl false) h4) h fun rho env hh H1 x vx R E qx p => ?_
  refine tE2_of (f := fun env x y h2 => (lift (f x y h2) h2).bind fun z h3 => (lift (asB z) h3).bind fun k h4 => if k = true then (mc env h4).bind fun u h5 => lift (g y u h5) h5 else .ok (.bl false) h4) ⟨rho, env, hh, R, E, qx, p⟩ fun rho env hh H2 y vy R E qx qy p => ?_
  cases e1 : f x y hh with
  | none => rw [e1] at p; exact p.elim
  | some zz =>
    rw [e1] at p
    cases e2 : asB zz with
    | none => rw [show (lift (some zz) hh).bind (fun z h3 => (lift (asB z) h3).bind fun k h4 => if k = true then (mc env h4).bind fun u h5 => lift (g y u h5) h5 else .ok (.bl false) h4) = (lift (asB zz) hh).bind fun k h4 => if k = true then (mc env h4).bind fun u h5 => lift (g y u h5) h5 else .ok (.bl false) h4 from rfl, e2] at p; exact p.elim
    | some k =>
      rw [show (lift (some zz) hh).bind (fun z h3 => (lift (asB z) h3).bind fun k h4 => if k = true then (mc env h4).bind fun u h5 => lift (g y u h5) h5 else .ok (.bl false) h4) = (lift (asB zz) hh).bind fun k h4 => if k = true then (mc env h4).bind fun u h5 => lift (g y u h5) h5 else .ok (.bl false) h4 from rfl, e2] at p
      have ez := asB_some e2
      subst ez
      refine z rho hh H2 x y vx vy _ _ R qx qy e1 fun v3 H3 S3 R3 q3 => ⟨k, q3, ?_⟩
      have p := p.start S3
      have E3 := E.step R S3
      have qy3 := Den.step R S3 _ _ qy
      cases k with
      | true =>
        refine tE2_of (d1 := y) (v1 := vy) (f := fun env y u h5 => lift (g y u h5) h5) ⟨rho, env, hh, R3, E3, qy3, p⟩ fun rho env hh H4 u vu R E qy qu p => ?_
        obtain ⟨dd, e4, p⟩ := lift_post p
        exact z' rho hh H4 y u vy vu dd Q R qy qu e4 fun w H' S' R' q' => p rho H' w S' R' q'
      | false => exact PostE.val (a := D.bl false) (b := V.bl false) (Rl := Den G) p R3 rfl
theorem de_chain {op op' : CmpOp} {r r' : R2} {f g : Op2} (ho : OpR X (compareOp op) r) (ho' : OpR X (compareOp op') r') (z : Rz2 (Cx.gm X) r f) (z' : Rz2 (Cx.gm X) r' g) (ha : DE X a ma) (hb : DE X b mb) (hc : DE X c mc)
    (hm : lastMarks [op, op'] [b, c] = false := by with_unfolding_all rfl) : DE X (.Compare a [op, op'] [b, c] pos) (eChain f g ma mb mc) :=
  ⟨fun W tk => pe_weak (pe_chain ho ho' (ha.run W tk) (hb.run W tk) (hc.run W tk) hm) fun σ H Q q => tChain_of z z' q⟩
theorem dt_chain {op op' : CmpOp} {r r' : R2} {f g : Op2} (ho : OpR X (compareOp op) r) (ho' : OpR X (compareOp op') r') (z : Rz2 (Cx.gm X) r f) (z' : Rz2 (Cx.gm X) r' g) (ha : DE X a ma) (hb : DE X b mb) (hc : DE X c mc)
    (hm : lastMarks [op, op'] [b, c] = false := by with_unfolding_all rfl) : DT X (.Compare a [op, op'] [b, c] pos) (tE (eChain f g ma mb mc)) :=
  ⟨fun W tk => pt_weak (pt_chain ho ho' (ha.run W tk) (hb.run W tk) (hc.run W tk) hm) fun σ H Q q => tChain_of (Q := fun x H' => ∃ k, x = .bl k ∧ Q k H') z z' (tB_of q)⟩
end

def cutG {α : Type} (xs : List α) (lo hi : Option Int) : List α := (xs.drop (HT.sIx xs.length 0 lo)).take (HT.sIx xs.length xs.length hi - HT.sIx xs.length 0 lo)
section
variable {G : Gm} {rho : Rm} {H : Hp}
theorem Dens.take : ∀ {ds : List D} {vs : List V} (n : Nat), Dens G rho H ds vs → Dens G rho H (ds.take n) (vs.take n)
  | [], vs, n, h => by rw [Dens] at h; subst h; simp [Dens]
  | d :: ds, vs, 0, h => by simp [Dens]
  | d :: ds, vs, n + 1, h => by
    rw [Dens] at h
    obtain ⟨v, r, rfl, a, b⟩ := h
    exact ⟨v, r.take n, rfl, a, Dens.take n b⟩
theorem Dens.drop : ∀ {ds : List D} {vs : List V} (n : Nat), Dens G rho H ds vs → Dens G rho H (ds.drop n) (vs.drop n)
  | [], vs, n, h => by rw [Dens] at h; subst h; simp [Dens]
  | d :: ds, vs, 0, h => h
  | d :: ds, vs, n + 1, h => by
    rw [Dens] at h
    obtain ⟨v, r, rfl, a, b⟩ := h
    exact Dens.drop n b
theorem Dens.cut {ds : List D} {vs : List V} (lo hi : Option Int) (h : Dens G rho H ds vs) : Dens G rho H (cutG ds lo hi) (cutV vs lo hi) := by
  unfold cutG cutV
  rw [h.length]
  exact (h.drop _).take _
end
def sliceO (d : D) (lo hi : Option Int) (h : Hh) : Option D := match d with
  | .tup ds => some (.tup (cutG ds lo hi))
  | .str x => if x.length ≤ sizeLine then some (.str (cutS x lo hi)) else none
  | d => (seqL d h).map fun ds => .lst (cutG ds lo hi)
/-- t[lo:hi], what is new known -/
def rSlF (K : PySem.W.Frag) : V → Option Int → Option Int → Hp → VK → Prop := fun x lo hi H Q => ∃ a xs, x = .ref a ∧ SqT K H a xs ∧
  (HT.sIx xs.length 0 lo = 0 ∧ HT.sIx xs.length xs.length hi = xs.length → Q (.ref a) H) ∧ (¬ (HT.sIx xs.length 0 lo = 0 ∧ HT.sIx xs.length xs.length hi = xs.length) → NewT H (cutV xs lo hi) Q)
theorem sl_tupF {X : Cx} : SlR X (rSlF X.K) := by
  intro pins s σ H x v vl vu lo hi sl Q I rx hs pl pu h
  obtain ⟨a, xs, rfl, hx, q1, q2⟩ := h
  by_cases hw : HT.sIx xs.length 0 lo = 0 ∧ HT.sIx xs.length xs.length hi = xs.length
  · exact sl_tupA pins s σ H _ v vl vu lo hi sl Q I rx hs pl pu ⟨a, xs, rfl, hx, q1, fun z => absurd hw z⟩
  · cases rx
    obtain ⟨its, r, ht, hz⟩ := I.tuple hx
    have hlen : its.toArray.size = xs.length := by rw [List.size_toArray]; exact r.length.symm
    refine ⟨"tuple", _, PyProof.Rows.slot_tuple_getitem.lookup, ht.typeIs, ?_⟩
    refine HT.getItem_tuple_cut ht hs pl pu (by rw [hlen]; exact hw) ?_ (by rw [hlen]; exact hz)
    rw [hlen]
    exact inv_newT I ((r.drop (HT.sIx xs.length 0 lo)).take (HT.sIx xs.length xs.length hi - HT.sIx xs.length 0 lo)) (Nat.le_trans (cutV_length xs lo hi) hz) (q2 hw)
def rSlAny (K : PySem.W.Frag) : V → Option Int → Option Int → Hp → VK → Prop := fun x lo hi H Q => rSlF K x lo hi H Q ∨ (rSlL K x lo hi H Q ∨ rSlS x lo hi H Q)
theorem sl_any {X : Cx} : SlR X (rSlAny X.K) := sl_tupF.or (sl_list.or sl_str)
theorem cutV_len (vs : List V) (lo hi : Option Int) : (cutV vs lo hi).length ≤ vs.length := cutV_length vs lo hi
theorem sl_of {G : Gm} {rho : Rm} {hh : Hh} {H : Hp} {d e : D} {v : V} {lo hi : Option Int} {Q : VK} (R : Rep G rho hh H) (q : Den G rho H d v) (h : sliceO d lo hi hh = some e)
    (k : ∀ w H', Step rho H rho H' → Rep G rho hh H' → Den G rho H' e w → Q w H') : rSlAny G.K v lo hi H Q := by
  unfold sliceO at h
  split at h
  · rename_i ds
    cases h
    have q0 := q
    rw [Den] at q
    obtain ⟨a, vs, rfl, hs, l, z⟩ := q
    refine .inl ⟨a, vs, rfl, hs.t, fun hw => ?_, fun hw p o hp ho => ?_⟩
    · have ec : cutG ds lo hi = ds := by
        unfold cutG
        rw [z.length, hw.1, hw.2, List.drop_zero, Nat.sub_zero, ← z.length, List.take_length]
      rw [ec] at k
      exact k _ H .refl R q0
    · exact k _ _ (.laid hp) (R.laid hp) (Den.tup_new ho R (z.cut lo hi) (Nat.le_trans (cutV_len vs lo hi) l) hp)
  · rename_i x
    split at h
    · rename_i hl
      cases h
      exact .inr (.inr ⟨x, q, hl, k _ H .refl R rfl⟩)
    · cases h
  · obtain ⟨ds, e1, rfl⟩ := Option.map_eq_some_iff.mp h
    obtain ⟨a, vs, rfl, hs, l, z⟩ := seqL_of R q e1
    exact .inr (.inl ⟨a, vs, rfl, SqL.of hs, fun p hp => k _ _ (.laid hp) (R.laid hp) (den_lst_new R (z.cut lo hi) (Nat.le_trans (cutV_len vs lo hi) l) hp)⟩)
/-- an end of a slice -/
abbrev MO := DEnv → Hh → Res (Option Int)
def TDo (G : Gm) (W : WX) (m : MO) : TO := fun σ H Q => ∃ rho env hh, Rep G rho hh H ∧ EnvD G rho H env σ ∧ PostE G (fun _ _ a b => a = b) (wAt W σ) rho H (m env hh) Q
structure DO (X : Cx) (e : Option Expr) (m : MO) : Prop where
  run : ∀ W, Takes X W → PO X e (TDo (Cx.gm X) W m)
def oNone : MO := fun _ h => .ok none h
def asI (d : D) : Option Int := match d with | .int i => some i | _ => none
def oSome (m : ME) : MO := fun env h => (m env h).bind fun d h1 => lift ((asI d).map some) h1
theorem po_weak {X : Cx} {e : Option Expr} {t t' : TO} (h : PO X e t) (i : ∀ σ H Q, t' σ H Q → t σ H Q) : PO X e t' := ⟨fun pins s σ H Q I q => h.run pins s σ H Q I (i σ H Q q)⟩
section
variable {X : Cx} {e : Expr} {m : ME} {pos p2 : Pos}
theorem do_none : DO X none oNone := ⟨fun W _ => po_weak po_none fun σ H Q ⟨rho, env, hh, R, E, p⟩ => p.val R rfl⟩
theorem do_some (h : DE X e m) : DO X (some e) (oSome m) := ⟨fun W tk => po_weak (po_some (h.run W tk)) fun σ H Q q => by
  refine tE_of (Rl := fun _ _ a b => a = b) q fun rho env hh H1 d v R E qd p => ?_
  obtain ⟨a, e, p⟩ := lift_post p
  obtain ⟨i, e1, rfl⟩ := Option.map_eq_some_iff.mp e
  cases d with
  | int j => cases e1; exact ⟨_, qd, p.val R rfl⟩
  | non => cases e1
  | bl b => cases e1
  | str b => cases e1
  | tup b => cases e1
  | wtp b => cases e1
  | lst b => cases e1
  | ref b => cases e1
  | glb b => cases e1
  | scr b => cases e1
  | dct b c => cases e1⟩
def eSlice (m : ME) (lo hi : MO) : ME := fun env h => (m env h).bind fun d h1 => (lo env h1).bind fun l h2 => (hi env h2).bind fun u h3 => lift (sliceO d l u h3) h3
theorem tO_of {G : Gm} {W : WX} {mo : MO} {f : DEnv → D → Option Int → Hh → Res D} {σ : L2.St} {H : Hp} {Q : VK} {v1 : V} {d1 : D} {k : Option Int → Hp → Prop}
    (h : ∃ rho env hh, Rep G rho hh H ∧ EnvD G rho H env σ ∧ Den G rho H d1 v1 ∧ PostE G (Den G) (wAt W σ) rho H ((mo env hh).bind (f env d1)) Q)
    (hk : ∀ rho env hh H1 o, Rep G rho hh H1 → EnvD G rho H1 env σ → Den G rho H1 d1 v1 → PostE G (Den G) (wAt W σ) rho H1 (f env d1 o hh) Q → k o H1) : TDo G W mo σ H k := by
  obtain ⟨rho, env, hh, R, E, q1, p⟩ := h
  refine ⟨rho, env, hh, R, E, ?_⟩
  cases e : mo env hh with
  | ok d hh1 =>
    rw [e, bind_ok] at p
    exact fun rho1 H1 v S R1 q => by
      subst q
      exact hk rho1 env hh1 H1 d R1 (E.step R S) (Den.step R S _ _ q1) (p.start S)
  | err x hh1 => rw [e, bind_err] at p; exact p
  | stuck => rw [e, bind_stuck] at p; exact p
theorem de_slice {lo hi : Option Expr} {ml mh : MO} (h : DE X e m) (hl : DO X lo ml) (hu : DO X hi mh) : DE X (.Subscript e (.Slice lo hi none p2) pos) (eSlice m ml mh) :=
  ⟨fun W tk => pe_weak (pe_slice sl_any (h.run W tk) (hl.run W tk) (hu.run W tk)) fun σ H Q q => by
    refine tE_of (f := fun env d h1 => (ml env h1).bind fun l h2 => (mh env h2).bind fun u h3 => lift (sliceO d l u h3) h3) q fun rho env hh H1 d v R E qd p => ?_
    refine tO_of (d1 := d) (f := fun env d l h2 => (mh env h2).bind fun u h3 => lift (sliceO d l u h3) h3) ⟨rho, env, hh, R, E, qd, p⟩ fun rho env hh H2 l R E qd p => ?_
    refine tO_of (d1 := d) (f := fun env d u h3 => lift (sliceO d l u h3) h3) ⟨rho, env, hh, R, E, qd, p⟩ fun rho env hh H3 u R E qd p => ?_
    obtain ⟨a, e, p⟩ := lift_post p
    exact sl_of R qd e fun w H' S' R' q' => p rho H' w S' R' q'⟩
end

def lenO : OpN := fun ds h => match ds with
  | [.str x] => if x.length ≤ sizeLine then some (.int x.length) else none
  | [.ref i] => match h[i]? with
    | some (.lst xs) => some (.int xs.length)
    | some (.dK kvs) => some (.int kvs.length)
    | _ => none
  | [.tup xs] => some (.int xs.length)
  | [.lst xs] => some (.int xs.length)
  | [.scr ns] => some (.int ns.length)
  | _ => none
def rLenA (X : Cx) : List V → Hp → VK → Prop := fun xs H Q => (∃ p ys, xs = [.ref p] ∧ (SqL X.K H p ys ∨ SqT X.K H p ys) ∧ Q (.int ys.length) H) ∨ ((∃ z, xs = [.str z] ∧ z.length ≤ sizeLine ∧ Q (.int z.length) H) ∨ (∃ a kvs, xs = [V.ref a] ∧ H a = some (.dK kvs) ∧ Q (.int kvs.length) H))
theorem call_lenA {X : Cx} : CallR X (.builtin "len") (rLenA X) := call_len_seq.or (call_len_str.or call_lenD)
theorem dens_one {G : Gm} {rho : Rm} {H : Hp} {d : D} {vs : List V} (q : Dens G rho H [d] vs) : ∃ v, vs = [v] ∧ Den G rho H d v := by
  simp only [Dens] at q
  obtain ⟨v, r, rfl, h, rfl⟩ := q
  exact ⟨v, rfl, h⟩
theorem dens_two {G : Gm} {rho : Rm} {H : Hp} {d e : D} {vs : List V} (q : Dens G rho H [d, e] vs) : ∃ v w, vs = [v, w] ∧ Den G rho H d v ∧ Den G rho H e w := by
  simp only [Dens] at q
  obtain ⟨v, r, rfl, h, w, r2, rfl, h2, rfl⟩ := q
  exact ⟨v, w, rfl, h, h2⟩
theorem rz_len {X : Cx} : RzN (Cx.gm X) (rLenA X) lenO := fun rho hh H ds vs d Q R q e k => by
  unfold lenO at e
  split at e
  · rename_i x
    split at e
    · rename_i hl
      cases e
      obtain ⟨v, rfl, h⟩ := dens_one q
      exact .inr (.inl ⟨x, by rw [show v = .str x from h], hl, k _ H .refl R rfl⟩)
    · cases e
  · rename_i i
    obtain ⟨v, rfl, h⟩ := dens_one q
    rw [Den] at h
    obtain ⟨a, e1, rfl⟩ := h
    split at e
    · rename_i xs e2
      cases e
      obtain ⟨ws, e3, l, z⟩ := R.ob i a _ e1 e2
      rw [z.length] at k
      exact .inl ⟨a, ws, rfl, .inl (SqL.of e3), k _ H .refl R rfl⟩
    · rename_i kvs e2
      cases e
      obtain ⟨fvs, e3, l, z⟩ := R.ob i a _ e1 e2
      rw [Paired.length z] at k
      exact .inr (.inr ⟨a, fvs, rfl, e3, k _ H .refl R rfl⟩)
    · cases e
  · rename_i xs
    cases e
    obtain ⟨v, rfl, h⟩ := dens_one q
    rw [Den] at h
    obtain ⟨a, ws, rfl, h1, l, z⟩ := h
    rw [z.length] at k
    exact .inl ⟨a, ws, rfl, .inr h1.t, k _ H .refl R rfl⟩
  · rename_i xs
    cases e
    obtain ⟨v, rfl, h⟩ := dens_one q
    rw [Den] at h
    obtain ⟨a, ws, rfl, h1, _, _, l, z⟩ := h
    rw [z.length] at k
    exact .inl ⟨a, ws, rfl, .inl (SqL.of h1), k _ H .refl R rfl⟩
  · rename_i ns
    cases e
    obtain ⟨v, rfl, h⟩ := dens_one q
    rw [Den] at h
    obtain ⟨a, rfl, hs, l⟩ := h
    refine .inl ⟨a, ns.map V.int, rfl, .inl ?_, by rw [List.length_map]; exact k _ H .refl R rfl⟩
    rcases hs with ⟨o, hs⟩ | hs
    · exact .inl (.inr ⟨o, hs⟩)
    · exact .inr hs
  · cases e

/-- the built-in class of a value -/
def tyName (d : D) (h : Hh) : Option String := match d with
  | .non => some "NoneType"
  | .bl _ => some "bool"
  | .int _ => some "int"
  | .str _ => some "str"
  | .tup _ => some "tuple"
  | .wtp _ => none
  | .lst _ => some "list"
  | .scr _ => some "list"
  | .ref i => match h[i]? with
    | some (.lst _) => some "list"
    | some (.dK _) => some "dict"
    | some (.dN _) => some "dict"
    | _ => none
  | .glb _ => none
  | .dct _ _ => some "dict"
def isiO : OpN := fun ds h => match ds with
  | [d, .glb (.ty T)] => (tyName d h).bind fun t => (kitB t T).map D.bl
  | _ => none
def rIsiA (K : PySem.W.Frag) : List V → Hp → VK → Prop := fun xs H Q => rIsi K xs H Q ∨ ∃ (a : Addr) (es : Array DictEntry) (c : V) (u : Value) (b : Bool), xs = [.ref a, c] ∧ ClsV c u ∧ H a = some (.ext (dictRaw a es)) ∧ PySem.W.kitOne K (.type "dict") u = some b ∧ Q (.bl b) H
theorem call_isiA {X : Cx} : CallR X (.builtin "isinstance") (rIsiA X.K) := by
  intro pins s σ H xs us Q I r h
  rcases h with h | h
  · exact call_isi pins s σ H xs us Q I r h
  · obtain ⟨a, es, c, u, b, rfl, k, ha, e, q⟩ := h
    obtain ⟨u1, u2, rfl, r1, r2⟩ := vals2 r
    have e2 := k.eq r2
    subst e2
    cases (show u1 = Value.ref a from r1)
    obtain ⟨⟨o, ep, h1, h2, h3⟩, _, _⟩ := I.hok a _ ha
    exact PySem.W.kia_one PySem.W.kitx_dict I.kIn ⟨o, h1, h2.1⟩ e (fun z => nomatch z) fun tk => ⟨.bl b, H, I.tok tk, rfl, q⟩
theorem rz_isi {X : Cx} : RzN (Cx.gm X) (rIsiA X.K) isiO := fun rho hh H ds vs d Q R q e k => by
  unfold isiO at e
  split at e
  · rename_i x T
    obtain ⟨t, e1, e⟩ := Option.bind_eq_some_iff.mp e
    obtain ⟨b, e2, rfl⟩ := Option.map_eq_some_iff.mp e
    obtain ⟨v, w, rfl, h, hw⟩ := dens_two q
    rw [show w = .ty T from hw]
    have fin : Q (.bl b) H := k _ H .refl R rfl
    have via : TyX X.K H v (.type t) → rIsiA X.K [v, .ty T] H Q := fun ty => .inl ⟨v, .ty T, .type t, .type T, b, rfl, .ty T, ty, kit_ty e2, fin⟩
    clear e
    unfold tyName at e1
    split at e1
    · cases e1; rw [show v = .non from h] at via ⊢; exact via (.base .non)
    · rename_i y; cases e1; rw [show v = .bl y from h] at via ⊢; exact via (.base (.bl y))
    · rename_i y; cases e1; rw [show v = .int y from h] at via ⊢; exact via (.base (.int y))
    · rename_i y; cases e1; rw [show v = .str y from h] at via ⊢; exact via (.base (.str y))
    · cases e1
      rw [Den] at h
      obtain ⟨a, ws, rfl, h1, l, z⟩ := h
      rcases h1.t with (h1 | ⟨o, h1⟩) | ⟨o, its, n, h1, h2, _⟩
      · exact via (.base (.tup h1))
      · exact via (.fTuple h1)
      · exact via (.kTuple h1 h2)
    · cases e1
    · cases e1
      rw [Den] at h
      obtain ⟨a, ws, rfl, h1, _, _, l, z⟩ := h
      exact via (.base (.lst h1))
    · cases e1
      rw [Den] at h
      obtain ⟨a, rfl, hs, l⟩ := h
      rcases hs with ⟨o, hs⟩ | ⟨o, its, n, h1, h2, _⟩
      · exact via (.base (.frz hs))
      · exact via (.kList h1 h2)
    · rw [Den] at h
      obtain ⟨a, e3, rfl⟩ := h
      split at e1
      · rename_i e4
        cases e1
        obtain ⟨ws, e5, _⟩ := R.ob _ a _ e3 e4
        exact via (.base (.lst e5))
      · rename_i e4
        cases e1
        obtain ⟨ws, e5, _⟩ := R.ob _ a _ e3 e4
        exact via (.base (.dK e5))
      · rename_i e4
        cases e1
        obtain ⟨ws, _, _, es, e5, _⟩ := R.ob _ a _ e3 e4
        exact .inr ⟨a, es, .ty T, .type T, b, rfl, .ty T, e5, kit_ty e2, fin⟩
      · cases e1
    · cases e1
    · cases e1
      rw [Den] at h
      obtain ⟨a, xs, es, us, rfl, e5, _⟩ := h
      exact .inr ⟨a, es, .ty T, .type T, b, rfl, .ty T, e5, kit_ty e2, fin⟩
  · cases e

/-- a list of truths -/
def truths : List D → Option (List Bool)
  | [] => some []
  | .bl b :: ds => (truths ds).map (b :: ·)
  | _ :: _ => none
def allO : OpN := fun ds h => match ds with
  | [d] => (seqL d h).bind fun xs => (truths xs).map fun bs => .bl (bs.all id)
  | _ => none
def anyO : OpN := fun ds h => match ds with
  | [d] => (seqL d h).bind fun xs => (truths xs).map fun bs => .bl (bs.any id)
  | _ => none
section
variable {G : Gm} {rho : Rm} {H : Hp} {hh : Hh}
theorem truths_of : ∀ {ds : List D} {vs : List V} {bs : List Bool}, Dens G rho H ds vs → truths ds = some bs → vs = bs.map V.bl
  | [], vs, bs, h, e => by rw [truths] at e; cases e; rw [Dens] at h; exact h
  | d :: ds, vs, bs, h, e => by
    rw [Dens] at h
    obtain ⟨v, r, rfl, a, b⟩ := h
    cases d with
    | bl k =>
      rw [truths] at e
      obtain ⟨cs, e1, rfl⟩ := Option.map_eq_some_iff.mp e
      rw [truths_of b e1, show v = .bl k from a]; rfl
    | non => cases e
    | int i => cases e
    | str i => cases e
    | tup i => cases e
    | wtp i => cases e
    | lst i => cases e
    | ref i => cases e
    | glb i => cases e
    | scr i => cases e
    | dct i j => cases e
theorem rz_all : RzN G (rAll G.K) allO := fun rho hh H ds vs d Q R q e k => by
  unfold allO at e
  split at e
  · obtain ⟨xs, e1, e⟩ := Option.bind_eq_some_iff.mp e
    obtain ⟨bs, e2, rfl⟩ := Option.map_eq_some_iff.mp e
    obtain ⟨v, rfl, h⟩ := dens_one q
    obtain ⟨a, ws, rfl, h1, l, z⟩ := seqL_of R h e1
    have ew := truths_of z e2
    subst ew
    exact ⟨a, bs, rfl, SqL.of h1, k _ H .refl R rfl⟩
  · cases e
def max2O : OpN := fun ds _ => match ds with
  | [.int i, .int j] => some (.int (if j > i then j else i))
  | _ => none
def min2O : OpN := fun ds _ => match ds with
  | [.int i, .int j] => some (.int (if j < i then j else i))
  | _ => none
theorem rz_max2 : RzN G (fun xs H Q => ∃ i j, xs = [.int i, .int j] ∧ Q (.int (if j > i then j else i)) H) max2O := fun rho hh H ds vs d Q R q e k => by
  unfold max2O at e
  split at e
  · rename_i i j
    cases e
    obtain ⟨v, w, rfl, h, hw⟩ := dens_two q
    exact ⟨i, j, by rw [show v = .int i from h, show w = .int j from hw], k _ H .refl R rfl⟩
  · cases e
theorem rz_min2 : RzN G (fun xs H Q => ∃ i j, xs = [.int i, .int j] ∧ Q (.int (if j < i then j else i)) H) min2O := fun rho hh H ds vs d Q R q e k => by
  unfold min2O at e
  split at e
  · rename_i i j
    cases e
    obtain ⟨v, w, rfl, h, hw⟩ := dens_two q
    exact ⟨i, j, by rw [show v = .int i from h, show w = .int j from hw], k _ H .refl R rfl⟩
  · cases e
def int1O : OpN := fun ds _ => match ds with
  | [.int i] => some (.int i)
  | [.bl b] => some (.int (if b then 1 else 0))
  | _ => none
/-- tuple(x) of a list or a tuple -/
def tupleO : OpN := fun ds h => match ds with
  | [.tup xs] => some (.tup xs)
  | [.scr ns] => some (.tup (ns.map D.int))
  | [d] => (seqL d h).map fun xs => .tup xs
  | _ => none
def rTupF (K : PySem.W.Frag) : List V → Hp → VK → Prop := fun xs H Q => ∃ p ys, xs = [.ref p] ∧ ((SqL K H p ys ∧ NewT H ys Q) ∨ (SqT K H p ys ∧ Q (.ref p) H))
theorem call_tupF {X : Cx} : CallR X (.type "tuple") (rTupF X.K) := by
  intro pins s σ H xs us Q I r h
  obtain ⟨p, ys, rfl, h⟩ := h
  rcases h with ⟨hq, q⟩ | ⟨hq, q⟩
  · obtain ⟨u, rfl, rx⟩ := vals1 r
    cases rx
    obtain ⟨its, r', pl, hz⟩ := I.list hq
    have hlen := r'.length
    refine call_tuple_list pl.isList (fun h' kp => ?_) (by simp only [List.size_toArray] <;> omega)
    exact inv_newT (I.kept (t' := s.toks) kp) r' hz q
  · exact call_tuple_of pins s σ H _ us Q I r ⟨p, ys, rfl, .inr ⟨hq, q⟩⟩
theorem rz_tuple {X : Cx} : RzN (Cx.gm X) (rTupF X.K) tupleO := fun rho hh H ds vs d Q R q e k => by
  unfold tupleO at e
  split at e
  · rename_i xs
    cases e
    obtain ⟨v, rfl, h⟩ := dens_one q
    have h0 := h
    rw [Den] at h
    obtain ⟨a, ws, rfl, h1, l, z⟩ := h
    exact ⟨a, ws, rfl, .inr ⟨h1.t, k _ H .refl R h0⟩⟩
  · rename_i ns
    cases e
    obtain ⟨v, rfl, h⟩ := dens_one q
    rw [Den] at h
    obtain ⟨a, rfl, hs, l⟩ := h
    refine ⟨a, ns.map V.int, rfl, .inl ⟨?_, fun p o hp ho => k _ _ (.laid hp) (R.laid hp) (Den.tup_new ho R (dens_ints ns) (by simpa using l) hp)⟩⟩
    rcases hs with ⟨o, hs⟩ | hs
    · exact .inl (.inr ⟨o, hs⟩)
    · exact .inr hs
  · obtain ⟨xs, e1, rfl⟩ := Option.map_eq_some_iff.mp e
    obtain ⟨v, rfl, h⟩ := dens_one q
    obtain ⟨a, ws, rfl, h1, l, z⟩ := seqL_of R h e1
    exact ⟨a, ws, rfl, .inl ⟨SqL.of h1, fun p o hp ho => k _ _ (.laid hp) (R.laid hp) (Den.tup_new ho R z l hp)⟩⟩
  · cases e
end
end MR

namespace MR
open PySem PySem.Spec PyProof.Rows L2

abbrev OpM := D → List D → Hh → Option (D × Hh)
def liftM {α : Type} (o : Option (α × Hh)) : Res α := match o with | some (a, h) => .ok a h | none => .stuck
structure RzM (G : Gm) (T : String) (r : V → List V → Hp → VK → Prop) (ok : D → Hh → Bool) (f : OpM) : Prop where
  ty : ∀ rho hh H d v, Rep G rho hh H → Den G rho H d v → ok d hh = true → tyV G.K T v H
  run : ∀ rho hh H d ds v vs d' hh' (Q : VK), Rep G rho hh H → Den G rho H d v → Dens G rho H ds vs → f d ds hh = some (d', hh') →
    (∀ w rho' H', Step rho H rho' H' → Rep G rho' hh' H' → Den G rho' H' d' w → Q w H') → r v vs H Q
def eMeth (ok : D → Hh → Bool) (f : OpM) (m : ME) (ms : MA) : ME := fun env h => (m env h).bind fun d h1 => if ok d h1 = true then (ms env h1).bind fun ds h2 => liftM (f d ds h2) else .stuck
section
variable {X : Cx} {o e : Expr} {es : List Expr} {m : ME} {ms : MA} {name : Str} {apos cpos : Pos} {T id : String} {r : V → List V → Hp → VK → Prop} {ok : D → Hh → Bool} {f : OpM}
theorem meth_of {G : Gm} {W : WX} {σ : L2.St} {H : Hp} {Q : VK} (z : RzM G T r ok f) (h : TD G W (eMeth ok f m ms) σ H Q) : tBM G.K T r (TD G W m) (TDa G W ms) σ H Q := by
  refine tE_of (f := fun env d h1 => if ok d h1 = true then (ms env h1).bind fun ds h2 => liftM (f d ds h2) else .stuck) h fun rho env hh H1 d v R E qd p => ?_
  split at p
  · rename_i hok
    refine ⟨z.ty rho hh H1 d v R qd hok, ?_⟩
    have h2 := At.seq2A (m := ms) (f := fun env d ds h2 => liftM (f d ds h2)) ⟨rho, env, hh, d, R, E, qd, p⟩
    obtain ⟨rho2, env2, hh2, R2, E2, p2⟩ := h2
    refine ⟨rho2, env2, hh2, R2, E2, ?_⟩
    cases e2 : ms env2 hh2 with
    | ok d2 hh3 =>
      rw [e2] at p2
      intro rho3 H3 vs S3 R3 q3
      obtain ⟨rho4, env4, hh4, x, xs, R4, E4, qx, qy, p4⟩ := p2 rho3 H3 vs S3 R3 q3
      cases e4 : f x xs hh4 with
      | none => rw [e4] at p4; exact p4.elim
      | some y =>
        obtain ⟨d', hh'⟩ := y
        rw [e4] at p4
        exact z.run rho4 hh4 H3 x xs v vs d' hh' Q R4 qx qy e4 fun w rho' H' S' R' q' => p4 rho' H' w S' R' q'
    | err x hh1 => rw [e2] at p2; exact p2
    | stuck => rw [e2] at p2; exact p2
  · exact p.elim
theorem de_meth (pa : PlainAttrs T) (slot : Slot T name id) (hty : typeOf (.builtin id) = pure (.type "method_descriptor")) (hm : MtR X id r) (z : RzM (Cx.gm X) T r ok f) (ho : DE X o m) (ha : DA X (e :: es) ms)
    (hbase : attributeBase o name X.env (eval o X.env) = eval o X.env := by rfl)
    (hfew : ((backTo cpos (starEach (e :: es) X.env)).all (fun x => !x.1) && (backToKw cpos (keywordEach [] X.env)).all (fun x => x.1.isSome)
      && decide ((e :: es).length + ([] : List Keyword).length + (if ([] : List Keyword).isEmpty then 0 else 1) < 30)) = true := by rfl)
    (hline : (apos.endLine == cpos.line) = true := by rfl) (hs : starEach (e :: es) X.env = (false, eval e X.env) :: starEach es X.env := by rfl) (hplain : (backTo cpos (starEach es X.env)).any (·.1) = false := by rfl) :
    DE X (.Call (.Attribute o name apos) (e :: es) [] cpos) (eMeth ok f m ms) :=
  ⟨fun W tk => pe_weak (pe_bm pa slot hty hm (ho.run W tk) (ha.run W tk) hbase hfew hline hs hplain) fun σ H Q h => meth_of z h⟩
end

def isL (d : D) (h : Hh) : Bool := (seqL d h).isSome
/-- the list at a ref, changed -/
def chL (g : List D → Option (D × List D)) (d : D) (h : Hh) : Option (D × Hh) := match d with
  | .ref i => match h[i]? with
    | some (.lst xs) => (g xs).map fun p => (p.1, h.set i (.lst p.2))
    | _ => none
  | _ => none
section
variable {G : Gm} {rho : Rm} {H : Hp} {hh : Hh}
theorem isL_ty {d : D} {v : V} (R : Rep G rho hh H) (q : Den G rho H d v) (h : isL d hh = true) : tyV G.K "list" v H := by
  obtain ⟨ds, e⟩ := Option.isSome_iff_exists.mp h
  obtain ⟨a, vs, rfl, h1, _, _⟩ := seqL_of R q e
  exact .inl ⟨rfl, _, SqL.of h1⟩
theorem chL_of {g : List D → Option (D × List D)} {d d' : D} {v : V} {hh' : Hh} (R : Rep G rho hh H) (q : Den G rho H d v) (h : chL g d hh = some (d', hh')) :
    ∃ (i : Nat) (a : Addr) (xs ys : List D) (vs : List V), d = .ref i ∧ rho.at_[i]? = some a ∧ v = .ref a ∧ H a = some (.lst vs) ∧ vs.length ≤ sizeLine ∧ Dens G rho H xs vs ∧ g xs = some (d', ys) ∧ hh' = hh.set i (.lst ys) ∧
      ∀ ws, ws.length ≤ sizeLine → Dens G rho H ys ws → Step rho H rho (upd H a (.lst ws)) ∧ Rep G rho (hh.set i (.lst ys)) (upd H a (.lst ws)) := by
  unfold chL at h
  split at h
  · rename_i i
    split at h
    · rename_i xs e
      obtain ⟨p, e2, e3⟩ := Option.map_eq_some_iff.mp h
      cases e3
      rw [Den] at q
      obtain ⟨a, e1, rfl⟩ := q
      obtain ⟨vs, e4, l, z⟩ := R.ob i a _ e1 e
      refine ⟨i, a, xs, p.2, vs, rfl, e1, rfl, e4, l, z, by rw [e2], rfl, fun ws hl hz => ?_⟩
      have S : Step rho H rho (upd H a (.lst ws)) := .put (List.mem_of_getElem? e1)
      exact ⟨S, R.put e1 ⟨ws, upd_same, hl, Dens.step R S _ _ hz⟩⟩
    · cases h
  · cases h
end
def appendO : OpM := fun d ds h => match ds with
  | [e] => chL (fun xs => if xs.length < sizeLine then some (.non, xs ++ [e]) else none) d h
  | _ => none
theorem rz_append {G : Gm} : RzM G "list" rAppend isL appendO where
  ty := fun rho hh H d v R q h => isL_ty R q h
  run := fun rho hh H d ds v vs d' hh' Q R qd qs e k => by
    unfold appendO at e
    split at e
    · rename_i x
      obtain ⟨y, rfl, qy⟩ := dens_one qs
      obtain ⟨i, a, xs, ys, ws, rfl, e1, rfl, e2, l, z, e3, rfl, fin⟩ := chL_of R qd e
      split at e3
      · rename_i hl
        cases e3
        have hw : ws.length < sizeLine := by rw [← z.length]; exact hl
        obtain ⟨S, R'⟩ := fin (ws ++ [y]) (by simp; omega) (z.append ⟨y, [], rfl, qy, rfl⟩)
        exact ⟨a, ws, y, rfl, rfl, e2, hw, k _ rho _ S R' rfl⟩
      · cases e3
    · cases e
def extendO : OpM := fun d ds h => match ds with
  | [e] => match seqL e h with
    | some ys => chL (fun xs => if xs.length + ys.length ≤ sizeLine then some (.non, xs ++ ys) else none) d h
    | none => none
  | _ => none
def insertO : OpM := fun d ds h => match ds with
  | [.int i, e] => chL (fun xs => if xs.length < sizeLine ∧ 0 ≤ i ∧ i < 1000000000 then some (.non, xs.take i.toNat ++ [e] ++ xs.drop i.toNat) else none) d h
  | _ => none
def popO : OpM := fun d ds h => match ds with
  | [] => chL (fun xs => match xs[xs.length - 1]? with
    | some y => some (y, xs.dropLast)
    | none => none) d h
  | _ => none
theorem Dens.dropLast {G : Gm} {rho : Rm} {H : Hp} {ds : List D} {vs : List V} (h : Dens G rho H ds vs) : Dens G rho H ds.dropLast vs.dropLast := by
  rw [List.dropLast_eq_take, List.dropLast_eq_take, h.length]; exact h.take _
abbrev OpS := D → D → D → Hh → Option Hh
def RzS (G : Gm) (t : TSet) (f : OpS) : Prop := ∀ rho hh H o i d vo vi v hh' (Q : Hp → Prop), Rep G rho hh H → Den G rho H o vo → Den G rho H i vi → Den G rho H d v → f o i d hh = some hh' →
  (∀ H', Step rho H rho H' → Rep G rho hh' H' → Q H') → t vo vi v H Q
def gSubD (mo mi : ME) (f : OpS) : MG := fun d env h => match mo env h with
  | .ok o h1 => match mi env h1 with
    | .ok i h2 => (f o i d h2).map fun h3 => (env, h3)
    | _ => none
  | _ => none
section
variable {X : Cx} {o i : Expr} {mo mi : ME} {t : TSet} {f : OpS} {pos : Pos}
theorem dg_sub (ho : DE X.nox o mo) (hi : DE X.nox i mi) (hs : PSet X t) (z : RzS (Cx.gm X) t f)
    (ha : ∀ v, assign (.Subscript o i pos) X.env v = (do
      let ov ← holding [v] (eval o X.env)
      let iv ← holding [v, ov] (eval i X.env)
      standAt pos
      holding [v, ov, iv] (setItem ov iv v)
      release [v, ov, iv] []) := by intro _; rfl) : DG X (.Subscript o i pos) (gSubD mo mi f) :=
  ⟨pg_weak (pg_sub (PE.nox (ho.run WF takes0)) (PE.nox (hi.run WF takes0)) hs ha) fun v σ H Q ⟨rho, env, hh, d, R, E, q, p⟩ => by
    unfold gSubD at p
    refine ⟨rho, env, hh, R, E, ?_⟩
    show PostE (Cx.gm X) (Den (Cx.gm X)) _ rho H (mo env hh) _
    cases e1 : mo env hh with
    | stuck => rw [e1] at p; exact p.elim
    | err x h1 => rw [e1] at p; exact p.elim
    | ok od h1 =>
      rw [e1] at p
      intro rho1 H1 ov S1 R1 q1
      refine ⟨rho1, env, h1, R1, E.step R S1, ?_⟩
      show PostE (Cx.gm X) (Den (Cx.gm X)) _ rho1 H1 (mi env h1) _
      simp only at p
      cases e2 : mi env h1 with
      | stuck => rw [e2] at p; exact p.elim
      | err x h1 => rw [e2] at p; exact p.elim
      | ok id h2 =>
        rw [e2] at p
        intro rho2 H2 iv S2 R2 q2
        simp only at p
        cases e3 : f od id d h2 with
        | none => rw [e3] at p; exact p.elim
        | some hh' =>
          rw [e3] at p
          have S12 := S1.trans S2
          exact z rho2 h2 H2 od id d ov iv v hh' _ R2 (Den.step R1 S2 _ _ q1) q2 (Den.step R S12 _ _ q) e3 fun H' S' R' => p rho2 H' σ (S12.trans S') R' (E.step R (S12.trans S'))⟩
end
def setO : OpS := fun o i d h => match o with
  | .ref j => match h[j]? with
    | some (.lst xs) => match i with
      | .int k => (ixN xs.length k).map fun n => h.set j (.lst (xs.set n d))
      | _ => none
    | _ => none
  | _ => none
theorem Dens.set {G : Gm} {rho : Rm} {H : Hp} {d : D} {v : V} (q : Den G rho H d v) : ∀ {ds : List D} {vs : List V} (n : Nat), Dens G rho H ds vs → Dens G rho H (ds.set n d) (vs.set n v)
  | [], vs, n, h => by rw [Dens] at h; subst h; simp [Dens]
  | x :: ds, vs, 0, h => by
    rw [Dens] at h
    obtain ⟨w, r, rfl, a, b⟩ := h
    exact ⟨v, r, rfl, q, b⟩
  | x :: ds, vs, n + 1, h => by
    rw [Dens] at h
    obtain ⟨w, r, rfl, a, b⟩ := h
    exact ⟨w, r.set n v, rfl, a, Dens.set q n b⟩
theorem rz_set {G : Gm} : RzS G rSetL setO := fun rho hh H o i d vo vi v hh' Q R qo qi qd e k => by
  unfold setO at e
  split at e
  · rename_i j
    split at e
    · rename_i xs ex
      split at e
      · rename_i n
        obtain ⟨m, e1, rfl⟩ := Option.map_eq_some_iff.mp e
        rw [Den] at qo
        obtain ⟨a, e2, rfl⟩ := qo
        obtain ⟨ws, e3, l, z⟩ := R.ob j a _ e2 ex
        have S : Step rho H rho (upd H a (.lst (ws.set m v))) := .put (List.mem_of_getElem? e2)
        refine ⟨a, ws, n, m, rfl, qi, e3, by rw [← z.length]; exact e1, k _ S (R.put e2 ⟨_, upd_same, by simpa using l, Dens.step R S _ _ (z.set qd m)⟩)⟩
      · cases e
    · cases e
  · cases e

end MR

namespace MR
open PySem PySem.Spec PyProof.Rows L2

section
variable {G : Gm} {rho : Rm} {H : Hp} {hh : Hh}
/-- a thing that is set apart is changed -/
theorem putH {p : Addr} {o o2 : HO} (hp : H p = some o) (mu : Mut (some o)) (hr : p ∈ rho.res) : (∀ a vs, SqT G.K H a vs → SqT G.K (upd H p o2) a vs) ∧ (∀ a o, H a = some o → a ∉ rho.at_ → a ∉ rho.res → (upd H p o2) a = some o) ∧ (∀ a o u, H a = some (.frz o u) → (upd H p o2) a = some (.frz o u)) := by
  have nt : ∀ a u, H a = some u → ¬ Mut (some u) → a ≠ p := fun a u e n z => by
    subst z
    rw [hp] at e; cases e
    exact n mu
  refine ⟨fun a vs h => ?_, fun a vs h n n2 => ?_, fun a o u h => ?_⟩
  · rcases h with (h | ⟨o, h⟩) | h
    · exact .inl (.inl (by rw [upd_ne (nt _ _ h fun z => z)]; exact h))
    · exact .inl (.inr ⟨o, by rw [upd_ne (nt _ _ h fun z => z)]; exact h⟩)
    · exact .inr h
  · rw [upd_ne fun e => n2 (by rw [e]; exact hr)]; exact h
  · rw [upd_ne (nt _ _ h fun z => z)]; exact h
theorem Rep.putH (R : Rep G rho hh H) {p : Addr} {o o2 : HO} (hp : H p = some o) (mu : Mut (some o)) (hr : p ∈ rho.res) (ha : p ∉ rho.at_) : Rep G rho hh (upd H p o2) := by
  obtain ⟨ht, hl, hf⟩ := MR.putH (G := G) (o2 := o2) hp mu hr
  refine ⟨R.nd, fun a m => ?_, R.len, fun i a ob e1 e2 => ?_⟩
  · by_cases e : a = p
    · subst e; exact ⟨_, upd_same⟩
    · obtain ⟨o, q⟩ := R.hd a m
      exact ⟨o, by rw [upd_ne e]; exact q⟩
  · have ne : a ≠ p := fun e => ha (by rw [← e]; exact List.mem_of_getElem? e1)
    have x := R.ob i a ob e1 e2
    cases ob with
    | lst ds => obtain ⟨vs, e, l, q⟩ := x; exact ⟨vs, by rw [upd_ne ne]; exact e, l, dens_same ht hl hf ds vs q⟩
    | dK kvs => obtain ⟨vs, e, l, q⟩ := x; exact ⟨vs, by rw [upd_ne ne]; exact e, l, Paired.mapP q fun p q r => ⟨r.1, den_same ht hl hf _ _ r.2⟩⟩
    | dN kvs =>
      obtain ⟨xs, l0, l1, es, e, q, r⟩ := x
      exact ⟨xs, l0, l1, es, by rw [upd_ne ne]; exact e, Paired.mapP q fun p q r => ⟨r.1, den_same ht hl hf _ _ r.2.1, let ⟨v, a, b⟩ := r.2.2; ⟨v, a, den_same ht hl hf _ _ b⟩⟩, r⟩
    | ins C fs =>
      obtain ⟨c, dx, fvs, g, e, o', q⟩ := x
      have nd : dx ≠ p := fun z => by
        subst z
        rw [hp] at o'; cases o'; exact mu
      exact ⟨c, dx, fvs, g, by rw [upd_ne ne]; exact e, by rw [upd_ne nd]; exact o', Paired.mapP q fun p q r => ⟨r.1, den_same ht hl hf _ _ r.2⟩⟩
    | exc x => obtain ⟨c, d, q, e⟩ := x; exact ⟨c, d, q.put (.inr hr), by rw [upd_ne ne]; exact e⟩
/-- a thing is laid and set apart -/
theorem new_held (R : Rep G rho hh H) {p : Addr} {o : HO} (hp : H p = none) : Step rho H (rho.hold p) (upd H p o) ∧ Rep G (rho.hold p) hh (upd H p o) ∧ p ∉ rho.at_ := by
  refine ⟨.laidR hp, ?_, fun hm => ?_⟩
  · exact ⟨R.nd, fun a m => by
      rcases List.mem_cons.mp m with e | m
      · rw [e]; exact ⟨_, upd_same⟩
      · obtain ⟨o', e⟩ := R.hd a m
        exact ⟨o', by rw [upd_ne (ne_of_none e hp)]; exact e⟩, R.len, fun i a o' e1 e2 => (R.ob i a o' e1 e2).step R (.laidR hp) (fun u q => by rw [upd_ne (ne_of_none q hp)]; exact q) fun dx q => by rw [upd_ne (ne_of_none q hp)]; exact q⟩
  · obtain ⟨u, e, _⟩ := R.mut hm
    rw [hp] at e; cases e
end

section
variable {κ : Type} [DecidableEq κ] {α : Type}
def getG (kvs : List (κ × α)) (k : κ) : Option α := (kvs.find? fun kv => decide (kv.1 = k)).map (·.2)
def putG (kvs : List (κ × α)) (k : κ) (v : α) : List (κ × α) :=
  if (kvs.any fun kv => decide (kv.1 = k)) = true then kvs.map (fun kv => if kv.1 = k then (kv.1, v) else kv) else kvs ++ [(k, v)]
def dropG (kvs : List (κ × α)) (k : κ) : List (κ × α) := kvs.filter fun kv => decide (kv.1 ≠ k)
def mergeG (kvs more : List (κ × α)) : List (κ × α) := more.foldl (fun acc kv => putG acc kv.1 kv.2) kvs
end
def keyD (d : D) : Option Key := match d with
  | .int i => some (.inl i)
  | .str x => some (.inr x)
  | _ => none
abbrev KD (G : Gm) (rho : Rm) (H : Hp) : List (Key × D) → List (Key × V) → Prop := Paired fun (p : Key × D) (q : Key × V) => p.1 = q.1 ∧ Den G rho H p.2 q.2
section
variable {G : Gm} {rho rho' : Rm} {H H' : Hp} {hh : Hh}
theorem KD.step (R : Rep G rho hh H) (S : Step rho H rho' H') {a : List (Key × D)} {b : List (Key × V)} (h : KD G rho H a b) : KD G rho' H' a b := Paired.mapP h fun p q r => ⟨r.1, Den.step R S _ _ r.2⟩
theorem KD.get {a : List (Key × D)} {b : List (Key × V)} (h : KD G rho H a b) {k : Key} {d : D} (e : getG a k = some d) : ∃ v, valV b k = some v ∧ Den G rho H d v := by
  induction h with
  | nil => cases e
  | @cons p q ps qs r t ih =>
    unfold getG at e
    rw [List.find?_cons] at e
    by_cases hk : p.1 = k
    · simp only [hk, decide_true, Option.map_some, Option.some.injEq] at e
      subst e
      exact ⟨q.2, valV_pos (r.1.symm.trans hk), r.2⟩
    · simp only [hk, decide_false] at e
      obtain ⟨v, e1, e2⟩ := ih e
      exact ⟨v, by rw [valV_neg (fun z => hk (r.1.trans z))]; exact e1, e2⟩
theorem KD.any {a : List (Key × D)} {b : List (Key × V)} (h : KD G rho H a b) (k : Key) : (a.any fun kv => decide (kv.1 = k)) = (b.any fun kv => decide (kv.1 = k)) := by
  induction h with
  | nil => rfl
  | @cons p q ps qs r t ih => simp only [List.any_cons, ih, r.1]
theorem KD.none {a : List (Key × D)} {b : List (Key × V)} (h : KD G rho H a b) {k : Key} (e : getG a k = none) : valV b k = none := by
  induction h with
  | nil => rfl
  | @cons p q ps qs r t ih =>
    unfold getG at e
    rw [List.find?_cons] at e
    by_cases hk : p.1 = k
    · simp [hk] at e
    · simp only [hk, decide_false] at e
      rw [valV_neg (fun z => hk (r.1.trans z))]
      exact ih e
theorem KD.append {a a2 : List (Key × D)} {b b2 : List (Key × V)} (h : KD G rho H a b) (h2 : KD G rho H a2 b2) : KD G rho H (a ++ a2) (b ++ b2) := by
  induction h with
  | nil => exact h2
  | cons r t ih => exact .cons r ih
theorem KD.put {a : List (Key × D)} {b : List (Key × V)} (h : KD G rho H a b) (k : Key) {d : D} {v : V} (q : Den G rho H d v) : KD G rho H (putG a k d) (putK b k v) := by
  unfold putG putK
  rw [← h.any k]
  split
  · rename_i hany
    clear hany
    induction h with
    | nil => exact .nil
    | @cons p q' ps qs r t ih =>
      rw [List.map_cons, List.map_cons]
      refine .cons ?_ ih
      by_cases hk : p.1 = k
      · rw [if_pos hk, if_pos (r.1.symm.trans hk)]
        exact ⟨r.1, q⟩
      · rw [if_neg hk, if_neg (fun z => hk (r.1.trans z))]
        exact r
  · exact h.append (.cons ⟨rfl, q⟩ .nil)
theorem KD.drop {a : List (Key × D)} {b : List (Key × V)} (h : KD G rho H a b) (k : Key) : KD G rho H (dropG a k) (dropK b k) := by
  unfold dropG dropK
  induction h with
  | nil => exact .nil
  | @cons p q ps qs r t ih =>
    rw [List.filter_cons, List.filter_cons, ← r.1]
    split
    · exact .cons r ih
    · exact ih
theorem KD.merge {more : List (Key × D)} {rs : List (Key × V)} (h : KD G rho H more rs) : ∀ {a : List (Key × D)} {b : List (Key × V)}, KD G rho H a b → KD G rho H (mergeG a more) (mergeK b rs) := by
  unfold mergeG mergeK
  induction h with
  | nil => intro a b q; exact q
  | @cons p q ps qs r t ih =>
    intro a b z
    rw [List.foldl_cons, List.foldl_cons, ← r.1]
    exact ih (z.put p.1 r.2)
theorem keyD_of {d : D} {k : Key} {v : V} (h : keyD d = some k) (q : Den G rho H d v) : v = kV k := by
  cases d with
  | int i => cases h; exact q
  | str x => cases h; exact q
  | non => cases h
  | bl b => cases h
  | tup b => cases h
  | wtp b => cases h
  | lst b => cases h
  | ref b => cases h
  | glb b => cases h
  | scr b => cases h
  | dct a b => cases h
end
def aPairs : List (ME × ME) → DEnv → Hh → Res (List (D × D))
  | [], _, h => .ok [] h
  | (a, b) :: r, env, h => (a env h).bind fun x h1 => (b env h1).bind fun y h2 => (aPairs r env h2).bind fun ps h3 => .ok ((x, y) :: ps) h3
def keyDs : List (D × D) → Option (List (Key × D))
  | [] => some []
  | (a, b) :: r => match keyD a, keyDs r with
    | some k, some ks => some ((k, b) :: ks)
    | _, _ => none
def eDisp (prs : List (ME × ME)) : ME := fun env h => (aPairs prs env h).bind fun ps h1 => match keyDs ps with
  | some kvs => if kvs.length ≤ 15 then .ok (.ref h1.length) (h1 ++ [.dK (mergeG [] kvs)]) else .stuck
  | none => .stuck
abbrev PD (G : Gm) (rho : Rm) (H : Hp) : List (D × D) → List (V × V) → Prop := Paired fun p q => Den G rho H p.1 q.1 ∧ Den G rho H p.2 q.2
section
variable {G : Gm} {W : WX} {σ : L2.St} {env : DEnv}
theorem pairs_of : ∀ (prs : List (ME × ME)) (rho : Rm) (hh : Hh) (H : Hp) (k : List (V × V) → Hp → Prop), Rep G rho hh H → EnvD G rho H env σ → PostE G (PD G) (wAt W σ) rho H (aPairs prs env hh) k →
    tPairs (prs.map fun p => (TD G W p.1, TD G W p.2)) σ H k
  | [], rho, hh, H, k, R, E, p => p rho H [] .refl R .nil
  | (a, b) :: r, rho, hh, H, k, R, E, p => by
    refine ⟨rho, env, hh, R, E, ?_⟩
    have p : PostE G (PD G) (wAt W σ) rho H ((a env hh).bind fun x h1 => (b env h1).bind fun y h2 => (aPairs r env h2).bind fun ps h3 => .ok ((x, y) :: ps) h3) k := p
    show PostE G (Den G) (wAt W σ) rho H (a env hh) _
    cases e1 : a env hh with
    | stuck => rw [e1] at p; exact p
    | err x h1 => rw [e1] at p; exact p
    | ok x h1 =>
      rw [e1, bind_ok] at p
      intro rho1 H1 vx S1 R1 q1
      refine ⟨rho1, env, h1, R1, E.step R S1, ?_⟩
      have p := p.start S1
      show PostE G (Den G) (wAt W σ) rho1 H1 (b env h1) _
      cases e2 : b env h1 with
      | stuck => rw [e2] at p; exact p
      | err x h1 => rw [e2] at p; exact p
      | ok y h2 =>
        rw [e2, bind_ok] at p
        intro rho2 H2 vy S2 R2 q2
        have p := p.start S2
        refine pairs_of r rho2 h2 H2 _ R2 ((E.step R S1).step R1 S2) ?_
        cases e3 : aPairs r env h2 with
        | stuck => rw [e3] at p; exact p
        | err x h1 => rw [e3] at p; exact p
        | ok ps h3 =>
          rw [e3, bind_ok] at p
          intro rho3 H3 vps S3 R3 q3
          exact p rho3 H3 ((vx, vy) :: vps) S3 R3 (.cons ⟨Den.step R2 S3 _ _ (Den.step R1 S2 _ _ q1), Den.step R2 S3 _ _ q2⟩ q3)
theorem keyDs_of {rho : Rm} {H : Hp} : ∀ {ps : List (D × D)} {kvs : List (Key × D)} {vps : List (V × V)}, PD G rho H ps vps → keyDs ps = some kvs → ∃ ws : List (Key × V), vps = ws.map (fun kv => (kV kv.1, kv.2)) ∧ KD G rho H kvs ws
  | [], kvs, vps, h, e => by
    cases h; cases e
    exact ⟨[], rfl, .nil⟩
  | (a, b) :: r, kvs, vps, h, e => by
    cases h with
    | @cons p q ps qs h1 h2 =>
      rw [keyDs] at e
      split at e
      · rename_i k ks e1 e2
        cases e
        obtain ⟨ws, rfl, z⟩ := keyDs_of h2 e2
        obtain ⟨q1, q2⟩ := q
        have eq : q1 = kV k := keyD_of e1 h1.1
        subst eq
        exact ⟨(k, q2) :: ws, rfl, .cons ⟨rfl, h1.2⟩ z⟩
      · cases e
end
structure DPs (X : Cx) (pos : Pos) (keys : List (Option Expr)) (values : List Expr) (prs : List (ME × ME)) : Prop where
  run : ∀ W, Takes X W → PPs X pos keys values (prs.map fun p => (TD (Cx.gm X) W p.1, TD (Cx.gm X) W p.2))
section
variable {X : Cx} {pos : Pos} {keys : List (Option Expr)} {values : List Expr} {prs : List (ME × ME)} {k v : Expr} {mk mv : ME}
theorem dps_nil : DPs X pos [] [] [] := ⟨fun W _ => pps_nil⟩
theorem dps_cons (hk : DE X k mk) (hv : DE X v mv) (hr : DPs X pos keys values prs) : DPs X pos (some k :: keys) (v :: values) ((mk, mv) :: prs) := ⟨fun W tk => pps_cons (hk.run W tk) (hv.run W tk) (hr.run W tk)⟩
theorem de_disp (h : DPs X pos keys values prs) (hall : keys.all (·.isSome) = true := by rfl) (hl : keys.length = values.length := by rfl) (h0 : keys ≠ [] := by intro z; cases z) (h15 : keys.length ≤ 15 := by decide) : DE X (.Dict keys values pos) (eDisp prs) :=
  ⟨fun W tk => pe_weak (pe_disp (h.run W tk) hall hl h0 h15) fun σ H Q ⟨rho, env, hh, R, E, p⟩ pp hp => by
    obtain ⟨S0, R0, na⟩ := new_held (o := .dK []) R hp
    refine pairs_of prs (rho.hold pp) hh _ _ R0 (E.step R S0) ?_
    unfold eDisp at p
    cases e1 : aPairs prs env hh with
    | stuck => rw [e1] at p; exact p
    | err x h1 => rw [e1] at p; exact p.start S0
    | ok ps h1 =>
      rw [e1, bind_ok] at p
      intro rho1 H1 vps S1 R1 q1
      have hk : H1 pp = some (.dK []) := S1.keep pp _ upd_same na
      have hr : pp ∈ rho1.res := S1.kept pp List.mem_cons_self
      have ha : pp ∉ rho1.at_ := S1.out upd_same na
      refine ⟨hk, ?_⟩
      cases e2 : keyDs ps with
      | none => rw [e2] at p; exact p.elim
      | some kvs =>
        rw [e2] at p
        simp only at p
        split at p
        · rename_i hz
          obtain ⟨ws, rfl, z⟩ := keyDs_of q1 e2
          have hlen := Paired.length z
          refine ⟨ws, rfl, by omega, ?_⟩
          have S2 : Step rho H rho1 (upd H1 pp (.dK (mergeK [] ws))) := (S0.trans S1).since hp
          have R2 := R1.putH (o2 := .dK (mergeK [] ws)) hk True.intro hr ha
          obtain ⟨ht, hl, hf⟩ := putH (G := Cx.gm X) (o2 := .dK (mergeK [] ws)) hk True.intro hr
          have z2 : KD (Cx.gm X) rho1 (upd H1 pp (.dK (mergeK [] ws))) kvs ws := Paired.mapP z fun p q r => ⟨r.1, den_same ht hl hf _ _ r.2⟩
          have hm : (mergeK [] ws).length ≤ sizeLine := by
            have a := length_mergeK ws []
            rw [List.length_nil] at a
            rw [sizeLine_eq]; omega
          refine p _ _ _ (S2.turn hp) (R2.turn hr ha ⟨_, upd_same, hm, z2.merge .nil⟩) ?_
          rw [Den]
          exact ⟨pp, by rw [← R2.len]; show (rho1.at_ ++ [pp])[_]? = _; rw [List.getElem?_append_right (Nat.le_refl _)]; simp, rfl⟩
        · exact p.elim⟩
end

def ixDO : Op2 := fun a b h => match a with
  | .ref i => match h[i]? with
    | some (.dK kvs) => match keyD b with
      | some k => getG kvs k
      | none => none
    | _ => none
  | _ => none
def rIxD : R2 := fun x y H Q => ∃ a kvs k v, x = .ref a ∧ H a = some (.dK kvs) ∧ y = kV k ∧ valV kvs k = some v ∧ Q v H
theorem ix_dict {X : Cx} (hu : X.A.units + 1 < cLine) : IxR X rIxD := by
  intro value slice pins s σ H x y v u Q I rx ry h hs
  obtain ⟨a, kvs, k, z, rfl, ha, rfl, hv, q⟩ := h
  cases rx
  have g : DGet H a (kV k) (some z) := by rw [← hv]; exact .k ha
  exact tail_any (dict_typeIs I g) PySem.F.slot_dict_getitem.lookup (d_getItem hu I g ry fun w' s' I' r' => ⟨z, H, I', r', q⟩) hs
theorem rz_ixD {G : Gm} : Rz2 G rIxD ixDO := fun rho hh H d1 d2 v1 v2 d Q R q1 q2 e k => by
  unfold ixDO at e
  split at e
  · rename_i i
    split at e
    · rename_i kvs e1
      split at e
      · rename_i key e2
        rw [Den] at q1
        obtain ⟨a, e3, rfl⟩ := q1
        obtain ⟨fvs, e4, l, z⟩ := R.ob i a _ e3 e1
        obtain ⟨v, e5, qv⟩ := KD.get z e
        exact ⟨a, fvs, key, v, rfl, e4, keyD_of e2 q2, e5, k _ H .refl R qv⟩
      · cases e
    · cases e
  · cases e
/-- an item of anything -/
def ixA : Op2 := fun a b h => match ixO a b h with
  | some d => some d
  | none => ixDO a b h
theorem rz_ixA {G : Gm} : Rz2 G (fun x y H Q => rIx G.K x y H Q ∨ rIxD x y H Q) ixA := fun rho hh H d1 d2 v1 v2 d Q R q1 q2 e k => by
  unfold ixA at e
  split at e
  · rename_i d' e1
    cases e
    exact .inl (rz_ix rho hh H d1 d2 v1 v2 d Q R q1 q2 e1 k)
  · exact .inr (rz_ixD rho hh H d1 d2 v1 v2 d Q R q1 q2 e k)
theorem de_ixA {X : Cx} {a b : Expr} {ma mb : ME} {pos : Pos} (hu : X.A.units + 1 < cLine) (ha : DE X a ma) (hb : DE X b mb) (hs : PlainIx b := by intro _ _; rfl) : DE X (.Subscript a b pos) (eOp2 ixA ma mb) := de_ix (ix_seq.or (ix_dict hu)) rz_ixA ha hb hs
end MR

namespace MR
open PySem PySem.Spec PyProof.Rows L2

theorem hu65 {k : Nat} {A : Around} (r : Room k A) : A.units + 65 < cLine := by have := r.un; omega

section
variable {P : Program} {w : World} {K : PySem.W.Frag} {mg : Str → Option Value} {base : Heap}
/-- what is new is dropped; what stood may have changed, within -/
noncomputable def dropF (F : MF) : MF := fun ds h => match F ds h with
  | .ok d h' => open Classical in if bel h.length d = true ∧ h.length ≤ h'.length ∧ ∀ (i : Nat) o, i < h.length → h'[i]? = some o → h[i]? = some o ∨ O.bel h.length o then .ok d (h'.take h.length) else .stuck
  | .err x h' => .err x h'
  | .stuck => .stuck
theorem dropF_of {F : MF} {ds : List D} {h h' : Hh} {d : D} (e : F ds h = .ok d h') (b : bel h.length d = true) (hl : h.length ≤ h'.length) (ho : ∀ (i : Nat) o, i < h.length → h'[i]? = some o → h[i]? = some o ∨ O.bel h.length o) :
    dropF F ds h = .ok d (h'.take h.length) := by
  unfold dropF
  rw [e]
  exact if_pos ⟨b, hl, ho⟩
theorem FnD.drop {k : Nat} {f : Addr} {fd : FuncData} {ps : List Str} {F : MF} (h : FnD P w K mg base k f fd ps F) : FnD P w K mg base k f fd ps (dropF F) :=
  FnOk.imp h fun vs H Q E ⟨hl, rho, hh, ds, R, q, p⟩ => ⟨hl, rho, hh, ds, R, q, by
    unfold dropF at p
    cases e : F ds hh with
    | ok d hh' =>
      rw [e] at p
      simp only at p
      split at p
      · rename_i hc
        obtain ⟨hb, hle, ho⟩ := hc
        intro rho' H' v S R' q'
        obtain ⟨ex, ee, hex⟩ := S.ext
        have b' : bel rho.at_.length d = true := by rw [R.len]; exact hb
        have h2 : ∀ a, a ∉ rho'.at_ → a ∉ rho'.res → a ∉ rho.res := fun a _ n m => n (S.kept a m)
        refine p rho H' v S.drop ⟨R.nd, fun a m => let ⟨o', e⟩ := R.hd a m; S.there a o' e, by rw [List.length_take, R.len]; omega, fun i a o e1 e2 => ?_⟩ (Den.res ⟨ex, ee⟩ h2 d v q' b')
        have hi : i < hh.length := by rw [← R.len]; exact (List.getElem?_eq_some_iff.mp e1).1
        have e3 : hh'[i]? = some o := by
          rw [List.getElem?_take] at e2
          simpa [hi] using e2
        refine (R'.ob i a o (S.get e1) e3).res ⟨ex, ee⟩ h2 ?_
        rcases ho i o hi e3 with z | z
        · exact (R.ob i a o e1 z).bel
        · rw [R.len]; exact z
      · exact p.elim
    | err x hh' => rw [e] at p; exact p
    | stuck => rw [e] at p; exact p⟩
end

/-- a def of the module -/
structure Fd (K : PySem.W.Frag) (mg : Str → Option Value) (x : Str) (st : Stmt) (ps : List Str) where
  f : Addr
  fd : FuncData
  F : Fun K x x st f fd
  g : mg x = some (.ref f)
  b : Binds K fd ps []
  r : ∀ (s : Shared) (us : List Value), us.length = ps.length → BindsTo s fd ⟨us, []⟩ (ps.zip us)
def mkFd {K : PySem.W.Frag} {h : Heap} {mg : Str → Option Value} (X : K.In h) (G : h.Ns mainGlobals mg) {x : Str} {st : Stmt} {ps : List Str} {f : Addr} {oc : Value} {od an : Option Addr} {osl : Array (Option Value)} {kV doc pm cdv ct : Value}
    (a : PySem.W.nsIn K mainGlobals x = some (some (.ref f))) (l : K.lookup f = some ⟨oc, od, .func (PySem.W.fnOf x x (defArgs st) (defBody st) (defScope st) .none kV doc pm an cdv ct), osl⟩) (c : PySem.W.codeIn K cdv x = true) (k : PySem.W.keepIn K (.ref f) = true)
    (hb : ∀ (kV doc pm : Value) (an : Option Addr) (cdv ct : Value) (us : List Value), us.length = ps.length → bindArgs (PySem.W.fnOf x x (defArgs st) (defBody st) (defScope st) .none kV doc pm an cdv ct) ⟨us, []⟩ = pure (ps.zip us)) : Fd K mg x st ps :=
  ⟨f, _, fun_mk l c k, PySem.W.mg_of X G a, (fun_mk l c k).binds hb, fun s us hl => .of_eq (hb _ _ _ _ _ _ us hl)⟩
/-- a def that stands at another name y -/
structure FdA (K : PySem.W.Frag) (mg : Str → Option Value) (y x : Str) (st : Stmt) (ps : List Str) where
  f : Addr
  fd : FuncData
  F : Fun K x x st f fd
  g : mg y = some (.ref f)
  b : Binds K fd ps []
  r : ∀ (s : Shared) (us : List Value), us.length = ps.length → BindsTo s fd ⟨us, []⟩ (ps.zip us)
/-- a constant of the module -/
structure Cn (P : Program) (w : World) (K : PySem.W.Frag) (mg : Str → Option Value) (x : Str) (d : D) where
  v : V
  u : Value
  g : mg x = some u
  r : RelV v u
  q : ∀ rho H, Den ⟨P, w, K⟩ rho H d v
def mkInt {P : Program} {w : World} {K : PySem.W.Frag} {h : Heap} {mg : Str → Option Value} (X : K.In h) (G : h.Ns mainGlobals mg) {x : Str} {i : Int} {t : Tok} (a : PySem.W.nsIn K mainGlobals x = some (some (.int i t))) : Cn P w K mg x (.int i) :=
  ⟨.int i, .int i t, PySem.W.mg_of X G a, ⟨t, rfl⟩, fun _ _ => rfl⟩
def mkStr {P : Program} {w : World} {K : PySem.W.Frag} {h : Heap} {mg : Str → Option Value} (X : K.In h) (G : h.Ns mainGlobals mg) {x : Str} {i : Str} {t : Tok} (a : PySem.W.nsIn K mainGlobals x = some (some (.str i t))) : Cn P w K mg x (.str i) :=
  ⟨.str i, .str i t, PySem.W.mg_of X G a, ⟨t, rfl⟩, fun _ _ => rfl⟩
/-- texts as they stand in a tuple of the module -/
theorem strs_dens {G : Gm} {rho : Rm} {H : Hp} : ∀ (xs : List Str), Dens G rho H (xs.map D.str) (xs.map V.str)
  | [] => rfl
  | x :: xs => ⟨.str x, xs.map V.str, rfl, rfl, strs_dens xs⟩
theorem strs_vals : ∀ (xs : List (Str × Tok)), Vals (xs.map fun p => V.str p.1) (xs.map fun p => Value.str p.1 p.2)
  | [] => .nil
  | x :: xs => .cons ⟨x.2, rfl⟩ (strs_vals xs)
def mkTupS {P : Program} {w : World} {K : PySem.W.Frag} {h : Heap} {mg : Str → Option Value} (X : K.In h) (G : h.Ns mainGlobals mg) {x : Str} {xs : List Str} {us : List Value} {f : Addr} {n : Nat} {sl : Array (Option Value)}
    (a : PySem.W.nsIn K mainGlobals x = some (some (.ref f))) (l : K.lookup f = some ⟨.type "tuple", none, .seq us.toArray n, sl⟩) (r : Vals (xs.map V.str) us) (hz : us.length ≤ sizeLine) : Cn P w K mg x (.tup (xs.map D.str)) :=
  ⟨.ref f, .ref f, PySem.W.mg_of X G a, rfl, fun rho H => by
    rw [Den]
    exact ⟨f, xs.map V.str, rfl, .inr ⟨_, us.toArray, n, l, rfl, rfl, rfl, by simpa using hz, by simpa using r⟩, by rw [r.length]; exact hz, strs_dens xs⟩⟩
theorem de_cn {X : Cx} {x : Str} {d : D} {pos : Pos} (hg : Gl X x) (c : Cn X.prog X.w X.K X.mg x d) (hd : (x == ("__debug__" : Str)) = false := by decide) : DE X (.Name x pos) (eC d) := de_glbD hg c.g c.r c.q hd

theorem sp_law {P : Program} {w : World} {K : PySem.W.Frag} {F : MF} {n : Nat} (hn : n ≤ sizeLine) (h : ∀ ns : List Int, ns.length ≤ n → ∃ h', F [.scr ns] [] = .ok (.bl true) h') (H : Hp) (a : Addr) (ns : List Int) (hl : ns.length ≤ n) (hO : Only H) (hS : SqL K H a (ns.map V.int)) :
    spD ⟨P, w, K⟩ 1 F [.ref a] H (fun v _ => v = .bl true) fun _ _ _ => False := by
  obtain ⟨h', e⟩ := h ns hl
  refine ⟨rfl, ⟨[], []⟩, [], [.scr ns], ⟨List.nodup_nil, (fun a h => absurd h (by simp)), rfl, (fun i a o e => by simp at e)⟩, ⟨.ref a, [], rfl, ?_, rfl⟩, ?_⟩
  · rw [Den]
    refine ⟨a, rfl, ?_, Nat.le_trans hl hn⟩
    rcases hS with (hS | hS) | hS
    · rcases hO a with z | ⟨o, xs, z⟩
      · rw [hS] at z; cases z
      · rw [hS] at z; cases z
    · exact .inl hS
    · exact .inr hS
  · rw [e]
    intro rho' H' v S R q
    exact q
theorem cx_law {P : Program} {w : World} {H : Hp} {s : Shared} {e : Value} {s' : Shared} (h : L2.CX P w [] H s (fun _ _ _ => False) e s') : False := by
  obtain ⟨_, _, _, _, _, _, _, _, _, _, _, _, z⟩ := h
  exact z
end MR

namespace MR
open PySem PySem.Spec PyProof.Rows L2

section
variable {X : Cx}
/-- a type's name as a value -/
theorem de_tyN {x : Str} {T : String} {pos : Pos} (hg : Gl X x) (hm : X.mg x = none) (hv : bootBuiltins x = some (.type T)) (hn : x ≠ "__name__" := by decide) (hd : (x == ("__debug__" : Str)) = false := by decide) : DE X (.Name x pos) (eC (.glb (.ty T))) :=
  de_bltn hg hm hv rfl hn hd
end

def isBO (neg : Bool) : Op2 := fun a b _ => match a, b with
  | .bl x, .bl y => some (.bl (if neg then !decide (x = y) else decide (x = y)))
  | _, _ => none
def seqA (d : D) (h : Hh) : Option (List D) := match d with
  | .tup xs => some xs
  | .scr ns => some (ns.map D.int)
  | d => seqL d h
theorem seqA_of {G : Gm} {rho : Rm} {hh : Hh} {H : Hp} {d : D} {v : V} {ds : List D} (R : Rep G rho hh H) (q : Den G rho H d v) (e : seqA d hh = some ds) :
    ∃ a vs, v = .ref a ∧ (SqL G.K H a vs ∨ SqT G.K H a vs) ∧ vs.length ≤ sizeLine ∧ Dens G rho H ds vs := by
  unfold seqA at e
  split at e
  · rename_i xs
    cases e
    rw [Den] at q
    obtain ⟨a, ws, rfl, h1, l, z⟩ := q
    exact ⟨a, ws, rfl, .inr h1.t, by rw [← z.length]; have := z.length; omega, z⟩
  · rename_i ns
    cases e
    rw [Den] at q
    obtain ⟨a, rfl, hs, l⟩ := q
    refine ⟨a, ns.map V.int, rfl, .inl ?_, by simpa using l, dens_ints ns⟩
    rcases hs with ⟨o, hs⟩ | hs
    · exact .inl (.inr ⟨o, hs⟩)
    · exact .inr hs
  · obtain ⟨a, vs, rfl, h1, l, z⟩ := seqL_of R q e
    exact ⟨a, vs, rfl, .inl (SqL.of h1), l, z⟩
/-- the items of a sequence -/
def aSeq (m : ME) : MA := fun env h => (m env h).bind fun d h1 => lift (seqA d h1) h1
section
variable {X : Cx} {e : Expr} {m : ME} {pos p : Pos} {x : Str}
theorem dl_list1 (hg : Gl X x) (hm : X.mg x = none) (hv : bootBuiltins x = some (.type "list")) (ha : DE X e m)
    (hn : x ≠ "__name__" := by decide) (hdb : (x == ("__debug__" : Str)) = false := by decide) (he : starEach [e] X.env = (false, eval e X.env) :: starEach [] X.env := by rfl) (hpl : (backTo pos (starEach [] X.env)).any (·.1) = false := by rfl) :
    DL X (.Call (.Name x p) [e] [] pos) (aSeq m) :=
  ⟨fun W tk => pe_weak (pe_callTy call_list_of hg hm hv ((da_cons ha da_nil he).run W tk) hn hdb he hpl) fun σ H Q hq => by
    obtain ⟨rho, env, hh, R, E, p⟩ := hq
    refine ⟨rho, env, hh, R, E, ?_⟩
    unfold aSeq at p
    unfold aCons aNil
    cases e1 : m env hh with
    | stuck => rw [e1] at p; exact p
    | err z h1 => rw [e1] at p; exact p
    | ok d h1 =>
      rw [e1, bind_ok] at p
      rw [bind_ok, bind_ok]
      intro rho1 H1 vs S1 R1 q1
      obtain ⟨v, rfl, qv⟩ := dens_one q1
      cases e2 : seqA d h1 with
      | none => rw [e2] at p; exact p.elim
      | some ds =>
        rw [e2] at p
        obtain ⟨a, ws, rfl, hs, l, z⟩ := seqA_of R1 qv e2
        refine ⟨a, ws, rfl, hs, fun pp hp => ?_⟩
        obtain ⟨a, b, c, d⟩ := new_list S1 R1 z hp
        exact p _ _ pp ws a b upd_same List.mem_cons_self c (S1.back hp) l d⟩
/-- {} -/
def eDict0 : ME := fun _ h => .ok (.ref h.length) (h ++ [.dK []])
theorem de_dict0 : DE X (.Dict [] [] pos) eDict0 := ⟨fun W tk => pe_weak pe_dnewK fun σ H Q ⟨rho, env, hh, R, E, p⟩ pp hp => by
  obtain ⟨S0, R0, na⟩ := new_held (o := .dK []) R hp
  refine p _ _ _ (S0.turn hp) (R0.turn (List.mem_cons_self) na ⟨_, upd_same, Nat.zero_le _, .nil⟩) ?_
  rw [Den]
  exact ⟨pp, by rw [← R.len]; show (rho.at_ ++ [pp])[_]? = _; rw [List.getElem?_append_right (Nat.le_refl _)]; simp, rfl⟩⟩
end

theorem fn_stuck {P : Program} {w : World} {K : PySem.W.Frag} {mg : Str → Option Value} {base : Heap} {k : Nat} {f : Addr} {fd : FuncData} {ps : List Str} : FnD P w K mg base k f fd ps (fun _ _ => .stuck) :=
  ⟨fun vs H Q E h => h.1, fun A outer s H args us vs Q E hr he hb hv ⟨hl, rho, hh, ds, R, q, p⟩ => p.elim⟩
end MR

namespace MR
open PySem PySem.Spec PyProof.Rows L2

section
variable {α β : Type}
@[simp] theorem ev_bind_ok (a : α) (h : Hh) (f : α → Hh → Res β) : (Res.ok a h).bind f = f a h := rfl
@[simp] theorem ev_bind_err (x : Exn) (h : Hh) (f : α → Hh → Res β) : (Res.err x h).bind f = .err x h := rfl
@[simp] theorem ev_bind_stuck (f : α → Hh → Res β) : (Res.stuck : Res α).bind f = .stuck := rfl
@[simp] theorem ev_lift_some (a : α) (h : Hh) : lift (some a) h = .ok a h := rfl
@[simp] theorem ev_lift_none (h : Hh) : lift (none : Option α) h = .stuck := rfl
@[simp] theorem ev_st_ok (a : α) (h : Hh) (env : DEnv) (f : α → Hh → RS) : (Res.ok a h).st env f = f a h := rfl
@[simp] theorem ev_st_err (x : Exn) (h : Hh) (env : DEnv) (f : α → Hh → RS) : (Res.err x h).st env f = .er x env h := rfl
@[simp] theorem ev_seq_nx (env : DEnv) (h : Hh) (f : DEnv → Hh → RS) : (RS.nx env h).seq f = f env h := rfl
@[simp] theorem ev_seq_rt (d : D) (h : Hh) (f : DEnv → Hh → RS) : (RS.rt d h).seq f = .rt d h := rfl
@[simp] theorem ev_seq_bk (env : DEnv) (h : Hh) (f : DEnv → Hh → RS) : (RS.bk env h).seq f = .bk env h := rfl
@[simp] theorem ev_seq_ct (env : DEnv) (h : Hh) (f : DEnv → Hh → RS) : (RS.ct env h).seq f = .ct env h := rfl
@[simp] theorem ev_seq_er (x : Exn) (env : DEnv) (h : Hh) (f : DEnv → Hh → RS) : (RS.er x env h).seq f = .er x env h := rfl
@[simp] theorem ev_lb_nx (env : DEnv) (h : Hh) (f : DEnv → Hh → RS) : loopBack (.nx env h) f = f env h := rfl
@[simp] theorem ev_lb_ct (env : DEnv) (h : Hh) (f : DEnv → Hh → RS) : loopBack (.ct env h) f = f env h := rfl
@[simp] theorem ev_lb_bk (env : DEnv) (h : Hh) (f : DEnv → Hh → RS) : loopBack (.bk env h) f = .nx env h := rfl
@[simp] theorem ev_lb_rt (d : D) (h : Hh) (f : DEnv → Hh → RS) : loopBack (.rt d h) f = .rt d h := rfl
@[simp] theorem ev_RSof (env : DEnv) (h : Hh) : RSof (some (env, h)) = .nx env h := rfl
@[simp] theorem ev_noErr (a : α) (h : Hh) : noErr (.ok a h) = .ok a h := rfl
end

/-- what a slot gives -/
def slotR (o : Option (Option D)) (h : Hh) : Res D := match o with
  | some (some d) => .ok d h
  | _ => .stuck
@[simp] theorem ev_slotR (d : D) (h : Hh) : slotR (some (some d)) h = .ok d h := rfl
@[simp] theorem ev_slot (i : Nat) (env : DEnv) (h : Hh) : eSlot i env h = slotR env[i]? h := rfl
@[simp] theorem ev_c (d : D) (env : DEnv) (h : Hh) : eC d env h = .ok d h := rfl
def k_op2 (f : Op2) (b : ME) (env : DEnv) : D → Hh → Res D := fun x h1 => (b env h1).bind fun y h2 => lift (f x y h2) h2
def k_op2' (f : Op2) (x : D) : D → Hh → Res D := fun y h2 => lift (f x y h2) h2
@[simp] theorem ev_op2 (f : Op2) (a b : ME) (env : DEnv) (h : Hh) : eOp2 f a b env h = (a env h).bind (k_op2 f b env) := rfl
@[simp] theorem ev_k_op2 (f : Op2) (b : ME) (env : DEnv) (x : D) (h : Hh) : k_op2 f b env x h = (b env h).bind (k_op2' f x) := rfl
@[simp] theorem ev_k_op2' (f : Op2) (x y : D) (h : Hh) : k_op2' f x y h = lift (f x y h) h := rfl
def k_opN (f : OpN) : List D → Hh → Res D := fun xs h1 => lift (f xs h1) h1
@[simp] theorem ev_opN (f : OpN) (as : MA) (env : DEnv) (h : Hh) : eOpN f as env h = (as env h).bind (k_opN f) := rfl
@[simp] theorem ev_k_opN (f : OpN) (xs : List D) (h : Hh) : k_opN f xs h = lift (f xs h) h := rfl
@[simp] theorem ev_nil (env : DEnv) (h : Hh) : aNil env h = .ok [] h := rfl
def k_cons (as : MA) (env : DEnv) : D → Hh → Res (List D) := fun x h1 => (as env h1).bind fun xs h2 => .ok (x :: xs) h2
def k_cons' (x : D) : List D → Hh → Res (List D) := fun xs h2 => .ok (x :: xs) h2
@[simp] theorem ev_cons (a : ME) (as : MA) (env : DEnv) (h : Hh) : aCons a as env h = (a env h).bind (k_cons as env) := rfl
@[simp] theorem ev_k_cons (as : MA) (env : DEnv) (x : D) (h : Hh) : k_cons as env x h = (as env h).bind (k_cons' x) := rfl
@[simp] theorem ev_k_cons' (x : D) (xs : List D) (h : Hh) : k_cons' x xs h = .ok (x :: xs) h := rfl
def k_tup : List D → Hh → Res D := fun xs h1 => .ok (.tup xs) h1
@[simp] theorem ev_tup (ms : MA) (env : DEnv) (h : Hh) : eTup ms env h = (ms env h).bind k_tup := rfl
@[simp] theorem ev_k_tup (xs : List D) (h : Hh) : k_tup xs h = .ok (.tup xs) h := rfl
def k_frz : List D → Hh → Res D := fun xs h1 => .ok (.lst xs) h1
@[simp] theorem ev_frz (ms : MA) (env : DEnv) (h : Hh) : eFrz ms env h = (ms env h).bind k_frz := rfl
@[simp] theorem ev_k_frz (xs : List D) (h : Hh) : k_frz xs h = .ok (.lst xs) h := rfl
def k_new : List D → Hh → Res D := fun xs h1 => .ok (.ref h1.length) (h1 ++ [.lst xs])
@[simp] theorem ev_new (ms : MA) (env : DEnv) (h : Hh) : eNew ms env h = (ms env h).bind k_new := rfl
@[simp] theorem ev_k_new (xs : List D) (h : Hh) : k_new xs h = .ok (.ref h.length) (h ++ [.lst xs]) := rfl
def k_seqM : D → Hh → Res (List D) := fun d h1 => lift (seqA d h1) h1
@[simp] theorem ev_seqM (m : ME) (env : DEnv) (h : Hh) : aSeq m env h = (m env h).bind k_seqM := rfl
@[simp] theorem ev_k_seqM (d : D) (h : Hh) : k_seqM d h = lift (seqA d h) h := rfl
@[simp] theorem ev_seqAT (xs : List D) (h : Hh) : seqA (.tup xs) h = some xs := rfl
@[simp] theorem ev_seqAL (xs : List D) (h : Hh) : seqA (.lst xs) h = some xs := rfl
@[simp] theorem ev_dict0 (env : DEnv) (h : Hh) : eDict0 env h = .ok (.ref h.length) (h ++ [.dK []]) := rfl
def k_tE : D → Hh → Res Bool := fun d h1 => lift (asB d) h1
@[simp] theorem ev_tE (m : ME) (env : DEnv) (h : Hh) : tE m env h = (m env h).bind k_tE := rfl
@[simp] theorem ev_k_tE (d : D) (h : Hh) : k_tE d h = lift (asB d) h := rfl
@[simp] theorem ev_asB (b : Bool) : asB (.bl b) = some b := rfl
def k_tAnd (b : MT) (env : DEnv) : Bool → Hh → Res Bool := fun k h1 => if k = true then b env h1 else .ok false h1
@[simp] theorem ev_tAnd (a b : MT) (env : DEnv) (h : Hh) : tAnd a b env h = (a env h).bind (k_tAnd b env) := rfl
@[simp] theorem ev_k_tAnd1 (b : MT) (env : DEnv) (h : Hh) : k_tAnd b env true h = b env h := rfl
@[simp] theorem ev_k_tAnd0 (b : MT) (env : DEnv) (h : Hh) : k_tAnd b env false h = .ok false h := rfl
def k_tOr (b : MT) (env : DEnv) : Bool → Hh → Res Bool := fun k h1 => if k = true then .ok true h1 else b env h1
@[simp] theorem ev_tOr (a b : MT) (env : DEnv) (h : Hh) : tOr a b env h = (a env h).bind (k_tOr b env) := rfl
@[simp] theorem ev_k_tOr1 (b : MT) (env : DEnv) (h : Hh) : k_tOr b env true h = .ok true h := rfl
@[simp] theorem ev_k_tOr0 (b : MT) (env : DEnv) (h : Hh) : k_tOr b env false h = b env h := rfl
def k_tNot : Bool → Hh → Res Bool := fun k h1 => .ok (!k) h1
@[simp] theorem ev_tNot (a : MT) (env : DEnv) (h : Hh) : tNot a env h = (a env h).bind k_tNot := rfl
@[simp] theorem ev_k_tNot (k : Bool) (h : Hh) : k_tNot k h = .ok (!k) h := rfl
def k_eAnd (b : ME) (env : DEnv) : D → Hh → Res D := fun d h1 => (lift (asB d) h1).bind fun k h2 => if k = true then b env h2 else .ok (.bl false) h2
@[simp] theorem ev_eAnd (a b : ME) (env : DEnv) (h : Hh) : eAnd a b env h = (a env h).bind (k_eAnd b env) := rfl
@[simp] theorem ev_k_eAnd1 (b : ME) (env : DEnv) (h : Hh) : k_eAnd b env (.bl true) h = b env h := rfl
@[simp] theorem ev_k_eAnd0 (b : ME) (env : DEnv) (h : Hh) : k_eAnd b env (.bl false) h = .ok (.bl false) h := rfl
def k_eOr (b : ME) (env : DEnv) : D → Hh → Res D := fun d h1 => (lift (asB d) h1).bind fun k h2 => if k = true then .ok (.bl true) h2 else b env h2
@[simp] theorem ev_eOr (a b : ME) (env : DEnv) (h : Hh) : eOr a b env h = (a env h).bind (k_eOr b env) := rfl
@[simp] theorem ev_k_eOr1 (b : ME) (env : DEnv) (h : Hh) : k_eOr b env (.bl true) h = .ok (.bl true) h := rfl
@[simp] theorem ev_k_eOr0 (b : ME) (env : DEnv) (h : Hh) : k_eOr b env (.bl false) h = b env h := rfl
def k_eNot : D → Hh → Res D := fun d h1 => (lift (asB d) h1).bind fun k h2 => .ok (.bl (!k)) h2
@[simp] theorem ev_eNot (a : ME) (env : DEnv) (h : Hh) : eNot a env h = (a env h).bind k_eNot := rfl
@[simp] theorem ev_k_eNot (k : Bool) (h : Hh) : k_eNot (.bl k) h = .ok (.bl (!k)) h := rfl
def k_eIf (a b : ME) (env : DEnv) : Bool → Hh → Res D := fun k h1 => if k = true then a env h1 else b env h1
@[simp] theorem ev_eIf (t : MT) (a b : ME) (env : DEnv) (h : Hh) : eIf t a b env h = (t env h).bind (k_eIf a b env) := rfl
@[simp] theorem ev_k_eIf1 (a b : ME) (env : DEnv) (h : Hh) : k_eIf a b env true h = a env h := rfl
@[simp] theorem ev_k_eIf0 (a b : ME) (env : DEnv) (h : Hh) : k_eIf a b env false h = b env h := rfl
def k_neg : D → Hh → Res D := fun d h1 => lift (match d with | .int i => some (.int (-i)) | _ => none) h1
@[simp] theorem ev_neg (m : ME) (env : DEnv) (h : Hh) : eNeg m env h = (m env h).bind k_neg := rfl
@[simp] theorem ev_k_neg (i : Int) (h : Hh) : k_neg (.int i) h = .ok (.int (-i)) h := rfl
def k_ch1 (f g : Op2) (b c : ME) (env : DEnv) : D → Hh → Res D := fun x h1 => (b env h1).bind fun y h2 => (lift (f x y h2) h2).bind fun z h3 => (lift (asB z) h3).bind fun k h4 => if k = true then (c env h4).bind fun u h5 => lift (g y u h5) h5 else .ok (.bl false) h4
def k_ch2 (f g : Op2) (c : ME) (env : DEnv) (x : D) : D → Hh → Res D := fun y h2 => (lift (f x y h2) h2).bind fun z h3 => (lift (asB z) h3).bind fun k h4 => if k = true then (c env h4).bind fun u h5 => lift (g y u h5) h5 else .ok (.bl false) h4
def k_ch3 (g : Op2) (c : ME) (env : DEnv) (y : D) : D → Hh → Res D := fun z h3 => (lift (asB z) h3).bind fun k h4 => if k = true then (c env h4).bind fun u h5 => lift (g y u h5) h5 else .ok (.bl false) h4
@[simp] theorem ev_chain (f g : Op2) (a b c : ME) (env : DEnv) (h : Hh) : eChain f g a b c env h = (a env h).bind (k_ch1 f g b c env) := rfl
@[simp] theorem ev_k_ch1 (f g : Op2) (b c : ME) (env : DEnv) (x : D) (h : Hh) : k_ch1 f g b c env x h = (b env h).bind (k_ch2 f g c env x) := rfl
@[simp] theorem ev_k_ch2 (f g : Op2) (c : ME) (env : DEnv) (x y : D) (h : Hh) : k_ch2 f g c env x y h = (lift (f x y h) h).bind (k_ch3 g c env y) := rfl
@[simp] theorem ev_k_ch31 (g : Op2) (c : ME) (env : DEnv) (y : D) (h : Hh) : k_ch3 g c env y (.bl true) h = (c env h).bind (k_op2' g y) := rfl
@[simp] theorem ev_k_ch30 (g : Op2) (c : ME) (env : DEnv) (y : D) (h : Hh) : k_ch3 g c env y (.bl false) h = .ok (.bl false) h := rfl
def k_sl1 (lo hi : MO) (env : DEnv) : D → Hh → Res D := fun d h1 => (lo env h1).bind fun l h2 => (hi env h2).bind fun u h3 => lift (sliceO d l u h3) h3
def k_sl2 (hi : MO) (env : DEnv) (d : D) : Option Int → Hh → Res D := fun l h2 => (hi env h2).bind fun u h3 => lift (sliceO d l u h3) h3
def k_sl3 (d : D) (l : Option Int) : Option Int → Hh → Res D := fun u h3 => lift (sliceO d l u h3) h3
@[simp] theorem ev_slice (m : ME) (lo hi : MO) (env : DEnv) (h : Hh) : eSlice m lo hi env h = (m env h).bind (k_sl1 lo hi env) := rfl
@[simp] theorem ev_k_sl1 (lo hi : MO) (env : DEnv) (d : D) (h : Hh) : k_sl1 lo hi env d h = (lo env h).bind (k_sl2 hi env d) := rfl
@[simp] theorem ev_k_sl2 (hi : MO) (env : DEnv) (d : D) (l : Option Int) (h : Hh) : k_sl2 hi env d l h = (hi env h).bind (k_sl3 d l) := rfl
@[simp] theorem ev_k_sl3 (d : D) (l u : Option Int) (h : Hh) : k_sl3 d l u h = lift (sliceO d l u h) h := rfl
@[simp] theorem ev_oNone (env : DEnv) (h : Hh) : oNone env h = .ok none h := rfl
def k_some : D → Hh → Res (Option Int) := fun d h1 => lift ((asI d).map some) h1
@[simp] theorem ev_oSome (m : ME) (env : DEnv) (h : Hh) : oSome m env h = (m env h).bind k_some := rfl
@[simp] theorem ev_k_some (i : Int) (h : Hh) : k_some (.int i) h = .ok (some i) h := rfl
@[simp] theorem ev_asI (i : Int) : asI (.int i) = some i := rfl
def k_call (F : MF) : List D → Hh → Res D := fun ds h1 => F ds h1
@[simp] theorem ev_call (F : MF) (ms : MA) (env : DEnv) (h : Hh) : eCall F ms env h = (ms env h).bind (k_call F) := rfl
@[simp] theorem ev_k_call (F : MF) (ds : List D) (h : Hh) : k_call F ds h = F ds h := rfl
def k_m1 (ok : D → Hh → Bool) (f : OpM) (ms : MA) (env : DEnv) : D → Hh → Res D := fun d h1 => if ok d h1 = true then (ms env h1).bind fun ds h2 => liftM (f d ds h2) else .stuck
def k_m2 (f : OpM) (ms : MA) (env : DEnv) (d : D) (h1 : Hh) (k : Bool) : Res D := if k = true then (ms env h1).bind fun ds h2 => liftM (f d ds h2) else .stuck
def k_m3 (f : OpM) (d : D) : List D → Hh → Res D := fun ds h2 => liftM (f d ds h2)
@[simp] theorem ev_meth (ok : D → Hh → Bool) (f : OpM) (m : ME) (ms : MA) (env : DEnv) (h : Hh) : eMeth ok f m ms env h = (m env h).bind (k_m1 ok f ms env) := rfl
@[simp] theorem ev_k_m1 (ok : D → Hh → Bool) (f : OpM) (ms : MA) (env : DEnv) (d : D) (h : Hh) : k_m1 ok f ms env d h = k_m2 f ms env d h (ok d h) := rfl
@[simp] theorem ev_k_m2 (f : OpM) (ms : MA) (env : DEnv) (d : D) (h : Hh) : k_m2 f ms env d h true = (ms env h).bind (k_m3 f d) := rfl
@[simp] theorem ev_k_m3 (f : OpM) (d : D) (ds : List D) (h : Hh) : k_m3 f d ds h = liftM (f d ds h) := rfl
@[simp] theorem ev_liftM {α : Type} (a : α) (h : Hh) : liftM (some (a, h)) = .ok a h := rfl
def k_disp : List (D × D) → Hh → Res D := fun ps h1 => match keyDs ps with
  | some kvs => if kvs.length ≤ 15 then .ok (.ref h1.length) (h1 ++ [.dK (mergeG [] kvs)]) else .stuck
  | none => .stuck
def k_disp' (h1 : Hh) : Option (List (Key × D)) → Res D := fun o => match o with
  | some kvs => if kvs.length ≤ 15 then .ok (.ref h1.length) (h1 ++ [.dK (mergeG [] kvs)]) else .stuck
  | none => .stuck
@[simp] theorem ev_disp (prs : List (ME × ME)) (env : DEnv) (h : Hh) : eDisp prs env h = (aPairs prs env h).bind k_disp := rfl
@[simp] theorem ev_k_disp (ps : List (D × D)) (h : Hh) : k_disp ps h = k_disp' h (keyDs ps) := rfl
@[simp] theorem ev_k_disp' (h : Hh) (kvs : List (Key × D)) : k_disp' h (some kvs) = if kvs.length ≤ 15 then .ok (.ref h.length) (h ++ [.dK (mergeG [] kvs)]) else .stuck := rfl
@[simp] theorem ev_keyDs0 : keyDs [] = some [] := rfl
@[simp] theorem ev_keyDsI (i : Int) (b : D) (r : List (D × D)) : keyDs ((.int i, b) :: r) = (keyDs r).map ((.inl i, b) :: ·) := by
  show (match keyD (.int i), keyDs r with | some k, some ks => some ((k, b) :: ks) | _, _ => none) = _
  cases keyDs r <;> rfl
@[simp] theorem ev_keyDsS (i : Str) (b : D) (r : List (D × D)) : keyDs ((.str i, b) :: r) = (keyDs r).map ((.inr i, b) :: ·) := by
  show (match keyD (.str i), keyDs r with | some k, some ks => some ((k, b) :: ks) | _, _ => none) = _
  cases keyDs r <;> rfl
@[simp] theorem ev_prs_nil (env : DEnv) (h : Hh) : aPairs [] env h = .ok [] h := rfl
def k_p1 (v : ME) (r : List (ME × ME)) (env : DEnv) : D → Hh → Res (List (D × D)) := fun x h1 => (v env h1).bind fun y h2 => (aPairs r env h2).bind fun ps h3 => .ok ((x, y) :: ps) h3
def k_p2 (r : List (ME × ME)) (env : DEnv) (x : D) : D → Hh → Res (List (D × D)) := fun y h2 => (aPairs r env h2).bind fun ps h3 => .ok ((x, y) :: ps) h3
def k_p3 (x y : D) : List (D × D) → Hh → Res (List (D × D)) := fun ps h3 => .ok ((x, y) :: ps) h3
@[simp] theorem ev_prs_cons (k v : ME) (r : List (ME × ME)) (env : DEnv) (h : Hh) : aPairs ((k, v) :: r) env h = (k env h).bind (k_p1 v r env) := rfl
@[simp] theorem ev_k_p1 (v : ME) (r : List (ME × ME)) (env : DEnv) (x : D) (h : Hh) : k_p1 v r env x h = (v env h).bind (k_p2 r env x) := rfl
@[simp] theorem ev_k_p2 (r : List (ME × ME)) (env : DEnv) (x y : D) (h : Hh) : k_p2 r env x y h = (aPairs r env h).bind (k_p3 x y) := rfl
@[simp] theorem ev_k_p3 (x y : D) (ps : List (D × D)) (h : Hh) : k_p3 x y ps h = .ok ((x, y) :: ps) h := rfl
@[simp] theorem ev_sSeq (a b : MS) (env : DEnv) (h : Hh) : sSeq a b env h = (a env h).seq b := rfl
@[simp] theorem ev_sNext (env : DEnv) (h : Hh) : sNext env h = .nx env h := rfl
def k_drop (env : DEnv) : D → Hh → RS := fun _ h1 => .nx env h1
@[simp] theorem ev_sDrop (m : ME) (env : DEnv) (h : Hh) : sDrop m env h = (m env h).st env (k_drop env) := rfl
@[simp] theorem ev_k_drop (env : DEnv) (d : D) (h : Hh) : k_drop env d h = .nx env h := rfl
def k_ret : D → Hh → RS := fun d h1 => .rt d h1
@[simp] theorem ev_sRet (m : ME) (env : DEnv) (h : Hh) : sRet m env h = (m env h).st env k_ret := rfl
@[simp] theorem ev_k_ret (d : D) (h : Hh) : k_ret d h = .rt d h := rfl
@[simp] theorem ev_sRetN (env : DEnv) (h : Hh) : sRetN env h = .rt .non h := rfl
def k_if (a b : MS) (env : DEnv) : Bool → Hh → RS := fun k h1 => if k = true then a env h1 else b env h1
@[simp] theorem ev_sIf (t : MT) (a b : MS) (env : DEnv) (h : Hh) : sIf t a b env h = (t env h).st env (k_if a b env) := rfl
@[simp] theorem ev_k_if1 (a b : MS) (env : DEnv) (h : Hh) : k_if a b env true h = a env h := rfl
@[simp] theorem ev_k_if0 (a b : MS) (env : DEnv) (h : Hh) : k_if a b env false h = b env h := rfl
@[simp] theorem ev_sBreak (env : DEnv) (h : Hh) : sBreak env h = .bk env h := rfl
@[simp] theorem ev_sCont (env : DEnv) (h : Hh) : sCont env h = .ct env h := rfl
def k_asg (g : MG) (env : DEnv) : D → Hh → RS := fun d h1 => RSof (g d env h1)
@[simp] theorem ev_sAsg (m : ME) (g : MG) (env : DEnv) (h : Hh) : sAsg m g env h = (m env h).st env (k_asg g env) := rfl
@[simp] theorem ev_k_asg (g : MG) (env : DEnv) (d : D) (h : Hh) : k_asg g env d h = RSof (g d env h) := rfl
@[simp] theorem ev_gName (i : Nat) (d : D) (env : DEnv) (h : Hh) : gName i d env h = some (env.set i (some d), h) := rfl
@[simp] theorem ev_gNil (env : DEnv) (h : Hh) : gNil [] env h = some (env, h) := rfl
@[simp] theorem ev_gCons (i : Nat) (gs : MGs) (d : D) (r : List D) (env : DEnv) (h : Hh) : gCons (gName i) gs (d :: r) env h = gs r (env.set i (some d)) h := rfl
@[simp] theorem ev_gTup (n : Nat) (gs : MGs) (ds : List D) (env : DEnv) (h : Hh) : gTup n gs (.tup ds) env h = if ds.length = n then gs ds env h else none := rfl
def k_par (i j : Nat) (env : DEnv) : List D → Hh → RS := fun ds h1 => match ds with
  | [d1, d2] => .nx ((env.set i (some d1)).set j (some d2)) h1
  | _ => .stuck
@[simp] theorem ev_sPar (i j : Nat) (ms : MA) (env : DEnv) (h : Hh) : sPar i j ms env h = (ms env h).st env (k_par i j env) := rfl
@[simp] theorem ev_k_par (i j : Nat) (env : DEnv) (d1 d2 : D) (h : Hh) : k_par i j env [d1, d2] h = .nx ((env.set i (some d1)).set j (some d2)) h := rfl
def k_iA (f : List D → Hh → Option Src) : List D → Hh → Res Src := fun ds h1 => lift (f ds h1) h1
@[simp] theorem ev_iA (f : List D → Hh → Option Src) (ms : MA) (env : DEnv) (h : Hh) : iA f ms env h = (ms env h).bind (k_iA f) := rfl
@[simp] theorem ev_k_iA (f : List D → Hh → Option Src) (ds : List D) (h : Hh) : k_iA f ds h = lift (f ds h) h := rfl
def k_iOf : D → Hh → Res Src := fun d h1 => lift (srcOf d h1) h1
@[simp] theorem ev_iOf (m : ME) (env : DEnv) (h : Hh) : iOf m env h = (m env h).bind k_iOf := rfl
@[simp] theorem ev_k_iOf (d : D) (h : Hh) : k_iOf d h = lift (srcOf d h) h := rfl
noncomputable def k_for (T : Tg) (b : MS) (env : DEnv) : Src → Hh → RS := fun src h1 => forL src.live (bodyT T b) src.items env h1
@[simp] theorem ev_sFor (mi : MI) (T : Tg) (b : MS) (env : DEnv) (h : Hh) : sFor mi T b env h = (mi env h).st env (k_for T b env) := rfl
@[simp] theorem ev_k_for (T : Tg) (b : MS) (env : DEnv) (src : Src) (h : Hh) : k_for T b env src h = forL src.live (bodyT T b) src.items env h := rfl
@[simp] theorem ev_gOk (h : Hh) : gOk none h ↔ True := ⟨fun _ => trivial, fun _ _ _ e => by cases e⟩
@[simp] theorem ev_for_nil (body : D → DEnv → Hh → RS) (env : DEnv) (h : Hh) : forL none body [] env h = .nx env h := by unfold forL; simp
@[simp] theorem ev_for_cons (body : D → DEnv → Hh → RS) (d : D) (ds : List D) (env : DEnv) (h : Hh) : forL none body (d :: ds) env h = loopBack (body d env h) (forL none body ds) := by
  conv => lhs; unfold forL
  rw [if_pos ((ev_gOk h).mpr trivial)]
def k_bd (b : MS) (h : Hh) : Option DEnv → RS := fun o => match o with | some env' => b env' h | none => .stuck
@[simp] theorem ev_bodyT (T : Tg) (b : MS) (d : D) (env : DEnv) (h : Hh) : bodyT T b d env h = k_bd b h (bindT T d env) := rfl
@[simp] theorem ev_k_bd (b : MS) (h : Hh) (env : DEnv) : k_bd b h (some env) = b env h := rfl
@[simp] theorem ev_bindN (i : Nat) (d : D) (env : DEnv) : bindT (.name i) d env = some (env.set i (some d)) := rfl
@[simp] theorem ev_bindT (is : List Nat) (ds : List D) (env : DEnv) : bindT (.tup is) (.tup ds) env = if ds.length = is.length then some (setAll is ds env) else none := rfl
@[simp] theorem ev_bindW (is : List Nat) (ds : List D) (env : DEnv) : bindT (.tup is) (.wtp ds) env = if ds.length = is.length then some (setAll is ds env) else none := rfl
@[simp] theorem ev_setAll0 (env : DEnv) : setAll [] [] env = env := rfl
@[simp] theorem ev_setAll (i : Nat) (is : List Nat) (d : D) (ds : List D) (env : DEnv) : setAll (i :: is) (d :: ds) env = setAll is ds (env.set i (some d)) := rfl
noncomputable def k_comp (T : Tg) (t : MT) (e : ME) (env : DEnv) : Src → Hh → Res (List D) := fun src h1 => noErr (compL src.live T t e env src.items h1)
@[simp] theorem ev_aComp (mi : MI) (T : Tg) (t : MT) (e : ME) (vs : List Nat) (env : DEnv) (h : Hh) : aComp mi T t e vs env h = (mi env h).bind (k_comp T t e (wipeE env vs)) := rfl
@[simp] theorem ev_k_comp (T : Tg) (t : MT) (e : ME) (env : DEnv) (src : Src) (h : Hh) : k_comp T t e env src h = noErr (compL src.live T t e env src.items h) := rfl
@[simp] theorem ev_wipe0 (env : DEnv) : wipeE env [] = env := rfl
@[simp] theorem ev_wipe (env : DEnv) (v : Nat) (vs : List Nat) : wipeE env (v :: vs) = (wipeE env vs).set v none := rfl
@[simp] theorem ev_comp_nil (T : Tg) (t : MT) (e : ME) (env : DEnv) (h : Hh) : compL none T t e env [] h = .ok [] h := by unfold compL; simp
noncomputable def k_c0 (T : Tg) (t : MT) (e : ME) (env : DEnv) (ds : List D) (h : Hh) : Option DEnv → Res (List D) := fun o => match o with
  | some env' => (t env' h).bind fun k h1 => if k = true then (e env' h1).bind fun y h2 => (compL none T t e env ds h2).bind fun ys h3 => .ok (y :: ys) h3 else compL none T t e env ds h1
  | none => .stuck
noncomputable def k_c1 (T : Tg) (t : MT) (e : ME) (env env' : DEnv) (ds : List D) : Bool → Hh → Res (List D) := fun k h1 => if k = true then (e env' h1).bind fun y h2 => (compL none T t e env ds h2).bind fun ys h3 => .ok (y :: ys) h3 else compL none T t e env ds h1
noncomputable def k_c2 (T : Tg) (t : MT) (e : ME) (env : DEnv) (ds : List D) : D → Hh → Res (List D) := fun y h2 => (compL none T t e env ds h2).bind fun ys h3 => .ok (y :: ys) h3
@[simp] theorem ev_comp_cons (T : Tg) (t : MT) (e : ME) (env : DEnv) (d : D) (ds : List D) (h : Hh) : compL none T t e env (d :: ds) h = k_c0 T t e env ds h (bindT T d env) := by
  conv => lhs; unfold compL
  simp
  rfl
@[simp] theorem ev_k_c0 (T : Tg) (t : MT) (e : ME) (env env' : DEnv) (ds : List D) (h : Hh) : k_c0 T t e env ds h (some env') = (t env' h).bind (k_c1 T t e env env' ds) := rfl
@[simp] theorem ev_k_c11 (T : Tg) (t : MT) (e : ME) (env env' : DEnv) (ds : List D) (h : Hh) : k_c1 T t e env env' ds true h = (e env' h).bind (k_c2 T t e env ds) := rfl
@[simp] theorem ev_k_c10 (T : Tg) (t : MT) (e : ME) (env env' : DEnv) (ds : List D) (h : Hh) : k_c1 T t e env env' ds false h = compL none T t e env ds h := rfl
@[simp] theorem ev_k_c2 (T : Tg) (t : MT) (e : ME) (env : DEnv) (ds : List D) (y : D) (h : Hh) : k_c2 T t e env ds y h = (compL none T t e env ds h).bind (k_cons' y) := rfl
/-- what a body's end gives -/
def outR : RS → Res D
  | .nx _ h' => .ok .non h'
  | .rt d h' => .ok d h'
  | .er x _ h' => .err x h'
  | _ => .stuck
@[simp] theorem ev_out_nx (env : DEnv) (h : Hh) : outR (.nx env h) = .ok .non h := rfl
@[simp] theorem ev_out_rt (d : D) (h : Hh) : outR (.rt d h) = .ok d h := rfl
theorem run_eq {n : Nat} {N : List Str} {b : MS} {ds : List D} {h : Hh} (hn : ds.length = n) : runF n N b ds h = outR (b (startD N ds) h) := by
  unfold runF
  rw [if_pos hn]
  cases b (startD N ds) h <;> rfl

@[simp] theorem ev_start (N : List Str) (ds : List D) : startD N ds = ds.map some ++ List.replicate (N.length - ds.length) none := rfl
@[simp] theorem ev_run0 (N : List Str) (b : MS) (h : Hh) : runF 0 N b [] h = outR (b (startD N []) h) := run_eq rfl
@[simp] theorem ev_run1 (N : List Str) (b : MS) (x0 : D) (h : Hh) : runF 1 N b [x0] h = outR (b (startD N [x0]) h) := run_eq rfl
@[simp] theorem ev_run2 (N : List Str) (b : MS) (x0 x1 : D) (h : Hh) : runF 2 N b [x0, x1] h = outR (b (startD N [x0, x1]) h) := run_eq rfl
@[simp] theorem ev_run3 (N : List Str) (b : MS) (x0 x1 x2 : D) (h : Hh) : runF 3 N b [x0, x1, x2] h = outR (b (startD N [x0, x1, x2]) h) := run_eq rfl
@[simp] theorem ev_run4 (N : List Str) (b : MS) (x0 x1 x2 x3 : D) (h : Hh) : runF 4 N b [x0, x1, x2, x3] h = outR (b (startD N [x0, x1, x2, x3]) h) := run_eq rfl
@[simp] theorem ev_run5 (N : List Str) (b : MS) (x0 x1 x2 x3 x4 : D) (h : Hh) : runF 5 N b [x0, x1, x2, x3, x4] h = outR (b (startD N [x0, x1, x2, x3, x4]) h) := run_eq rfl
@[simp] theorem ev_run6 (N : List Str) (b : MS) (x0 x1 x2 x3 x4 x5 : D) (h : Hh) : runF 6 N b [x0, x1, x2, x3, x4, x5] h = outR (b (startD N [x0, x1, x2, x3, x4, x5]) h) := run_eq rfl
@[simp] theorem ev_run7 (N : List Str) (b : MS) (x0 x1 x2 x3 x4 x5 x6 : D) (h : Hh) : runF 7 N b [x0, x1, x2, x3, x4, x5, x6] h = outR (b (startD N [x0, x1, x2, x3, x4, x5, x6]) h) := run_eq rfl
theorem deq {α : Type} [BEq α] [LawfulBEq α] [DecidableEq α] {x y : α} : (x == y) = decide (x = y) := by
  by_cases h : x = y
  · subst h; simp
  · rw [decide_eq_false h]; exact beq_eq_false_iff_ne.mpr h
@[simp] theorem ev_add (i j : Int) (h : Hh) : addO (.int i) (.int j) h = some (.int (i + j)) := rfl
@[simp] theorem ev_addT (xs ys : List D) (h : Hh) : addO (.tup xs) (.tup ys) h = if xs.length + ys.length ≤ sizeLine then some (.tup (xs ++ ys)) else none := rfl
@[simp] theorem ev_addL (xs ys : List D) (h : Hh) : addO (.lst xs) (.lst ys) h = if xs.length + ys.length ≤ sizeLine then some (.lst (xs ++ ys)) else none := rfl
@[simp] theorem ev_sub (i j : Int) (h : Hh) : subO (.int i) (.int j) h = some (.int (i - j)) := rfl
@[simp] theorem ev_lt (i j : Int) (h : Hh) : ltO (.int i) (.int j) h = some (.bl (decide (i < j))) := rfl
@[simp] theorem ev_le (i j : Int) (h : Hh) : leO (.int i) (.int j) h = some (.bl (decide (i ≤ j))) := rfl
@[simp] theorem ev_gt (i j : Int) (h : Hh) : gtO (.int i) (.int j) h = some (.bl (decide (j < i))) := rfl
@[simp] theorem ev_ge (i j : Int) (h : Hh) : geO (.int i) (.int j) h = some (.bl (decide (j ≤ i))) := rfl
@[simp] theorem ev_mod (i j : Int) (h : Hh) : modO (.int i) (.int j) h = if 0 < j then some (.int (i % j)) else none := rfl
@[simp] theorem ev_fdiv (i j : Int) (h : Hh) : fdivO (.int i) (.int j) h = if 0 < j ∧ j < 1073741824 then some (.int (i / j)) else none := rfl
@[simp] theorem ev_pow (i j : Int) (h : Hh) : powO (.int i) (.int j) h = if 0 ≤ j ∧ j ≤ 1000000 ∧ i.natAbs < 18446744073709551616 then some (.int (i ^ j.toNat)) else none := rfl
@[simp] theorem ev_eqI (i j : Int) (h : Hh) : eqO (.int i) (.int j) h = some (.bl (decide (i = j))) := by
  rw [← deq]
  rfl
@[simp] theorem ev_neI (i j : Int) (h : Hh) : neO (.int i) (.int j) h = some (.bl (!(decide (i = j)))) := by
  rw [← deq]
  rfl
theorem shaped_str {x : Str} (h : PyData.strOk x = true) : SeqAt.shaped (.str x) = true := by simp [SeqAt.shaped, PyData.canLay0, PyData.depth, h]
theorem ev_eqS (x y : Str) (h : Hh) (hx : PyData.strOk x = true) (hy : PyData.strOk y = true) : eqO (.str x) (.str y) h = some (.bl (decide (x = y))) := by
  rw [← deq]
  have e1 : pyOf (.str x) h = some (.str x) := if_pos (shaped_str hx)
  have e2 : pyOf (.str y) h = some (.str y) := if_pos (shaped_str hy)
  unfold eqO
  rw [e1, e2]
  rfl
@[simp] theorem ev_eqB (x y : Bool) (h : Hh) : eqO (.bl x) (.bl y) h = some (.bl (decide (x = y))) := by cases x <;> cases y <;> rfl
@[simp] theorem ev_neB (x y : Bool) (h : Hh) : neO (.bl x) (.bl y) h = some (.bl (!decide (x = y))) := by cases x <;> cases y <;> rfl
@[simp] theorem ev_max (i j : Int) (h : Hh) : max2O [.int i, .int j] h = some (.int (if j > i then j else i)) := rfl
@[simp] theorem ev_min (i j : Int) (h : Hh) : min2O [.int i, .int j] h = some (.int (if j < i then j else i)) := rfl
@[simp] theorem ev_int1 (i : Int) (h : Hh) : int1O [.int i] h = some (.int i) := rfl
@[simp] theorem ev_int1b (b : Bool) (h : Hh) : int1O [.bl b] h = some (.int (if b then 1 else 0)) := rfl
@[simp] theorem ev_lenT (xs : List D) (h : Hh) : lenO [.tup xs] h = some (.int xs.length) := rfl
@[simp] theorem ev_lenL (xs : List D) (h : Hh) : lenO [.lst xs] h = some (.int xs.length) := rfl
@[simp] theorem ev_lenScr (ns : List Int) (h : Hh) : lenO [.scr ns] h = some (.int ns.length) := rfl
@[simp] theorem ev_isi (d : D) (T : String) (h : Hh) : isiO [d, .glb (.ty T)] h = (tyName d h).bind fun t => (kitB t T).map D.bl := rfl
@[simp] theorem ev_tyNon (h : Hh) : tyName .non h = some "NoneType" := rfl
@[simp] theorem ev_tyB (b : Bool) (h : Hh) : tyName (.bl b) h = some "bool" := rfl
@[simp] theorem ev_tyI (i : Int) (h : Hh) : tyName (.int i) h = some "int" := rfl
@[simp] theorem ev_tyS (x : Str) (h : Hh) : tyName (.str x) h = some "str" := rfl
@[simp] theorem ev_tyT (xs : List D) (h : Hh) : tyName (.tup xs) h = some "tuple" := rfl
@[simp] theorem ev_tyL (xs : List D) (h : Hh) : tyName (.lst xs) h = some "list" := rfl
@[simp] theorem ev_tyScr (ns : List Int) (h : Hh) : tyName (.scr ns) h = some "list" := rfl
@[simp] theorem ev_isN (h : Hh) (neg : Bool) : isNO neg .non .non h = some (.bl (!neg)) := rfl
@[simp] theorem ev_isNI (h : Hh) (neg : Bool) (i : Int) : isNO neg (.int i) .non h = some (.bl neg) := rfl
@[simp] theorem ev_isNB (h : Hh) (neg : Bool) (i : Bool) : isNO neg (.bl i) .non h = some (.bl neg) := rfl
@[simp] theorem ev_isNS (h : Hh) (neg : Bool) (i : Str) : isNO neg (.str i) .non h = some (.bl neg) := rfl
@[simp] theorem ev_isNT (h : Hh) (neg : Bool) (i : List D) : isNO neg (.tup i) .non h = some (.bl neg) := rfl
@[simp] theorem ev_isNL (h : Hh) (neg : Bool) (i : List D) : isNO neg (.lst i) .non h = some (.bl neg) := rfl
@[simp] theorem ev_isNR (h : Hh) (neg : Bool) (i : Nat) : isNO neg (.ref i) .non h = some (.bl neg) := rfl
@[simp] theorem ev_isB (h : Hh) (a b neg : Bool) : isBO neg (.bl a) (.bl b) h = some (.bl (if neg then !decide (a = b) else decide (a = b))) := rfl
@[simp] theorem ev_ixT (ds : List D) (i : Int) (h : Hh) : ixA (.tup ds) (.int i) h = atI ds i := by
  unfold ixA
  have e : ixO (.tup ds) (.int i) h = atI ds i := rfl
  rw [e]
  cases atI ds i <;> rfl
@[simp] theorem ev_ixL (ds : List D) (i : Int) (h : Hh) : ixA (.lst ds) (.int i) h = atI ds i := by
  unfold ixA
  have e : ixO (.lst ds) (.int i) h = atI ds i := rfl
  rw [e]
  cases atI ds i <;> rfl
@[simp] theorem ev_ixScr (ns : List Int) (i : Int) (h : Hh) : ixA (.scr ns) (.int i) h = atI (ns.map D.int) i := by
  unfold ixA
  have e : ixO (.scr ns) (.int i) h = atI (ns.map D.int) i := rfl
  rw [e]
  cases atI (ns.map D.int) i <;> rfl
/-- an item of a thing that may change -/
def refIx (o : Option O) (d : D) : Option D := match o with
  | some (.lst ds) => (match d with | .int i => atI ds i | _ => none)
  | some (.dK kvs) => (match keyD d with | some k => getG kvs k | none => none)
  | _ => none
@[simp] theorem ev_ixR (j : Nat) (i : Int) (h : Hh) : ixA (.ref j) (.int i) h = refIx h[j]? (.int i) := by
  show (match (match (match h[j]? with | some (.lst ds) => some ds | _ => none : Option (List D)) with | some ds => atI ds i | none => none : Option D) with
    | some d => some d
    | none => (match h[j]? with | some (.dK kvs) => (match keyD (.int i) with | some k => getG kvs k | none => none) | _ => none : Option D)) = _
  cases h[j]? with
  | none => rfl
  | some o =>
    cases o with
    | lst ds =>
      show (match atI ds i with | some d => some d | none => none : Option D) = atI ds i
      cases atI ds i <;> rfl
    | dK kvs => rfl
    | dN kvs => rfl
    | ins C fs => rfl
    | exc x => rfl
@[simp] theorem ev_ixRS (j : Nat) (x : Str) (h : Hh) : ixA (.ref j) (.str x) h = refIx h[j]? (.str x) := by
  show (match h[j]? with | some (.dK kvs) => (match keyD (.str x) with | some k => getG kvs k | none => none) | _ => none : Option D) = _
  cases h[j]? with
  | none => rfl
  | some o => cases o <;> rfl
@[simp] theorem ev_refIxL (ds : List D) (i : Int) : refIx (some (.lst ds)) (.int i) = atI ds i := rfl
@[simp] theorem ev_refIxI (kvs : List (Key × D)) (i : Int) : refIx (some (.dK kvs)) (.int i) = getG kvs (.inl i) := rfl
@[simp] theorem ev_refIxS (kvs : List (Key × D)) (x : Str) : refIx (some (.dK kvs)) (.str x) = getG kvs (.inr x) := rfl
@[simp] theorem ev_atI0 {α : Type} (x : α) (xs : List α) : atI (x :: xs) 0 = some x := by simp [atI, ixN]
/-- an item by its place -/
@[simp] theorem ev_atIp {α : Type} (xs : List α) (k : Int) (h : 0 ≤ k) : atI xs k = xs[k.toNat]? := by
  unfold atI ixN
  rw [if_pos h]
  by_cases h2 : k < xs.length
  · rw [if_pos h2]; rfl
  · rw [if_neg h2, List.getElem?_eq_none (by omega)]; rfl
@[simp] theorem ev_atIm {α : Type} (xs : List α) (k : Int) (h : k < 0) : atI xs k = if -(xs.length : Int) ≤ k then xs[(k + xs.length).toNat]? else none := by
  unfold atI ixN
  rw [if_neg (by omega)]
  by_cases h2 : -(xs.length : Int) ≤ k
  · rw [if_pos h2, if_pos h2]; rfl
  · rw [if_neg h2, if_neg h2]; rfl
@[simp] theorem ev_ixN (n : Nat) (k : Int) (h : 0 ≤ k) : ixN n k = if k < n then some k.toNat else none := if_pos h
/-- a thing that is written to -/
def refSet (o : Option O) (j : Nat) (i : D) (d : D) (h : Hh) : Option Hh := match o with
  | some (.lst xs) => match i with
    | .int k => (ixN xs.length k).map fun n => h.set j (.lst (xs.set n d))
    | _ => none
  | _ => none
@[simp] theorem ev_set (j : Nat) (i d : D) (h : Hh) : setO (.ref j) i d h = refSet h[j]? j i d h := by
  show (match h[j]? with | some (.lst xs) => (match i with | .int k => (ixN xs.length k).map fun n => h.set j (.lst (xs.set n d)) | _ => none) | _ => none : Option Hh) = _
  cases h[j]? with
  | none => rfl
  | some o => cases o <;> rfl
@[simp] theorem ev_refSet (xs : List D) (j : Nat) (k : Int) (d : D) (h : Hh) : refSet (some (.lst xs)) j (.int k) d h = (ixN xs.length k).map fun n => h.set j (.lst (xs.set n d)) := rfl
/-- where x[i] = d leads -/
def subO' (f : OpS) (d : D) (env : DEnv) (a : Res D) (b : ME) : Option (DEnv × Hh) := match a with
  | .ok o h1 => match b env h1 with
    | .ok i h2 => (f o i d h2).map fun h3 => (env, h3)
    | _ => none
  | _ => none
@[simp] theorem ev_gSub (mo mi : ME) (f : OpS) (d : D) (env : DEnv) (h : Hh) : gSubD mo mi f d env h = subO' f d env (mo env h) mi := rfl
/-- the second step -/
def subO2 (f : OpS) (d o : D) (env : DEnv) (b : Res D) : Option (DEnv × Hh) := match b with
  | .ok i h2 => (f o i d h2).map fun h3 => (env, h3)
  | _ => none
@[simp] theorem ev_subO (f : OpS) (d o : D) (env : DEnv) (h1 : Hh) (b : ME) : subO' f d env (.ok o h1) b = subO2 f d o env (b env h1) := rfl
@[simp] theorem ev_subO2 (f : OpS) (d o i : D) (env : DEnv) (h2 : Hh) : subO2 f d o env (.ok i h2) = (f o i d h2).map fun h3 => (env, h3) := rfl
@[simp] theorem ev_ixN0 (n : Nat) : ixN (n + 1) 0 = some 0 := by simp [ixN]
@[simp] theorem ev_slT (ds : List D) (lo hi : Option Int) (h : Hh) : sliceO (.tup ds) lo hi h = some (.tup (cutG ds lo hi)) := rfl
@[simp] theorem ev_slL (ds : List D) (lo hi : Option Int) (h : Hh) : sliceO (.lst ds) lo hi h = some (.lst (cutG ds lo hi)) := rfl
@[simp] theorem ev_all (bs : List D) (h : Hh) : allO [.lst bs] h = (truths bs).map fun bs => .bl (bs.all id) := rfl
@[simp] theorem ev_any (bs : List D) (h : Hh) : anyO [.lst bs] h = (truths bs).map fun bs => .bl (bs.any id) := rfl
@[simp] theorem ev_truths0 : truths [] = some [] := rfl
@[simp] theorem ev_truths (b : Bool) (ds : List D) : truths (.bl b :: ds) = (truths ds).map (b :: ·) := rfl
@[simp] theorem ev_srcT (ds : List D) (h : Hh) : srcOf (.tup ds) h = some ⟨ds, none⟩ := rfl
@[simp] theorem ev_srcL (ds : List D) (h : Hh) : srcOf (.lst ds) h = some ⟨ds, none⟩ := rfl
@[simp] theorem ev_rng1 (j : Int) (h : Hh) : rng1 [.int j] h = if -1000000 ≤ j ∧ j ≤ 1000000 then some ⟨rangeD 0 j, none⟩ else none := rfl
@[simp] theorem ev_rng2 (i j : Int) (h : Hh) : rng2 [.int i, .int j] h = if (-1000000 ≤ i ∧ i ≤ 1000000) ∧ -1000000 ≤ j ∧ j ≤ 1000000 then some ⟨rangeD i j, none⟩ else none := rfl
@[simp] theorem ev_zpTT (xs ys : List D) (h : Hh) : zp [.tup xs, .tup ys] h = some ⟨zipD xs ys, none⟩ := rfl
@[simp] theorem ev_zpLL (xs ys : List D) (h : Hh) : zp [.lst xs, .lst ys] h = some ⟨zipD xs ys, none⟩ := rfl
@[simp] theorem ev_zip0 (ys : List D) : zipD [] ys = [] := rfl
@[simp] theorem ev_zip1 (x : D) (xs : List D) : zipD (x :: xs) [] = [] := rfl
@[simp] theorem ev_zip2 (x y : D) (xs ys : List D) : zipD (x :: xs) (y :: ys) = .wtp [x, y] :: zipD xs ys := rfl

end MR

namespace MR
open PySem PySem.Spec PyProof.Rows L2

@[simp] theorem ev_sizeLine : sizeLine = 16777216 := sizeLine_eq
def refIsL (o : Option O) : Bool := match o with | some (.lst _) => true | _ => false
@[simp] theorem ev_isLR (j : Nat) (h : Hh) : isL (.ref j) h = refIsL h[j]? := by
  show (match h[j]? with | some (.lst ds) => some ds | _ => none : Option (List D)).isSome = _
  cases h[j]? with
  | none => rfl
  | some o => cases o <;> rfl
@[simp] theorem ev_refIsL (xs : List D) : refIsL (some (.lst xs)) = true := rfl
def refCh (g : List D → Option (D × List D)) (i : Nat) (h : Hh) (o : Option O) : Option (D × Hh) := match o with
  | some (.lst xs) => (g xs).map fun p => (p.1, h.set i (.lst p.2))
  | _ => none
def g_app (e : D) : List D → Option (D × List D) := fun xs => if xs.length < sizeLine then some (.non, xs ++ [e]) else none
def g_ext (ys : List D) : List D → Option (D × List D) := fun xs => if xs.length + ys.length ≤ sizeLine then some (.non, xs ++ ys) else none
def g_ins (i : Int) (e : D) : List D → Option (D × List D) := fun xs => if xs.length < sizeLine ∧ 0 ≤ i ∧ i < 1000000000 then some (.non, xs.take i.toNat ++ [e] ++ xs.drop i.toNat) else none
def g_pop : List D → Option (D × List D) := fun xs => match xs[xs.length - 1]? with
  | some y => some (y, xs.dropLast)
  | none => none
@[simp] theorem ev_app (e : D) (j : Nat) (h : Hh) : appendO (.ref j) [e] h = refCh (g_app e) j h h[j]? := rfl
def extR (j : Nat) (h : Hh) (o : Option (List D)) : Option (D × Hh) := match o with
  | some ys => refCh (g_ext ys) j h h[j]?
  | none => none
@[simp] theorem ev_ext (e : D) (j : Nat) (h : Hh) : extendO (.ref j) [e] h = extR j h (seqL e h) := by
  show (match seqL e h with | some ys => chL (g_ext ys) (.ref j) h | none => none : Option (D × Hh)) = _
  cases seqL e h <;> rfl
@[simp] theorem ev_extR (j : Nat) (h : Hh) (ys : List D) : extR j h (some ys) = refCh (g_ext ys) j h h[j]? := rfl
@[simp] theorem ev_ins (i : Int) (e : D) (j : Nat) (h : Hh) : insertO (.ref j) [.int i, e] h = refCh (g_ins i e) j h h[j]? := rfl
@[simp] theorem ev_pop (j : Nat) (h : Hh) : popO (.ref j) [] h = refCh g_pop j h h[j]? := rfl
@[simp] theorem ev_refCh (g : List D → Option (D × List D)) (i : Nat) (h : Hh) (xs : List D) : refCh g i h (some (.lst xs)) = (g xs).map fun p => (p.1, h.set i (.lst p.2)) := rfl
@[simp] theorem ev_gapp (e : D) (xs : List D) : g_app e xs = if xs.length < 16777216 then some (.non, xs ++ [e]) else none := by rw [← sizeLine_eq]; rfl
@[simp] theorem ev_gext (ys xs : List D) : g_ext ys xs = if xs.length + ys.length ≤ 16777216 then some (.non, xs ++ ys) else none := by rw [← sizeLine_eq]; rfl
@[simp] theorem ev_seqLL (xs : List D) (h : Hh) : seqL (.lst xs) h = some xs := rfl
def refSeq (o : Option O) : Option (List D) := match o with | some (.lst xs) => some xs | _ => none
@[simp] theorem ev_seqLR (j : Nat) (h : Hh) : seqL (.ref j) h = refSeq h[j]? := by
  show (match h[j]? with | some (.lst ds) => some ds | _ => none : Option (List D)) = _
  cases h[j]? with
  | none => rfl
  | some o => cases o <;> rfl
@[simp] theorem ev_refSeq (xs : List D) : refSeq (some (.lst xs)) = some xs := rfl
/-- the list that was laid last -/
@[simp] theorem set_last (h : Hh) (o o' : O) : (h ++ [o]).set h.length o' = h ++ [o'] := by
  induction h with
  | nil => rfl
  | cons x xs ih => simp [ih]
/-- a loop over a thing that may change -/
def refSrc (j : Nat) (o : Option O) : Option Src := match o with
  | some (.lst ds) => some ⟨ds, some (j, ds)⟩
  | _ => none
@[simp] theorem ev_srcR (j : Nat) (h : Hh) : srcOf (.ref j) h = refSrc j h[j]? := by
  show (match h[j]? with | some (.lst ds) => some ⟨ds, some (j, ds)⟩ | _ => none : Option Src) = _
  cases h[j]? with
  | none => rfl
  | some o => cases o <;> rfl
@[simp] theorem ev_refSrc (j : Nat) (ds : List D) : refSrc j (some (.lst ds)) = some ⟨ds, some (j, ds)⟩ := rfl
def lenR (o : Option O) : Option D := match o with
  | some (.lst xs) => some (.int xs.length)
  | some (.dK kvs) => some (.int kvs.length)
  | _ => none
@[simp] theorem ev_lenR (j : Nat) (h : Hh) : lenO [.ref j] h = lenR h[j]? := by
  show (match h[j]? with | some (.lst xs) => some (.int xs.length) | some (.dK kvs) => some (.int kvs.length) | _ => none : Option D) = _
  cases h[j]? with
  | none => rfl
  | some o => cases o <;> rfl
@[simp] theorem ev_lenRL (xs : List D) : lenR (some (.lst xs)) = some (.int xs.length) := rfl
@[simp] theorem ev_lenRD (xs : List (Key × D)) : lenR (some (.dK xs)) = some (.int xs.length) := rfl
def refTy (o : Option O) : Option String := match o with
  | some (.lst _) => some "list"
  | some (.dK _) => some "dict"
  | some (.dN _) => some "dict"
  | _ => none
@[simp] theorem ev_tyR (j : Nat) (h : Hh) : tyName (.ref j) h = refTy h[j]? := by
  show (match h[j]? with | some (.lst _) => some "list" | some (.dK _) => some "dict" | some (.dN _) => some "dict" | _ => none : Option String) = _
  cases h[j]? with
  | none => rfl
  | some o => cases o <;> rfl
@[simp] theorem ev_refTyL (xs : List D) : refTy (some (.lst xs)) = some "list" := rfl
@[simp] theorem ev_refTyD (xs : List (Key × D)) : refTy (some (.dK xs)) = some "dict" := rfl
@[simp] theorem ev_refTyN (xs : List (D × D)) : refTy (some (.dN xs)) = some "dict" := rfl
theorem mem_range {lo hi : Int} {d : D} (h : d ∈ rangeD lo hi) : ∃ k : Int, d = .int k ∧ lo ≤ k ∧ k < hi := by
  unfold rangeD at h
  obtain ⟨i, hi, rfl⟩ := List.mem_map.mp h
  exact ⟨lo + i, rfl, by omega, by have := List.mem_range.mp hi; omega⟩
end MR

namespace MR
open PySem PySem.Spec PyProof.Rows L2

theorem mulE (i j : Int) (h : Hh) : mulO (.int i) (.int j) h = if ((-18446744073709551616 < i ∧ i < 18446744073709551616) ∨ (-18446744073709551616 < j ∧ j < 18446744073709551616)) ∨ i.natAbs.log2 + j.natAbs.log2 < 1000000 then some (.int (i * j)) else none := rfl
/-- plain things, no deeper than n -/
def fit : Nat → D → Bool
  | 0, _ => false
  | n + 1, d => match d with
    | .non => true
    | .bl _ => true
    | .int _ => true
    | .str x => PyData.strOk x
    | .tup ds => ds.all (fit n)
    | .lst ds => ds.all (fit n)
    | _ => false
theorem truths_all {α : Type} (xs : List α) : truths (xs.map fun _ => D.bl true) = some (xs.map fun _ => true) := by
  induction xs with
  | nil => rfl
  | cons x xs ih => simp [ih]
theorem kit_all : kitB "NoneType" "dict" = some false ∧ kitB "NoneType" "list" = some false ∧ kitB "NoneType" "tuple" = some false ∧ kitB "NoneType" "str" = some false ∧ kitB "NoneType" "bool" = some false ∧ kitB "NoneType" "int" = some false := by decide +kernel
theorem kit_bool : kitB "bool" "dict" = some false ∧ kitB "bool" "list" = some false ∧ kitB "bool" "tuple" = some false ∧ kitB "bool" "str" = some false ∧ kitB "bool" "bool" = some true ∧ kitB "bool" "int" = some true := by decide +kernel
theorem kit_int : kitB "int" "dict" = some false ∧ kitB "int" "list" = some false ∧ kitB "int" "tuple" = some false ∧ kitB "int" "str" = some false ∧ kitB "int" "bool" = some false ∧ kitB "int" "int" = some true := by decide +kernel
theorem kit_str : kitB "str" "dict" = some false ∧ kitB "str" "list" = some false ∧ kitB "str" "tuple" = some false ∧ kitB "str" "str" = some true ∧ kitB "str" "bool" = some false ∧ kitB "str" "int" = some false := by decide +kernel
theorem kit_tuple : kitB "tuple" "dict" = some false ∧ kitB "tuple" "list" = some false ∧ kitB "tuple" "tuple" = some true ∧ kitB "tuple" "str" = some false ∧ kitB "tuple" "bool" = some false ∧ kitB "tuple" "int" = some false := by decide +kernel
theorem kit_list : kitB "list" "dict" = some false ∧ kitB "list" "list" = some true ∧ kitB "list" "tuple" = some false ∧ kitB "list" "str" = some false ∧ kitB "list" "bool" = some false ∧ kitB "list" "int" = some false := by decide +kernel
/-- where the numbers that are left stand -/
def Lf (h : Hh) (i : Nat) : Prop := ∃ a b c : Int, h[i]? = some (.lst [.int a, .int b, .int c]) ∧ 0 ≤ a ∧ 0 ≤ b ∧ b < 2147483648 ∧ 0 ≤ c
/-- all the rest stands as it stood -/
def Nx (i : Nat) (h h' : Hh) : Prop := h'.length = h.length ∧ ∀ j, j ≠ i → h'[j]? = h[j]?
theorem Nx.trans {i : Nat} {a b c : Hh} (x : Nx i a b) (y : Nx i b c) : Nx i a c := ⟨by rw [y.1, x.1], fun j n => by rw [y.2 j n, x.2 j n]⟩
theorem Nx.refl {i : Nat} {a : Hh} : Nx i a a := ⟨rfl, fun _ _ => rfl⟩
theorem Nx.set {i : Nat} {a : Hh} {o : O} : Nx i a (a.set i o) := ⟨by simp, fun j n => by simp [List.getElem?_set, Ne.symm n]⟩
theorem Lf.lt {h : Hh} {i : Nat} (l : Lf h i) : i < h.length := by
  obtain ⟨a, b, c, e, _⟩ := l
  exact (List.getElem?_eq_some_iff.mp e).1
theorem Lf.app {h : Hh} {a b c : Int} (a0 : 0 ≤ a) (b0 : 0 ≤ b) (b1 : b < 2147483648) (c0 : 0 ≤ c) : Lf (h ++ [.lst [.int a, .int b, .int c]]) h.length := ⟨a, b, c, by simp, a0, b0, b1, c0⟩
abbrev WL : List Str := ["rows", "readers", "writers", "turns", "passes"]
/-- a rule that the law makes -/
structure Rul (w : Str) (m t u : Int) : Prop where
  hw : w ∈ WL
  hm : m = 0 ∨ m = 1 ∨ m = 2 ∨ m = 3 ∨ m = 5
  ht : t = 0 ∨ w = "passes" ∧ (t = 1 ∨ t = 2 ∨ t = 9)
  hu : u = 0 ∨ u = 1

/-- the kind of a thing -/
def kindOf (d : D) : Option String := match d with
  | .non => some "NoneType" | .bl _ => some "bool" | .int _ => some "int" | .str _ => some "str" | .tup _ => some "tuple" | .lst _ => some "list" | .scr _ => some "list"
  | _ => none
end MR

namespace MR
open PySem PySem.Spec PyProof.Rows L2

theorem tuple_mul_same (l : Addr) (items : Array Value) (n : Nat) (dd : Option Addr) (sl : Array (Option Value)) (x : Int) (u : Tok) (c0 : (decide (x < -(2 ^ 63)) || decide (x ≥ 2 ^ 63)) = false) (c1 : (items.isEmpty || x == 1) = true) :
    Meets (Builtin.«tuple.__mul__» ⟨[.ref l, .int x u], []⟩) (fun _ R s => s.heap.get? l = some { cls := .type "tuple", dict := dd, data := .seq items n, slots := sl } ∧ R (.ok (.ret (Value.ref l))) s) :=
  .of_wp fun prog w A R s h => by
    obtain ⟨hp, g, d, tk, os⟩ := s
    obtain ⟨hl, h⟩ := h
    have f1 := AutoSeq1.idx_int
    wp_walk using wpAny_loadPart' hl
    repeat (first
      | (refine wpAny_ite_false (decide_eq_false (by rw [c0]; exact Bool.false_ne_true)) ?_; wp_walk using wpAny_loadPart' hl)
      | (refine wpAny_ite_true (decide_eq_true c1) ?_; wp_walk using wpAny_loadPart' hl))
    exact ⟨_, rfl, h⟩
theorem tuple_mul_none (l : Addr) (items : Array Value) (n : Nat) (dd : Option Addr) (sl : Array (Option Value)) (x : Int) (u : Tok) (c0 : (decide (x < -(2 ^ 63)) || decide (x ≥ 2 ^ 63)) = false) (c1 : (items.isEmpty || x == 1) = false) (c2 : (decide (x ≤ 0) || items.isEmpty) = true) :
    Meets (Builtin.«tuple.__mul__» ⟨[.ref l, .int x u], []⟩) (fun _ R s => s.heap.get? l = some { cls := .type "tuple", dict := dd, data := .seq items n, slots := sl } ∧
      R (.ok (.ret (Value.ref s.heap.objs.size))) { s with heap := s.heap.push { cls := Value.type "tuple", data := Data.seq #[] }, toks := s.toks }) :=
  .of_wp fun prog w A R s h => by
    obtain ⟨hp, g, d, tk, os⟩ := s
    obtain ⟨hl, h⟩ := h
    have f1 := AutoSeq1.idx_int
    wp_walk using wpAny_loadPart' hl
    repeat (first
      | (refine wpAny_ite_false (decide_eq_false (by rw [c0]; exact Bool.false_ne_true)) ?_; wp_walk using wpAny_loadPart' hl)
      | (refine wpAny_ite_false (decide_eq_false (by rw [c1]; exact Bool.false_ne_true)) ?_; wp_walk using wpAny_loadPart' hl)
      | (refine wpAny_ite_true (decide_eq_true c2) ?_; wp_walk using wpAny_loadPart' hl))
    exact ⟨_, rfl, h⟩
def rRep1 (K : PySem.W.Frag) : R2 := fun x y H Q => ∃ l k xs, x = .ref l ∧ y = .int k ∧ SqT K H l xs ∧ -1000 ≤ k ∧ k ≤ 1000 ∧ ((xs = [] ∨ k = 1) ∧ Q (.ref l) H ∨ (xs ≠ [] ∧ k ≤ 0) ∧ NewT H [] Q ∨ (xs ≠ [] ∧ 2 ≤ k ∧ xs.length ≤ 1000) ∧ NewT H (List.replicate k.toNat xs).flatten Q)
section
variable {X : Cx}
theorem op_rep1 : OpR X (binaryOp .Mult) (rRep1 X.K) := by
  intro pins s σ H x y v u Q I rx ry h
  obtain ⟨l, k, xs, rfl, rfl, hT, h1, h2, q⟩ := h
  cases rx
  obtain ⟨t, rfl⟩ := ry
  obtain ⟨its, r, ⟨⟨cls, dd, data, sl⟩, ho, hc, n, hd⟩, hs⟩ := I.tuple hT
  simp only at hc hd
  subst hc hd
  have hle : its.length = xs.length := r.length.symm
  have c0 : (decide (k < -(2 ^ 63)) || decide (k ≥ 2 ^ 63)) = false := by
    rw [decide_eq_false (by omega), decide_eq_false (by omega)] <;> rfl
  rcases q with ⟨c, q⟩ | ⟨⟨c1, c2⟩, q⟩ | ⟨⟨c1, c2, hz⟩, q⟩
  · have c1 : (its.toArray.isEmpty || k == 1) = true := by
      rcases c with c | c
      · subst c
        have : its = [] := List.eq_nil_of_length_eq_zero hle
        subst this; rfl
      · subst c; simp
    refine wpAny_binaryOp_repeat_ref (T := "tuple") (U := "int") (by decide) ⟨_, ho, rfl⟩ (fun s' => typeIs_int s' k t) noFill_tuple_mul F.fills_int_mul F.slot_int_rmul repeat_tuple F.slot_int_index.lookup
      (call_meets F.slot_int_rmul (typeIs_int s k t) F.entry_int_rmul (F.args_int_rmul_2 _ _) (int_rmul_tuple k t l its.toArray n dd sl)
        ⟨ho, rfl, ⟨_, ho, rfl⟩, call_meets F.slot_tuple_mul ⟨_, ho, rfl⟩ F.entry_tuple_mul (F.args_tuple_mul_2 _ _) (tuple_mul_same l its.toArray n dd sl k t c0 c1) ⟨ho, ?_⟩⟩)
    exact ⟨.ref l, H, I, rfl, q⟩
  · have hn : its ≠ [] := fun e => c1 (by
      rw [e] at hle
      exact List.eq_nil_of_length_eq_zero hle.symm)
    have hi : its.toArray.isEmpty = false := by
      cases its with
      | nil => exact absurd rfl hn
      | cons a b => rfl
    have c3 : (its.toArray.isEmpty || k == 1) = false := by
      rw [hi, Bool.false_or]
      exact beq_eq_false_iff_ne.mpr (by omega)
    have c4 : (decide (k ≤ 0) || its.toArray.isEmpty) = true := by
      rw [decide_eq_true c2]; rfl
    refine wpAny_binaryOp_repeat_ref (T := "tuple") (U := "int") (by decide) ⟨_, ho, rfl⟩ (fun s' => typeIs_int s' k t) noFill_tuple_mul F.fills_int_mul F.slot_int_rmul repeat_tuple F.slot_int_index.lookup
      (call_meets F.slot_int_rmul (typeIs_int s k t) F.entry_int_rmul (F.args_int_rmul_2 _ _) (int_rmul_tuple k t l its.toArray n dd sl)
        ⟨ho, rfl, ⟨_, ho, rfl⟩, call_meets F.slot_tuple_mul ⟨_, ho, rfl⟩ F.entry_tuple_mul (F.args_tuple_mul_2 _ _) (tuple_mul_none l its.toArray n dd sl k t c0 c3 c4) ⟨ho, ?_⟩⟩)
    exact inv_newT I (its := []) .nil (Nat.zero_le _) q
  · have hn : its ≠ [] := fun e => c1 (by
      rw [e] at hle
      exact List.eq_nil_of_length_eq_zero hle.symm)
    have hi : its.toArray.isEmpty = false := by
      cases its with
      | nil => exact absurd rfl hn
      | cons a b => rfl
    have hsz0 : its.toArray.size = xs.length := by rw [List.size_toArray, hle]
    have hm : ((its.toArray.size : Nat) : Int) * k ≤ 1000000 := by
      rw [hsz0]
      have a1 : ((xs.length : Nat) : Int) * k ≤ 1000 * k := Int.mul_le_mul_of_nonneg_right (by omega) (by omega)
      omega
    have nlen : k.toNat * xs.length ≤ 1000000 := by
      have a1 : k.toNat * xs.length ≤ 1000 * 1000 := Nat.mul_le_mul (by omega) hz
      omega
    have flen : (List.replicate k.toNat its).flatten.length ≤ sizeLine := by
      rw [PyProof.Rows.lm_len_rep_flat, hle, sizeLine_eq]; omega
    have c3 : (its.toArray.isEmpty || k == 1) = false := by
      rw [hi, Bool.false_or]
      exact beq_eq_false_iff_ne.mpr (by omega)
    have c4 : (decide (k ≤ 0) || its.toArray.isEmpty) = false := by
      rw [hi, Bool.or_false]
      exact decide_eq_false (by omega)
    have c5 : Builtin.Tuple.tupleTooMany (((its.toArray.size : Nat) : Int) * k) = false := by
      unfold Builtin.Tuple.tupleTooMany
      rw [sizeLine_eq]
      exact decide_eq_false (by omega)
    refine wpAny_binaryOp_repeat_ref (T := "tuple") (U := "int") (by decide) ⟨_, ho, rfl⟩ (fun s' => typeIs_int s' k t) noFill_tuple_mul F.fills_int_mul F.slot_int_rmul repeat_tuple F.slot_int_index.lookup
      (call_meets F.slot_int_rmul (typeIs_int s k t) F.entry_int_rmul (F.args_int_rmul_2 _ _) (int_rmul_tuple k t l its.toArray n dd sl)
        ⟨ho, rfl, ⟨_, ho, rfl⟩, call_meets F.slot_tuple_mul ⟨_, ho, rfl⟩ F.entry_tuple_mul (F.args_tuple_mul_2 _ _) (tuple_mulW l its.toArray n dd sl k t c0 c3 c4 (by omega) c5 (by rw [size_rep, List.size_toArray]; exact flen)) ⟨ho, ?_⟩⟩)
    rw [size_rep]
    exact inv_newT I (r.rep k.toNat) (by rw [PyProof.Rows.lm_len_rep_flat, sizeLine_eq]; omega) q
end

def repG {α : Type} (xs : List α) (k : Int) : List α := (List.replicate k.toNat xs).flatten
def mulB : Op2 := fun a b h => match a, b with
  | .tup xs, .int k => if -1000 ≤ k ∧ k ≤ 1000 ∧ xs.length ≤ 1000 then some (.tup (repG xs k)) else none
  | .lst xs, .int k => if -1000 ≤ k ∧ k ≤ 1000 ∧ xs.length ≤ 1000 then some (.lst (repG xs k)) else none
  | a, b => mulO a b h
def rMulB (K : PySem.W.Frag) : R2 := fun x y H Q => rMulA x y H Q ∨ (rRep1 K x y H Q ∨ rRep x y H Q)
theorem op_mulB {X : Cx} : OpR X (binaryOp .Mult) (rMulB X.K) := op_mulA.or (op_rep1.or op_rep)
section
variable {G : Gm} {rho : Rm} {H : Hp}
theorem Dens.rep {ds : List D} {vs : List V} (q : Dens G rho H ds vs) : ∀ n : Nat, Dens G rho H (List.replicate n ds).flatten (List.replicate n vs).flatten
  | 0 => rfl
  | n + 1 => by
    rw [List.replicate_succ, List.replicate_succ, List.flatten_cons, List.flatten_cons]
    exact q.append (Dens.rep q n)
theorem rep_len {α : Type} (xs : List α) (n : Nat) : (List.replicate n xs).flatten.length = n * xs.length := by simp
theorem rz_mulB : Rz2 G (rMulB G.K) mulB := fun rho hh H d1 d2 v1 v2 d Q R q1 q2 e k => by
  unfold mulB at e
  split at e
  · rename_i xs i
    split at e
    · rename_i hc
      obtain ⟨c1, c2, c3⟩ := hc
      cases e
      have q0 := q1
      rw [Den] at q1
      obtain ⟨a, vs, rfl, hT, l, z⟩ := q1
      have q2 : v2 = .int i := q2
      have hl := z.length
      by_cases h1 : vs = [] ∨ i = 1
      · have ex : repG xs i = xs := by
          rcases h1 with h1 | h1
          · subst h1
            have : xs = [] := List.eq_nil_of_length_eq_zero (by simpa using hl)
            subst this
            unfold repG
            simp
          · subst h1; simp [repG]
        refine .inr (.inl ⟨a, i, vs, rfl, q2, hT.t, c1, c2, .inl ⟨h1, k _ H .refl R ?_⟩⟩)
        rw [ex]; exact q0
      · by_cases h2 : i ≤ 0
        · have e0 : i.toNat = 0 := by omega
          refine .inr (.inl ⟨a, i, vs, rfl, q2, hT.t, c1, c2, .inr (.inl ⟨⟨fun e => h1 (.inl e), h2⟩, fun p o hp ho => k _ _ (.laid hp) (R.laid hp) ?_⟩)⟩)
          have : repG xs i = [] := by unfold repG; rw [e0]; rfl
          rw [this]
          exact Den.tup_new (ds := []) (vs := []) ho R rfl (Nat.zero_le _) hp
        · refine .inr (.inl ⟨a, i, vs, rfl, q2, hT.t, c1, c2, .inr (.inr ⟨⟨fun e => h1 (.inl e), by omega, by omega⟩, fun p o hp ho => k _ _ (.laid hp) (R.laid hp) (Den.tup_new ho R (z.rep _) ?_ hp)⟩)⟩)
          rw [rep_len, sizeLine_eq]
          have a1 : i.toNat * vs.length ≤ 1000 * 1000 := Nat.mul_le_mul (by omega) (by omega)
          omega
    · cases e
  · rename_i xs i
    split at e
    · rename_i hc
      obtain ⟨c1, c2, c3⟩ := hc
      cases e
      obtain ⟨a, vs, rfl, hT, l, z⟩ := seqL_of (ds := xs) R q1 rfl
      have hl := z.length
      have a1 : i.toNat * vs.length ≤ 1000 * 1000 := Nat.mul_le_mul (by omega) (by omega)
      refine .inr (.inr ⟨a, i, vs, rfl, q2, hT, by omega, by omega, by rw [sizeLine_eq, Nat.mul_comm]; omega, fun p hp => k _ _ (.laid hp) (R.laid hp) (den_lst_new R (z.rep _) ?_ hp)⟩)
      rw [rep_len, sizeLine_eq]
      omega
    · cases e
  · exact .inl (rz_mul rho hh H d1 d2 v1 v2 d Q R q1 q2 e k)
end
@[simp] theorem ev_mulBI (i j : Int) (h : Hh) : mulB (.int i) (.int j) h = mulO (.int i) (.int j) h := rfl
@[simp] theorem ev_mulBT (xs : List D) (k : Int) (h : Hh) : mulB (.tup xs) (.int k) h = if -1000 ≤ k ∧ k ≤ 1000 ∧ xs.length ≤ 1000 then some (.tup (repG xs k)) else none := rfl
@[simp] theorem ev_mulBL (xs : List D) (k : Int) (h : Hh) : mulB (.lst xs) (.int k) h = if -1000 ≤ k ∧ k ≤ 1000 ∧ xs.length ≤ 1000 then some (.lst (repG xs k)) else none := rfl
end MR

namespace MR
open PySem PySem.Spec PyProof.Rows L2

@[simp] theorem ev_tupleT (xs : List D) (h : Hh) : tupleO [.tup xs] h = some (.tup xs) := rfl
@[simp] theorem ev_tupleL (xs : List D) (h : Hh) : tupleO [.lst xs] h = some (.tup xs) := rfl
@[simp] theorem ev_tupleR (j : Nat) (h : Hh) : tupleO [.ref j] h = (refSeq h[j]?).map fun xs => .tup xs := by
  show (seqL (.ref j) h).map _ = _
  rw [ev_seqLR]
@[simp] theorem truths_map {α : Type} (p : α → Bool) (xs : List α) : truths (xs.map fun x => D.bl (p x)) = some (xs.map p) := by
  induction xs with
  | nil => rfl
  | cons x xs ih => rw [List.map_cons, ev_truths, ih]; rfl
theorem all_map {α : Type} (p : α → Bool) (xs : List α) : (xs.map p).all id = xs.all p := by
  induction xs with
  | nil => rfl
  | cons x xs ih => rw [List.map_cons, List.all_cons, List.all_cons, ih]; rfl
theorem fit_up : ∀ (n : Nat) (d : D), fit n d = true → fit (n + 1) d = true
  | 0, d, f => by cases f
  | n + 1, d, f => by
    cases d with
    | tup ds =>
      have f : ds.all (fit n) = true := f
      show ds.all (fit (n + 1)) = true
      rw [List.all_eq_true] at f ⊢
      exact fun d m => fit_up n d (f d m)
    | lst ds =>
      have f : ds.all (fit n) = true := f
      show ds.all (fit (n + 1)) = true
      rw [List.all_eq_true] at f ⊢
      exact fun d m => fit_up n d (f d m)
    | non => exact f
    | bl b => exact f
    | int i => exact f
    | str x => exact f
    | ref i => cases f
    | glb v => cases f
    | scr ns => cases f
    | dct ks ns => cases f
    | wtp ds => cases f
theorem fit_le {n m : Nat} (hm : n ≤ m) {d : D} (f : fit n d = true) : fit m d = true := by
  induction hm with
  | refl => exact f
  | step _ ih => exact fit_up _ _ ih
theorem fit_tup {n : Nat} {ds : List D} : fit (n + 1) (.tup ds) = true ↔ ∀ d ∈ ds, fit n d = true := by
  show ds.all (fit n) = true ↔ _
  rw [List.all_eq_true]
theorem cut_from {α : Type} (xs : List α) (k : Int) (h : 0 ≤ k) : cutG xs (some k) none = xs.drop k.toNat := by
  unfold cutG HT.sIx
  simp only [show ¬ k < 0 from by omega, if_false]
  rw [Nat.min_def]
  split
  · rw [List.take_of_length_le (by rw [List.length_drop]; omega)]
  · rw [List.drop_eq_nil_of_le (Nat.le_refl _), List.drop_eq_nil_of_le (by omega)]; simp
end MR

namespace MR
open PySem PySem.Spec PyProof.Rows L2

/-- a value of a built-in type, without a dict -/
def TyAt (X : Cx) (T : String) (x : V) (H : Hp) : Prop := ∀ (pins : List (Addr × Obj)) (σ : L2.St) (s : Shared) (v : Value), Inv X pins σ H s → RelV x v → s.TypeIs v T ∧ ∀ a, v = .ref a → ∃ ob, s.heap.get? a = some ob ∧ ob.dict = none
section
variable {X : Cx} {o e : Expr} {es : List Expr} {to : TE} {t : TA} {name : Str} {apos cpos : Pos} {T id : String} {r : V → List V → Hp → VK → Prop}
end
/-- either of two roads, as the thing is -/
theorem pe_or {X : Cx} {e : Expr} {t t' : TE} (h : PE X e t) (h' : PE X e t') : PE X e (fun σ H Q => t σ H Q ∨ t' σ H Q) := ⟨fun pins s σ H Q I q => by
  rcases q with q | q
  · exact h.run pins s σ H Q I q
  · exact h'.run pins s σ H Q I q⟩
/-- what a method of a thing that is only read tells -/
abbrev OpR1 := D → List D → Hh → Option D
structure RzR (X : Cx) (T : String) (r : V → List V → Hp → VK → Prop) (ok : D → Hh → Bool) (f : OpR1) : Prop where
  ty : ∀ rho hh H d v, Rep (Cx.gm X) rho hh H → Den (Cx.gm X) rho H d v → ok d hh = true → TyAt X T v H
  run : ∀ rho hh H d ds v vs d' (Q : VK), Rep (Cx.gm X) rho hh H → Den (Cx.gm X) rho H d v → Dens (Cx.gm X) rho H ds vs → f d ds hh = some d' →
    (∀ w H', Step rho H rho H' → Rep (Cx.gm X) rho hh H' → Den (Cx.gm X) rho H' d' w → Q w H') → r v vs H Q
def eMethR (ok : D → Hh → Bool) (f : OpR1) (m : ME) (ms : MA) : ME := fun env h => (m env h).bind fun d h1 => if ok d h1 = true then (ms env h1).bind fun ds h2 => lift (f d ds h2) h2 else .stuck
section
variable {X : Cx} {o e : Expr} {es : List Expr} {m : ME} {ms : MA} {name : Str} {apos cpos : Pos} {T T' id id' : String} {r r' : V → List V → Hp → VK → Prop} {ok ok' : D → Hh → Bool} {f f' : OpR1}
/-- the same text does one or the other -/
theorem de_either {m1 m2 : ME} (h1 : DE X e m1) (h2 : DE X e m2) {m : ME} (hm : ∀ env h, m env h = m1 env h ∨ m env h = m2 env h) : DE X e m :=
  ⟨fun W tk => pe_weak (pe_or (h1.run W tk) (h2.run W tk)) fun σ H Q ⟨rho, env, hh, R, E, p⟩ => by
    rcases hm env hh with q | q
    · rw [q] at p; exact .inl ⟨rho, env, hh, R, E, p⟩
    · rw [q] at p; exact .inr ⟨rho, env, hh, R, E, p⟩⟩
/-- a method that two kinds of things have -/
def eMeth2 (ok ok' : D → Hh → Bool) (f f' : OpR1) (m : ME) (ms : MA) : ME := fun env h => (m env h).bind fun d h1 => if ok d h1 = true then (ms env h1).bind fun ds h2 => lift (f d ds h2) h2 else if ok' d h1 = true then (ms env h1).bind fun ds h2 => lift (f' d ds h2) h2 else .stuck
end

/-- the items of a list, of a tuple, as data -/
def pysL (d : D) (h : Hh) : Option (List PyData) := match pyOf d h with
  | some (.list ds) => some ds
  | _ => none
def pysT (d : D) (h : Hh) : Option (List PyData) := match pyOf d h with
  | some (.tuple ds) => some ds
  | _ => none
def cntOf (o : Option (List PyData)) (p : Option PyData) : Option D := match o, p with
  | some ps, some p => some (.int (ps.countP fun z => PyData.eqv z p : Nat))
  | _, _ => none
def countL : OpR1 := fun d ds h => match ds with
  | [e] => cntOf (pysL d h) (pyOf e h)
  | _ => none
def countT : OpR1 := fun d ds h => match ds with
  | [e] => cntOf (pysT d h) (pyOf e h)
  | _ => none
def isTp (d : D) (_ : Hh) : Bool := match d with | .tup _ => true | _ => false
section
variable {G : Gm} {rho : Rm} {hh : Hh} {H : Hp} {d : D} {v : V} {ps : List PyData}
end
def idxOf (o : Option (List PyData)) (p : Option PyData) : Option D := match o, p with
  | some ps, some p => (ps.findIdx? fun z => PyData.eqv z p).map fun n => .int (n : Nat)
  | _, _ => none
def indexL : OpR1 := fun d ds h => match ds with
  | [e] => idxOf (pysL d h) (pyOf e h)
  | _ => none
def k_mr (ok : D → Hh → Bool) (f : OpR1) (ms : MA) (env : DEnv) : D → Hh → Res D := fun d h1 => if ok d h1 = true then (ms env h1).bind fun ds h2 => lift (f d ds h2) h2 else .stuck
def k_mr2 (f : OpR1) (ms : MA) (env : DEnv) (d : D) (h1 : Hh) (k : Bool) : Res D := if k = true then (ms env h1).bind fun ds h2 => lift (f d ds h2) h2 else .stuck
def k_mr3 (f : OpR1) (d : D) : List D → Hh → Res D := fun ds h2 => lift (f d ds h2) h2
@[simp] theorem ev_methR (ok : D → Hh → Bool) (f : OpR1) (m : ME) (ms : MA) (env : DEnv) (h : Hh) : eMethR ok f m ms env h = (m env h).bind (k_mr ok f ms env) := rfl
@[simp] theorem ev_k_mr (ok : D → Hh → Bool) (f : OpR1) (ms : MA) (env : DEnv) (d : D) (h : Hh) : k_mr ok f ms env d h = k_mr2 f ms env d h (ok d h) := rfl
@[simp] theorem ev_k_mr2 (f : OpR1) (ms : MA) (env : DEnv) (d : D) (h : Hh) : k_mr2 f ms env d h true = (ms env h).bind (k_mr3 f d) := rfl
@[simp] theorem ev_k_mr3 (f : OpR1) (d : D) (ds : List D) (h : Hh) : k_mr3 f d ds h = lift (f d ds h) h := rfl
def k_mm (ok ok' : D → Hh → Bool) (f f' : OpR1) (ms : MA) (env : DEnv) : D → Hh → Res D := fun d h1 => if ok d h1 = true then (ms env h1).bind fun ds h2 => lift (f d ds h2) h2 else if ok' d h1 = true then (ms env h1).bind fun ds h2 => lift (f' d ds h2) h2 else .stuck
@[simp] theorem ev_meth2 (ok ok' : D → Hh → Bool) (f f' : OpR1) (m : ME) (ms : MA) (env : DEnv) (h : Hh) : eMeth2 ok ok' f f' m ms env h = (m env h).bind (k_mm ok ok' f f' ms env) := rfl
@[simp] theorem ev_mmL (f f' : OpR1) (ms : MA) (env : DEnv) (xs : List D) (h : Hh) : k_mm isL isTp f f' ms env (.lst xs) h = (ms env h).bind (k_mr3 f (.lst xs)) := rfl
@[simp] theorem ev_mmT (f f' : OpR1) (ms : MA) (env : DEnv) (xs : List D) (h : Hh) : k_mm isL isTp f f' ms env (.tup xs) h = (ms env h).bind (k_mr3 f' (.tup xs)) := rfl
@[simp] theorem ev_countL (d e : D) (h : Hh) : countL d [e] h = cntOf (pysL d h) (pyOf e h) := rfl
@[simp] theorem ev_countT (d e : D) (h : Hh) : countT d [e] h = cntOf (pysT d h) (pyOf e h) := rfl
@[simp] theorem ev_indexL (d e : D) (h : Hh) : indexL d [e] h = idxOf (pysL d h) (pyOf e h) := rfl
@[simp] theorem ev_isLL (xs : List D) (h : Hh) : isL (.lst xs) h = true := rfl
def revO (d : D) (h : Hh) : Option D := match d with
  | .tup xs => some (.tup xs.reverse)
  | d => (seqL d h).map fun xs => .lst xs.reverse
def eRev (m : ME) : ME := fun env h => (m env h).bind fun d h1 => lift (revO d h1) h1
end MR

namespace MR
open PySem PySem.Spec PyProof.Rows L2

section
variable {prog : Program} {w : World} {A : Around} {E : Value → Shared → Prop} {s : Shared}
theorem fmap_cg {α β : Type} {f g : α → Option β} : ∀ {l : List α}, (∀ a ∈ l, f a = g a) → l.filterMap f = l.filterMap g
  | [], _ => rfl
  | a :: l, h => by
    rw [List.filterMap_cons, List.filterMap_cons, h a List.mem_cons_self, fmap_cg fun b m => h b (List.mem_cons_of_mem _ m)]
theorem places_back (n : Nat) : Builtin.Slice.slicePlaces ((n : Int) - 1) (-1) (-1) = n := by
  unfold Builtin.Slice.slicePlaces
  have h1 : ¬ (-1 : Int) > 0 := by omega
  simp only [h1, if_false]
  have h2 : (-(-1) : Int) = 1 := rfl
  rw [h2, Int.ediv_one]
  split <;> omega
theorem pick_back (xs : Array Value) : ((List.range xs.size).filterMap fun (m : Nat) => xs[(((xs.size : Int) - 1) + (m : Int) * (-1)).toNat]?).toArray = xs.toList.reverse.toArray := by
  congr 1
  have e : ∀ m ∈ List.range xs.size, xs[(((xs.size : Int) - 1) + (m : Int) * (-1)).toNat]? = xs.toList.reverse[m]? := fun m hm => by
    have hm := List.mem_range.mp hm
    have e1 : (((xs.size : Int) - 1) + (m : Int) * (-1)).toNat = xs.size - 1 - m := by omega
    rw [e1, List.getElem?_reverse (by simpa using hm)]
    simp
  rw [fmap_cg e]
  have hl : xs.size = xs.toList.reverse.length := by simp
  rw [hl]
  generalize xs.toList.reverse = l
  induction l with
  | nil => rfl
  | cons a r ih =>
    rw [List.length_cons, List.range_succ_eq_map, List.filterMap_cons]
    simp only [List.getElem?_cons_zero, List.filterMap_map]
    congr 1
theorem sliceApplied_back {sl : Addr} {vl vu vs : Value} {n : Nat} {Q : Int × Int × Nat → Shared → Prop} (hs : s.heap.IsSliceOf sl vl vu vs) (pl : IsPart vl none) (pu : IsPart vu none) (ps : IsPart vs (some (-1)))
    (h : Q ((n : Int) - 1, -1, n) s) : wpAny (model prog w) A (Builtin.Slice.sliceApplied (.ref sl) (pure (n : Int))) Q E s := by
  obtain ⟨os, hos, hcs, hds⟩ := id hs
  unfold Builtin.Slice.sliceApplied Builtin.Slice.sliceFields
  refine wpAny_bind (wpAny_bind (wpAny_field hos hds (x := vl) rfl (wpAny_bind (wpAny_field hos hds (x := vu) rfl (wpAny_bind (wpAny_field hos hds (x := vs) rfl (wpAny_pure ?_)))))))
  refine wpAny_bind (HT.slicePart_ ps ?_)
  show wpAny _ _ (if ((-1 : Int) == 0) = true then _ else _) _ _ s
  rw [if_neg (by decide)]
  refine wpAny_bind (HT.slicePart_ pl (wpAny_bind (HT.slicePart_ pu (wpAny_bind (wpAny_pure ?_)))))
  show wpAny _ _ (pure ((n : Int) - 1, (-1 : Int), Builtin.Slice.slicePlaces ((n : Int) - 1) (-1) (-1))) _ _ s
  rw [places_back]
  exact wpAny_pure h
theorem getItem_tuple_back {t sl : Addr} {items : Array Value} {vl vu vs : Value} {Q : Value → Shared → Prop} (ht : IsTup s.heap t items) (hs : s.heap.IsSliceOf sl vl vu vs) (pl : IsPart vl none) (pu : IsPart vu none) (ps : IsPart vs (some (-1)))
    (h : Q (.ref s.heap.objs.size) { s with heap := s.heap.push { cls := .type "tuple", data := .seq items.toList.reverse.toArray } })
    (hsz : items.size ≤ sizeLine) : wpAny (model prog w) A (getItem (.ref t) (.ref sl)) Q E s := by
  have htake : sizeOk (.seq items.toList.reverse.toArray) := by
    show items.toList.reverse.toArray.size ≤ sizeLine
    simpa using hsz
  obtain ⟨os, hos, hcs, hds⟩ := id hs
  have hTs : s.TypeIs (.ref sl) "slice" := ⟨os, hos, hcs⟩
  unfold getItem
  try with_reducible refine wpAny_holding ?_
  first | refine wpAny_bind (wpAny_pure ?_) | skip
  refine wpAny_bind (wpAny_sequenceKey ht.typeIs (by decide) ?_)
  refine wpAny_bind (wpAny_callSpecial?_slot (name := Str.ofString "__getitem__") ht.typeIs PyProof.Rows.slot_tuple_getitem
    (wpAny_call_entry PyProof.Rows.slot_tuple_getitem ht.typeIs entry_tuple_getitem ?_ (args_tuple_getitem _ _)))
  show wpAny _ _ (Builtin.Tuple.tupleItemsOf (.ref t) >>= _) _ _ s
  refine wpAny_bind (tupleItemsOf_ ht ?_)
  refine wpAny_bind (wpAny_typeOf hTs ?_)
  rw [if_pos (by decide)]
  refine wpAny_bind (sliceApplied_back hs pl pu ps ?_)
  show wpAny _ _ (if (((items.size : Int) - 1) == 0 && (-1 : Int) == 1 && items.size == items.size) = true then _ else _) _ _ s
  have hno : ¬ ((((items.size : Int) - 1) == 0 && (-1 : Int) == 1 && items.size == items.size) = true) := by
    intro q
    rw [Bool.and_eq_true, Bool.and_eq_true] at q
    exact absurd q.1.2 (by decide)
  rw [if_neg hno, pick_back]
  exact wpAny_bind (m := Builtin.Tuple.tupleExact _) (wpAny_newObj_type (wpAny_pure ⟨_, rfl, wpAny_pure h⟩) htake)
end
section
variable {G : Gm} {rho : Rm} {H : Hp}
theorem Dens.reverse : ∀ {ds : List D} {vs : List V}, Dens G rho H ds vs → Dens G rho H ds.reverse vs.reverse
  | [], vs, h => by rw [Dens] at h; subst h; rfl
  | d :: ds, vs, h => by
    rw [Dens] at h
    obtain ⟨v, r, rfl, a, b⟩ := h
    rw [List.reverse_cons, List.reverse_cons]
    exact (Dens.reverse b).append ⟨v, [], rfl, a, rfl⟩
end
def tRevT (K : PySem.W.Frag) (te : TE) : TE := fun σ H Q => te σ H fun x H1 => ∃ a xs, x = .ref a ∧ SqT K H1 a xs ∧ NewT H1 xs.reverse Q
theorem pe_revT {X : Cx} {e : Expr} {te : TE} {k : Nat} {p1 p2 p3 pos : Pos} (he : PE X e te) : PE X (.Subscript e (.Slice none none (some (.UnaryOp .USub (.Constant (.int 1) k p1) p2)) p3) pos) (tRevT X.K te) := by
  refine ⟨fun pins s σ H Q I h => ?_⟩
  refine Subscript_ (thn (he.run pins s σ H _ I h) fun v s1 ⟨x, H1, I1, r1, q1⟩ => ?_)
  obtain ⟨a, xs, ex, hx, q⟩ := q1
  subst ex
  cases r1
  have hst : PO X (some (.UnaryOp .USub (.Constant (.int 1) k p1) p2)) (tPart (tUn (rU fun i => .int (-i)) (tC (.int 1)))) := po_some (pe_un un_neg pe_int)
  refine wpAny_Slice (thn (po_none.run pins s1 σ H1 (fun o H2 => o = none ∧ H2 = H1) I1 ⟨rfl, rfl⟩) fun vl s2 ⟨l, H2, I2, pl, el, e2⟩ => ?_)
  subst el e2
  refine thn (po_none.run pins s2 σ H2 (fun o H3 => o = none ∧ H3 = H2) I2 ⟨rfl, rfl⟩) fun vu s3 ⟨u, H3, I3, pu, eu, e3⟩ => ?_
  subst eu e3
  refine thn (hst.run pins s3 σ H3 (fun o H4 => o = some (-1) ∧ H4 = H3) I3 ⟨1, rfl, -1, rfl, rfl, rfl⟩) fun vs s4 ⟨o, H4, I4, ps, eo, e4⟩ => ?_
  subst eo e4
  have I5 : Inv X pins σ H4 { s4 with heap := s4.heap.push { cls := .type "slice", data := .fields #[vl, vu, vs] } } := I4.kept (t' := s4.toks) fun b ob q => Heap.get?_push_of_some _ q
  obtain ⟨its, r, ht, hz⟩ := I5.tuple hx
  have hlen := r.length
  show wpAny (model X.prog X.w) X.A (subscriptTail e (.Slice none none (some (.UnaryOp .USub (.Constant (.int 1) k p1) p2)) p3) (.ref a) (.ref s4.heap.objs.size)) (EP X pins σ Q) X.xe { s4 with heap := s4.heap.push { cls := .type "slice", data := .fields #[vl, vu, vs] } }
  refine tail_any (ops := [.ref a, .ref s4.heap.objs.size]) ht.typeIs PyProof.Rows.slot_tuple_getitem.lookup ?_ (by with_unfolding_all rfl)
  refine getItem_tuple_back ht (Heap.IsSliceOf.new _ vl vu vs) pl pu ps ?_ (by rw [List.size_toArray]; omega)
  exact inv_newT I5 r.reverse (by rw [List.length_reverse]; exact hz) q
def revT (d : D) (_ : Hh) : Option D := match d with | .tup xs => some (.tup xs.reverse) | _ => none
def revL (d : D) (h : Hh) : Option D := match d with | .tup _ => none | d => (seqL d h).map fun xs => .lst xs.reverse
theorem rev_or (m : ME) (env : DEnv) (h : Hh) : eRev m env h = ((m env h).bind fun d h1 => lift (revT d h1) h1) ∨ eRev m env h = ((m env h).bind fun d h1 => lift (revL d h1) h1) := by
  unfold eRev
  cases e : m env h with
  | ok d h1 =>
    rw [bind_ok, bind_ok, bind_ok]
    cases d with
    | tup xs => left; rfl
    | _ => right; rfl
  | err x h1 => left; rfl
  | stuck => left; rfl
theorem de_rev {X : Cx} {e : Expr} {m : ME} {k : Nat} {p1 p2 p3 pos : Pos} (he : DE X e m) : DE X (.Subscript e (.Slice none none (some (.UnaryOp .USub (.Constant (.int 1) k p1) p2)) p3) pos) (eRev m) := by
  refine de_either (m1 := fun env h => (m env h).bind fun d h1 => lift (revT d h1) h1) (m2 := fun env h => (m env h).bind fun d h1 => lift (revL d h1) h1) ⟨fun W tk => pe_weak (pe_revT (he.run W tk)) fun σ H Q q => ?_⟩ ⟨fun W tk => pe_weak (pe_revL (he.run W tk)) fun σ H Q q => ?_⟩ (rev_or m)
  · refine tE_of (f := fun env d h1 => lift (revT d h1) h1) q fun rho env hh H1 d v R E qd p => ?_
    obtain ⟨a, e, p⟩ := lift_post p
    unfold revT at e
    split at e
    · cases e
      rw [Den] at qd
      obtain ⟨a, vs, rfl, hs, l, z⟩ := qd
      exact ⟨a, vs, rfl, hs.t, fun pp o hp ho => p rho _ _ (.laid hp) (R.laid hp) (Den.tup_new ho R z.reverse (by rw [List.length_reverse]; exact l) hp)⟩
    · cases e
  · refine tE_of (f := fun env d h1 => lift (revL d h1) h1) q fun rho env hh H1 d v R E qd p => ?_
    obtain ⟨a, e, p⟩ := lift_post p
    unfold revL at e
    split at e
    · cases e
    · obtain ⟨xs, e1, rfl⟩ := Option.map_eq_some_iff.mp e
      obtain ⟨a, vs, rfl, hs, l, z⟩ := seqL_of R qd e1
      exact ⟨a, vs, rfl, SqL.of hs, fun pp hp => p rho _ _ (.laid hp) (R.laid hp) (den_lst_new R z.reverse (by rw [List.length_reverse]; exact l) hp)⟩
def k_rev : D → Hh → Res D := fun d h1 => lift (revO d h1) h1
@[simp] theorem ev_rev (m : ME) (env : DEnv) (h : Hh) : eRev m env h = (m env h).bind k_rev := rfl
@[simp] theorem ev_k_revT (xs : List D) (h : Hh) : k_rev (.tup xs) h = .ok (.tup xs.reverse) h := rfl
@[simp] theorem ev_k_revL (xs : List D) (h : Hh) : k_rev (.lst xs) h = .ok (.lst xs.reverse) h := rfl
end MR

namespace MR
open PySem PySem.Spec PyProof.Rows L2

@[simp] theorem ev_gins (i : Int) (e : D) (xs : List D) : g_ins i e xs = if xs.length < 16777216 ∧ 0 ≤ i ∧ i < 1000000000 then some (.non, xs.take i.toNat ++ [e] ++ xs.drop i.toNat) else none := by rw [← sizeLine_eq]; rfl
abbrev PL : List Str := ["out", "reads", "rising", "writes", "raised"]
end MR

namespace MR
open PySem PySem.Spec PyProof.Rows L2

/-- the pairs of a list -/
def prsOf : List D → Option (List (Key × D))
  | [] => some []
  | .tup [a, b] :: r => match keyD a, prsOf r with
    | some k, some ks => some ((k, b) :: ks)
    | _, _ => none
  | _ :: _ => none
section
variable {G : Gm} {rho : Rm} {H : Hp} {hh : Hh}
theorem prsOf_of : ∀ {ds : List D} {vs : List V} {kvs : List (Key × D)}, Dens G rho H ds vs → prsOf ds = some kvs → ∃ (ps : List Addr) (ws : List (Key × V)), vs = ps.map V.ref ∧ Paired (fun p kv => SqT G.K H p [kV kv.1, kv.2]) ps ws ∧ KD G rho H kvs ws
  | [], vs, kvs, q, e => by
    rw [Dens] at q; subst q
    cases e
    exact ⟨[], [], rfl, .nil, .nil⟩
  | d :: ds, vs, kvs, q, e => by
    rw [Dens] at q
    obtain ⟨v, r, rfl, a, b⟩ := q
    unfold prsOf at e
    split at e
    · rename_i z; cases z
    · rename_i x y r' z
      cases z
      split at e
      · rename_i k ks e1 e2
        cases e
        obtain ⟨ps, ws, rfl, hp, hk⟩ := prsOf_of b e2
        rw [Den] at a
        obtain ⟨p, us, rfl, hs, l, zz⟩ := a
        obtain ⟨u1, u2, rfl, h1, h2⟩ := dens_two zz
        have := keyD_of e1 h1
        subst this
        exact ⟨p :: ps, (k, u2) :: ws, rfl, .cons hs.t hp, .cons ⟨rfl, h2⟩ hk⟩
      · cases e
    · cases e
end
def eDictOf (m : ME) : ME := fun env h => (m env h).bind fun d h1 => match (seqL d h1).bind prsOf with
  | some kvs => .ok (.ref h1.length) (h1 ++ [.dK (mergeG [] kvs)])
  | none => .stuck
section
variable {X : Cx} {e : Expr} {m : ME} {pos p : Pos} {x : Str}
theorem de_dictOf (hc : X.calm = true) (hg : Gl X x) (hm : X.mg x = none) (hv : bootBuiltins x = some (.type "dict")) (ha : DE X e m)
    (hn : x ≠ "__name__" := by decide) (hdb : (x == ("__debug__" : Str)) = false := by decide) (he : starEach [e] X.env = (false, eval e X.env) :: starEach [] X.env := by rfl) (hpl : (backTo pos (starEach [] X.env)).any (·.1) = false := by rfl) :
    DE X (.Call (.Name x p) [e] [] pos) (eDictOf m) :=
  ⟨fun W tk => pe_weak (pe_callTy (call_dictP hc) hg hm hv ((da_cons ha da_nil he).run W tk) hn hdb he hpl) fun σ H Q hq => by
    obtain ⟨rho, env, hh, R, E, p⟩ := hq
    refine ⟨rho, env, hh, R, E, ?_⟩
    unfold eDictOf at p
    unfold aCons aNil
    cases e1 : m env hh with
    | stuck => rw [e1] at p; exact p
    | err z h1 => rw [e1] at p; exact p
    | ok d h1 =>
      rw [e1, bind_ok] at p
      rw [bind_ok, bind_ok]
      intro rho1 H1 vs S1 R1 q1
      obtain ⟨v, rfl, qv⟩ := dens_one q1
      cases e2 : (seqL d h1).bind prsOf with
      | none => rw [e2] at p; exact p.elim
      | some kvs =>
        rw [e2] at p
        obtain ⟨ds, e3, e4⟩ := Option.bind_eq_some_iff.mp e2
        obtain ⟨a, us, rfl, hs, l, z⟩ := seqL_of R1 qv e3
        obtain ⟨ps, ws, rfl, hp, hk⟩ := prsOf_of z e4
        refine ⟨a, ps, ws, rfl, SqL.of hs, hp, fun pp hpp => ?_⟩
        obtain ⟨S0, R0, na⟩ := new_held (o := .dK (mergeK [] ws)) R1 hpp
        have hlen : (mergeK [] ws).length ≤ sizeLine := by
          have a1 := length_mergeK ws []
          have a2 := Paired.length hp
          rw [List.length_nil] at a1
          rw [List.length_map] at l
          omega
        have hk2 : KD (Cx.gm X) (rho1.hold pp) (upd H1 pp (.dK (mergeK [] ws))) kvs ws := KD.step R1 S0 hk
        refine p _ _ _ (S1.trans (S0.turn hpp)) (R0.turn List.mem_cons_self na ⟨_, upd_same, hlen, hk2.merge .nil⟩) ?_
        rw [Den]
        exact ⟨pp, by rw [← R1.len]; show (rho1.at_ ++ [pp])[_]? = _; rw [List.getElem?_append_right (Nat.le_refl _)]; simp, rfl⟩⟩
end

/-- what a dict holds -/
def dictOf (d : D) (h : Hh) : Option (List (Key × D)) := match d with
  | .ref i => match h[i]? with
    | some (.dK kvs) => some kvs
    | _ => none
  | _ => none
def getO (d k : D) (h : Hh) : Option (Option D) := match dictOf d h, keyD k with
  | some kvs, some key => some (getG kvs key)
  | _, _ => none
def eDGet1 (md mk : ME) : ME := fun env h => (md env h).bind fun d h1 => if (dictOf d h1).isSome = true then (mk env h1).bind fun k h2 => lift ((getO d k h2).map fun (o : Option D) => o.getD D.non) h2 else .stuck
theorem dictOf_of {G : Gm} {rho : Rm} {H : Hp} {hh : Hh} {d : D} {v : V} {kvs : List (Key × D)} (R : Rep G rho hh H) (q : Den G rho H d v) (e : dictOf d hh = some kvs) : ∃ a ws, v = .ref a ∧ H a = some (.dK ws) ∧ KD G rho H kvs ws := by
  unfold dictOf at e
  split at e
  · rename_i i
    split at e
    · rename_i kvs' e1
      cases e
      rw [Den] at q
      obtain ⟨a, e2, rfl⟩ := q
      obtain ⟨ws, e3, l, z⟩ := R.ob i a _ e2 e1
      exact ⟨a, ws, rfl, e3, z⟩
    · cases e
  · cases e
def OptD (G : Gm) (rho : Rm) (H : Hp) : Option D → Option V → Prop
  | some d, some v => Den G rho H d v
  | none, none => True
  | _, _ => False
theorem getO_of {G : Gm} {rho : Rm} {H : Hp} {hh : Hh} {d k : D} {a : Addr} {u : V} {o : Option D} (R : Rep G rho hh H) (q : Den G rho H d (.ref a)) (qk : Den G rho H k u) (e : getO d k hh = some o) :
    ∃ w : Option V, DGet H a u w ∧ OptD G rho H o w := by
  unfold getO at e
  split at e
  · rename_i kvs key e1 e2
    cases e
    obtain ⟨b, ws, eb, hb, z⟩ := dictOf_of R q e1
    cases eb
    have := keyD_of e2 qk
    subst this
    refine ⟨valV ws key, .k hb, ?_⟩
    cases g : getG kvs key with
    | none => rw [KD.none z g]; trivial
    | some d =>
      obtain ⟨v, e3, e4⟩ := KD.get z g
      rw [e3]; exact e4
  · cases e
section
variable {X : Cx} {o e f : Expr} {apos cpos : Pos} {md mk mx : ME}
theorem isD_of {G : Gm} {rho : Rm} {H : Hp} {hh : Hh} {d : D} {v : V} (R : Rep G rho hh H) (q : Den G rho H d v) (h : (dictOf d hh).isSome = true) : ∃ a, v = .ref a ∧ IsD H a := by
  obtain ⟨kvs, e⟩ := Option.isSome_iff_exists.mp h
  obtain ⟨a, ws, rfl, hb, _⟩ := dictOf_of R q e
  exact ⟨a, rfl, .inl ⟨ws, .inl hb⟩⟩
theorem de_dget1 (hu : X.A.units + 1 < cLine) (ho : DE X o md) (he : DE X e mk) (m : M1 X o "get" apos e cpos) : DE X (.Call (.Attribute o "get" apos) [e] [] cpos) (eDGet1 md mk) :=
  ⟨fun W tk => pe_weak (pe_dget1 hu (ho.run W tk) (he.run W tk) m) fun σ H Q q => by
    refine tE_of (f := fun env d h1 => if (dictOf d h1).isSome = true then (mk env h1).bind fun k h2 => lift ((getO d k h2).map fun (o : Option D) => o.getD D.non) h2 else .stuck) q fun rho env hh H1 d v R E qd p => ?_
    split at p
    · rename_i hd
      obtain ⟨a, rfl, ha⟩ := isD_of R qd hd
      refine ⟨a, rfl, ha, ?_⟩
      refine tE2_of (f := fun env d k h2 => lift ((getO d k h2).map fun (o : Option D) => o.getD D.non) h2) ⟨rho, env, hh, R, E, qd, p⟩ fun rho env hh H2 k u R E qd qk p => ?_
      obtain ⟨z, ez, p⟩ := lift_post p
      obtain ⟨oo, eo, rfl⟩ := Option.map_eq_some_iff.mp ez
      obtain ⟨w, g, hw⟩ := getO_of R qd qk eo
      refine ⟨w, g, p.val R ?_⟩
      cases oo with
      | none =>
        cases w with
        | none => rfl
        | some v => exact hw.elim
      | some d =>
        cases w with
        | none => exact hw.elim
        | some v => exact hw
    · exact p.elim⟩
def eDGet2 (md mk mx : ME) : ME := fun env h => (md env h).bind fun d h1 => if (dictOf d h1).isSome = true then (mk env h1).bind fun k h2 => (mx env h2).bind fun x h3 => lift ((getO d k h3).map fun (o : Option D) => o.getD x) h3 else .stuck
theorem de_dget2 (hu : X.A.units + 1 < cLine) (ho : DE X o md) (he : DE X e mk) (hf : DE X f mx) (m : M2 X o "get" apos e f cpos) : DE X (.Call (.Attribute o "get" apos) [e, f] [] cpos) (eDGet2 md mk mx) :=
  ⟨fun W tk => pe_weak (pe_dget2 hu (ho.run W tk) (he.run W tk) (hf.run W tk) m) fun σ H Q q => by
    refine tE_of (f := fun env d h1 => if (dictOf d h1).isSome = true then (mk env h1).bind fun k h2 => (mx env h2).bind fun x h3 => lift ((getO d k h3).map fun (o : Option D) => o.getD x) h3 else .stuck) q fun rho env hh H1 d v R E qd p => ?_
    split at p
    · rename_i hd
      obtain ⟨a, rfl, ha⟩ := isD_of R qd hd
      refine ⟨a, rfl, ha, ?_⟩
      refine tE2_of (f := fun env d k h2 => (mx env h2).bind fun x h3 => lift ((getO d k h3).map fun (o : Option D) => o.getD x) h3) ⟨rho, env, hh, R, E, qd, p⟩ fun rho env hh H2 k u R E qd qk p => ?_
      have h3 := At.seq3 (m := mx) (f := fun env d k x h3 => lift ((getO d k h3).map fun (o : Option D) => o.getD x) h3) ⟨rho, env, hh, d, k, R, E, qd, qk, p⟩
      obtain ⟨rho3, env3, hh3, R3, E3, p3⟩ := h3
      refine ⟨rho3, env3, hh3, R3, E3, ?_⟩
      cases e3 : mx env3 hh3 with
      | stuck => rw [e3] at p3; exact p3
      | err y h1 => rw [e3] at p3; exact p3
      | ok y h1 =>
        rw [e3] at p3
        intro rho4 H4 vy S4 R4 q4
        obtain ⟨rho5, env5, hh5, d5, k5, y5, R5, E5, qd5, qk5, qy5, p5⟩ := p3 rho4 H4 vy S4 R4 q4
        obtain ⟨z, ez, p6⟩ := lift_post p5
        obtain ⟨oo, eo, rfl⟩ := Option.map_eq_some_iff.mp ez
        obtain ⟨w, g, hw⟩ := getO_of R5 qd5 qk5 eo
        refine ⟨w, g, p6.val R5 ?_⟩
        cases oo with
        | none =>
          cases w with
          | none => exact qy5
          | some v => exact hw.elim
        | some d =>
          cases w with
          | none => exact hw.elim
          | some v => exact hw
    · exact p.elim⟩
end
def k_dof : D → Hh → Res D := fun d h1 => match (seqL d h1).bind prsOf with
  | some kvs => .ok (.ref h1.length) (h1 ++ [.dK (mergeG [] kvs)])
  | none => .stuck
def k_dof' (h1 : Hh) (o : Option (List (Key × D))) : Res D := match o with
  | some kvs => .ok (.ref h1.length) (h1 ++ [.dK (mergeG [] kvs)])
  | none => .stuck
@[simp] theorem ev_dictOf (m : ME) (env : DEnv) (h : Hh) : eDictOf m env h = (m env h).bind k_dof := rfl
@[simp] theorem ev_k_dof (xs : List D) (h : Hh) : k_dof (.lst xs) h = k_dof' h (prsOf xs) := rfl
@[simp] theorem ev_k_dof' (kvs : List (Key × D)) (h : Hh) : k_dof' h (some kvs) = .ok (.ref h.length) (h ++ [.dK (mergeG [] kvs)]) := rfl
def k_g1 (mk : ME) (env : DEnv) : D → Hh → Res D := fun d h1 => if (dictOf d h1).isSome = true then (mk env h1).bind fun k h2 => lift ((getO d k h2).map fun (o : Option D) => o.getD D.non) h2 else .stuck
def k_g1' (mk : ME) (env : DEnv) (d : D) (h1 : Hh) (o : Option (List (Key × D))) : Res D := if o.isSome = true then (mk env h1).bind fun k h2 => lift ((getO d k h2).map fun (o : Option D) => o.getD D.non) h2 else .stuck
def k_g1'' (d : D) : D → Hh → Res D := fun k h2 => lift ((getO d k h2).map fun (o : Option D) => o.getD D.non) h2
@[simp] theorem ev_dget1 (md mk : ME) (env : DEnv) (h : Hh) : eDGet1 md mk env h = (md env h).bind (k_g1 mk env) := rfl
@[simp] theorem ev_k_g1 (mk : ME) (env : DEnv) (d : D) (h : Hh) : k_g1 mk env d h = k_g1' mk env d h (dictOf d h) := rfl
@[simp] theorem ev_k_g1' (mk : ME) (env : DEnv) (d : D) (h : Hh) (kvs : List (Key × D)) : k_g1' mk env d h (some kvs) = (mk env h).bind (k_g1'' d) := rfl
@[simp] theorem ev_k_g1'' (d k : D) (h : Hh) : k_g1'' d k h = lift ((getO d k h).map fun (o : Option D) => o.getD D.non) h := rfl
def k_h1 (mk mx : ME) (env : DEnv) : D → Hh → Res D := fun d h1 => if (dictOf d h1).isSome = true then (mk env h1).bind fun k h2 => (mx env h2).bind fun x h3 => lift ((getO d k h3).map fun (o : Option D) => o.getD x) h3 else .stuck
def k_h1' (mk mx : ME) (env : DEnv) (d : D) (h1 : Hh) (o : Option (List (Key × D))) : Res D := if o.isSome = true then (mk env h1).bind fun k h2 => (mx env h2).bind fun x h3 => lift ((getO d k h3).map fun (o : Option D) => o.getD x) h3 else .stuck
def k_h2 (mx : ME) (env : DEnv) (d : D) : D → Hh → Res D := fun k h2 => (mx env h2).bind fun x h3 => lift ((getO d k h3).map fun (o : Option D) => o.getD x) h3
def k_h3 (d k : D) : D → Hh → Res D := fun x h3 => lift ((getO d k h3).map fun (o : Option D) => o.getD x) h3
@[simp] theorem ev_dget2 (md mk mx : ME) (env : DEnv) (h : Hh) : eDGet2 md mk mx env h = (md env h).bind (k_h1 mk mx env) := rfl
@[simp] theorem ev_k_h1 (mk mx : ME) (env : DEnv) (d : D) (h : Hh) : k_h1 mk mx env d h = k_h1' mk mx env d h (dictOf d h) := rfl
@[simp] theorem ev_k_h1' (mk mx : ME) (env : DEnv) (d : D) (h : Hh) (kvs : List (Key × D)) : k_h1' mk mx env d h (some kvs) = (mk env h).bind (k_h2 mx env d) := rfl
@[simp] theorem ev_k_h2 (mx : ME) (env : DEnv) (d k : D) (h : Hh) : k_h2 mx env d k h = (mx env h).bind (k_h3 d k) := rfl
@[simp] theorem ev_k_h3 (d k x : D) (h : Hh) : k_h3 d k x h = lift ((getO d k h).map fun (o : Option D) => o.getD x) h := rfl
def refDict (o : Option O) : Option (List (Key × D)) := match o with | some (.dK kvs) => some kvs | _ => none
@[simp] theorem ev_dictR (i : Nat) (h : Hh) : dictOf (.ref i) h = refDict h[i]? := by
  show (match h[i]? with | some (.dK kvs) => some kvs | _ => none : Option (List (Key × D))) = _
  cases h[i]? with
  | none => rfl
  | some o => cases o <;> rfl
@[simp] theorem ev_refDict (kvs : List (Key × D)) : refDict (some (.dK kvs)) = some kvs := rfl
def getO' (o : Option (List (Key × D))) (k : Option Key) : Option (Option D) := match o, k with
  | some kvs, some key => some (getG kvs key)
  | _, _ => none
@[simp] theorem ev_getO (d k : D) (h : Hh) : getO d k h = getO' (dictOf d h) (keyD k) := rfl
@[simp] theorem ev_getO' (kvs : List (Key × D)) (k : Key) : getO' (some kvs) (some k) = some (getG kvs k) := rfl
@[simp] theorem ev_keyI (i : Int) : keyD (.int i) = some (.inl i) := rfl
@[simp] theorem ev_keyS (x : Str) : keyD (.str x) = some (.inr x) := rfl
end MR

namespace MR
open PySem PySem.Spec PyProof.Rows L2

/-- one that waits -/
structure En where
  g : Nat
  w : Str
  no : Nat
  lt : Option Nat
def ltD (o : Option Nat) : D := match o with | some r => .int r | none => .non
def En.d (e : En) : D := .tup [.int e.g, .str e.w, .int e.no, ltD e.lt]
structure RoomOk (n : Nat) (ws : List Str) (es : List En) : Prop where
  len : ws.length = n
  pl : ∀ w ∈ ws, w ∈ PL
  gs : ∀ e ∈ es, e.g < n
  out : ∀ e ∈ es, ws[e.g]? = some ("out" : Str)
  rw : ∀ e ∈ es, e.w = "read" ∨ e.w = "write"
  lt : ∀ e ∈ es, ∀ r, e.lt = some r → 1 ≤ r
  nd : (es.map En.g).Nodup
end MR

namespace MR
open PySem PySem.Spec PyProof.Rows L2

def rgOf (d : D) : Option (List D) := match d with
  | .int n => if -1000000 ≤ n ∧ n ≤ 1000000 then some (rangeD 0 n) else none
  | _ => none
def aRg (m : ME) : MA := fun env h => (m env h).bind fun d h1 => lift (rgOf d) h1
theorem dens_rg {G : Gm} {rho : Rm} {H : Hp} (a b : Int) : Dens G rho H (rangeD a b) (rgV a b) := by
  unfold rangeD rgV
  generalize List.range (b - a).toNat = l
  induction l with
  | nil => rfl
  | cons x l ih => exact ⟨_, _, rfl, rfl, ih⟩
section
variable {X : Cx} {e : Expr} {m : ME} {pos p pos2 p2 : Pos}
theorem dl_listRg (hc : X.calm = true) (hg : Gl X "list") (hm : X.mg "list" = none) (hg2 : Gl X "range") (hm2 : X.mg "range" = none) (ha : DE X e m)
    (na : starEach [e] X.env = (false, eval e X.env) :: starEach [] X.env := by rfl) (nb : starEach [.Call (.Name "range" p2) [e] [] pos2] X.env = (false, eval (.Call (.Name "range" p2) [e] [] pos2) X.env) :: starEach [] X.env := by rfl) :
    DL X (.Call (.Name "list" p) [.Call (.Name "range" p2) [e] [] pos2] [] pos) (aRg m) :=
  ⟨fun W tk => pe_weak (pe_listRg hc hg hm (prg_1 hg2 hm2 (ha.run W tk) na) nb) fun σ H Q hq => by
    obtain ⟨rho, env, hh, R, E, p⟩ := hq
    refine ⟨rho, env, hh, R, E, ?_⟩
    unfold aRg at p
    cases e1 : m env hh with
    | stuck => rw [e1] at p; exact p
    | err z h1 => rw [e1] at p; exact p
    | ok d h1 =>
      rw [e1, bind_ok] at p
      intro rho1 H1 v S1 R1 q1
      unfold rgOf at p
      split at p
      · rename_i ds hh' e2
        split at e2
        · rename_i n
          split at e2
          · rename_i hc
            unfold lift at e2
            cases e2
            refine ⟨n, q1, ⟨by omega, by omega, by omega, by omega, by omega⟩, fun pp hp => ?_⟩
            obtain ⟨a, b, c, d⟩ := new_list S1 R1 (dens_rg 0 n) hp
            exact p _ _ pp _ a b upd_same List.mem_cons_self c (S1.back hp) (by rw [rgV_length, sizeLine_eq]; omega) d
          · cases e2
        · cases e2
      · rename_i z hh' e2
        split at e2
        · split at e2 <;> cases e2
        · cases e2
      · exact p.elim⟩
end
def k_rg : D → Hh → Res (List D) := fun d h1 => lift (rgOf d) h1
@[simp] theorem ev_aRg (m : ME) (env : DEnv) (h : Hh) : aRg m env h = (m env h).bind k_rg := rfl
@[simp] theorem ev_k_rg (n : Int) (h : Hh) : k_rg (.int n) h = lift (if -1000000 ≤ n ∧ n ≤ 1000000 then some (rangeD 0 n) else none) h := rfl

def intsOf : List D → Option (List Int)
  | [] => some []
  | .int i :: r => (intsOf r).map (i :: ·)
  | _ :: _ => none
def maxI : List Int → Int → Int
  | [], m => m
  | x :: xs, m => maxI xs (if x > m then x else m)
def maxLO : OpN := fun ds h => match ds with
  | [d] => ((seqL d h).bind intsOf).bind fun ns => match ns with
    | n :: r => some (.int (maxI r n))
    | [] => none
  | _ => none
def sumLO : OpN := fun ds h => match ds with
  | [d] => ((seqL d h).bind intsOf).map fun ns => .int ns.sum
  | _ => none
@[simp] theorem ev_intsOf0 : intsOf [] = some [] := rfl
@[simp] theorem ev_intsOf (i : Int) (r : List D) : intsOf (.int i :: r) = (intsOf r).map (i :: ·) := rfl
def maxOf : Option (List Int) → Option D := fun o => o.bind fun ns => match ns with
  | n :: r => some (.int (maxI r n))
  | [] => none
@[simp] theorem ev_maxL (xs : List D) (h : Hh) : maxLO [.lst xs] h = maxOf (intsOf xs) := rfl
@[simp] theorem ev_maxOf (n : Int) (r : List Int) : maxOf (some (n :: r)) = some (.int (maxI r n)) := rfl
@[simp] theorem ev_sumL (xs : List D) (h : Hh) : sumLO [.lst xs] h = (intsOf xs).map fun ns => .int ns.sum := rfl

def updO : OpM := fun d ds h => match ds with
  | [e] => match d, dictOf d h, dictOf e h with
    | .ref i, some kvs, some more => (match e with
      | .ref j => if i ≠ j ∧ kvs.length + more.length ≤ 16777216 then some (.non, h.set i (.dK (mergeG kvs more))) else none
      | _ => none)
    | _, _, _ => none
  | _ => none
def isDk (d : D) (h : Hh) : Bool := (dictOf d h).isSome
@[simp] theorem ev_isDk (d : D) (h : Hh) : isDk d h = (dictOf d h).isSome := rfl
def updR (i j : Nat) (h : Hh) (o o' : Option (List (Key × D))) : Option (D × Hh) := match o, o' with
  | some kvs, some more => if i ≠ j ∧ kvs.length + more.length ≤ 16777216 then some (.non, h.set i (.dK (mergeG kvs more))) else none
  | _, _ => none
@[simp] theorem ev_upd (i j : Nat) (h : Hh) : updO (.ref i) [.ref j] h = updR i j h (refDict h[i]?) (refDict h[j]?) := by
  rw [← ev_dictR, ← ev_dictR]
  show (match D.ref i, dictOf (.ref i) h, dictOf (.ref j) h with
    | .ref i, some kvs, some more => (if i ≠ j ∧ kvs.length + more.length ≤ 16777216 then some (D.non, h.set i (.dK (mergeG kvs more))) else none)
    | _, _, _ => none) = _
  cases dictOf (.ref i) h <;> cases dictOf (.ref j) h <;> rfl
@[simp] theorem ev_updR (i j : Nat) (h : Hh) (kvs more : List (Key × D)) : updR i j h (some kvs) (some more) = if i ≠ j ∧ kvs.length + more.length ≤ 16777216 then some (.non, h.set i (.dK (mergeG kvs more))) else none := rfl
end MR

namespace MR
open PySem PySem.Spec PyProof.Rows L2

theorem nodup_len : ∀ (n : Nat) (l : List Nat), l.Nodup → (∀ x ∈ l, x < n) → l.length ≤ n
  | 0, l, _, h => by
    cases l with
    | nil => exact Nat.le_refl _
    | cons x xs => exact absurd (h x List.mem_cons_self) (Nat.not_lt_zero _)
  | n + 1, l, nd, h => by
    by_cases hm : n ∈ l
    · have h1 := nodup_len n (l.erase n) (nd.erase n) fun x hx => by
        have h2 := (List.Nodup.mem_erase_iff nd).mp hx
        have := h x h2.2
        omega
      rw [List.length_erase_of_mem hm] at h1
      omega
    · have h1 := nodup_len n l nd fun x hx => by
        have := h x hx
        have : x ≠ n := fun e => hm (by rw [← e]; exact hx)
        omega
      omega
theorem RoomOk.few {n : Nat} {ws : List Str} {es : List En} (R : RoomOk n ws es) : es.length ≤ n := by
  have := nodup_len n (es.map En.g) R.nd fun x m => by
    obtain ⟨e, he, rfl⟩ := List.mem_map.mp m
    exact R.gs e he
  simpa using this
theorem any_map {α : Type} (p : α → Bool) (xs : List α) : (xs.map p).any id = xs.any p := by
  induction xs with
  | nil => rfl
  | cons x xs ih => rw [List.map_cons, List.any_cons, List.any_cons, ih]; rfl
end MR

namespace MR
open PySem PySem.Spec PyProof.Rows L2

/-- d[k] = v -/
def setDO : OpS := fun o i d h => match o with
  | .ref j => match h[j]? with
    | some (.dK kvs) => match keyD i with
      | some k => if kvs.length < 16777216 then some (h.set j (.dK (putG kvs k d))) else none
      | none => none
    | _ => none
  | _ => none
theorem rz_setD {G : Gm} : RzS G rSetD setDO := fun rho hh H o i d vo vi v hh' Q R qo qi qd e k => by
  unfold setDO at e
  split at e
  · rename_i j
    split at e
    · rename_i kvs ex
      split at e
      · rename_i key e2
        split at e
        · rename_i hl
          cases e
          rw [Den] at qo
          obtain ⟨a, e3, rfl⟩ := qo
          obtain ⟨fvs, e4, l, z⟩ := R.ob j a _ e3 ex
          have hl2 : fvs.length < sizeLine := by rw [← Paired.length z, sizeLine_eq]; exact hl
          have S : Step rho H rho (upd H a (.dK (putK fvs key v))) := .put (List.mem_of_getElem? e3)
          have z2 : KD G rho H (putG kvs key d) (putK fvs key v) := KD.put z key qd
          refine ⟨a, _, rfl, ?_, k _ S (R.put e3 ⟨_, upd_same, ?_, Paired.mapP z2 fun p q r => ⟨r.1, Den.step R S _ _ r.2⟩⟩)⟩
          · have := DPut.k (v := v) (k := key) e4 hl2
            rw [keyD_of e2 qi]
            exact this
          · have := length_putK fvs key v
            omega
        · cases e
      · cases e
    · cases e
  · cases e
end MR

namespace MR
open PySem PySem.Spec PyProof.Rows L2
section
variable {X : Cx}
section
variable {CX : CXT} {k i : Nat} {f : Addr} {fd : FuncData} {ps : List Str} {sp : Sp} {E : L2.St → XK} {x : Str} {p pos : Pos} {e : Expr} {es : List Expr} {t : TA}
end
variable {k i : Nat} {f : Addr} {fd : FuncData} {ps : List Str} {F : MF} {x : Str} {p pos : Pos} {e : Expr} {es : List Expr} {ms : MA}
end
def cnRef {P : Program} {w : World} {K : PySem.W.Frag} {h : Heap} {mg : Str → Option Value} (X : K.In h) (G : h.Ns mainGlobals mg) {x : Str} {a : Addr} (e : PySem.W.nsIn K mainGlobals x = some (some (.ref a))) : Cn P w K mg x (.glb (.ref a)) :=
  ⟨.ref a, .ref a, PySem.W.mg_of X G e, rfl, fun _ _ => rfl⟩
end MR

namespace MR
open PySem PySem.Spec PyProof.Rows L2

def putA {α : Type} (f : Str) (d : α) : List (Str × α) → List (Str × α)
  | [] => [(f, d)]
  | (g, y) :: r => if g = f then (g, d) :: r else (g, y) :: putA f d r
section
variable {G : Gm} {rho : Rm} {H : Hp}
theorem Fields.put {f : Str} {d : D} {v : V} (q : Den G rho H d v) : ∀ {fs : List (Str × D)} {fvs : List (Str × V)}, Fields G rho H fs fvs → Fields G rho H (putA f d fs) (putF f v fvs)
  | _, _, .nil => .cons ⟨rfl, q⟩ .nil
  | _, _, .cons (a := (g, y)) (b := (g2, z)) r t => by
    obtain ⟨e, r2⟩ := r
    have e : g = g2 := e
    subst e
    unfold putA putF
    split
    · exact .cons ⟨rfl, q⟩ t
    · exact .cons ⟨rfl, r2⟩ (Fields.put q t)
theorem Fields.get {f : Str} {d : D} : ∀ {fs : List (Str × D)} {fvs : List (Str × V)}, Fields G rho H fs fvs → fs.lookup f = some d → ∃ v, fvs.lookup f = some v ∧ Den G rho H d v
  | _, _, .nil, e => by cases e
  | _, _, .cons (a := (g, y)) (b := (g2, z)) r t, e => by
    obtain ⟨e2, r2⟩ := r
    have e2 : g = g2 := e2
    subst e2
    rw [List.lookup_cons] at e ⊢
    cases h : f == g with
    | true => rw [h] at e; cases e; exact ⟨z, rfl, r2⟩
    | false => rw [h] at e; exact Fields.get t e
theorem Fields.no {f : Str} : ∀ {fs : List (Str × D)} {fvs : List (Str × V)}, Fields G rho H fs fvs → fs.lookup f = none → fvs.lookup f = none
  | _, _, .nil, _ => rfl
  | _, _, .cons (a := (g, y)) (b := (g2, z)) r t, e => by
    obtain ⟨e2, r2⟩ := r
    have e2 : g = g2 := e2
    subst e2
    rw [List.lookup_cons] at e ⊢
    cases h : f == g with
    | true => rw [h] at e; cases e
    | false => rw [h] at e; exact Fields.no t e
theorem Fields.length {fs : List (Str × D)} {fvs : List (Str × V)} (h : Fields G rho H fs fvs) : fs.length = fvs.length := by
  induction h with
  | nil => rfl
  | cons _ _ ih => simp [ih]
end

/-- an own class -/
structure Kd (K : PySem.W.Frag) (mg : Str → Option Value) (x : Str) where
  C : Addr
  cl : Cls K C
  a : PySem.W.nsIn K mainGlobals x = some (some (.ref C))
  g : mg x = some (.ref C)
  mks : PySem.W.makesIn K C = true
  kp : PySem.W.keepIn K (.ref C) = true
/-- a method of it -/
structure Md (K : PySem.W.Frag) (C : Addr) (m qual : Str) (st : Stmt) (ps : List Str) where
  f : Addr
  fd : FuncData
  F : Fun K m qual st f fd
  me : Meth K C m f
  b : Binds K fd ps []
def fldO (x f : Str) : D → Hh → Option D := fun d h => match d with
  | .ref i => match h[i]? with
    | some (.ins y fs) => if y = x then fs.lookup f else none
    | _ => none
  | _ => none
def eFld (x f : Str) (m : ME) : ME := fun env h => (m env h).bind fun d h1 => lift (fldO x f d h1) h1
section
variable {X : Cx} {x f m : Str} {e o value : Expr} {es : List Expr} {mo mv : ME} {ms : MA} {pos pos' p apos : Pos} {k : Nat} {g : Addr} {fd : FuncData} {ps : List Str} {F : MF}
def isIns (x m : Str) (d : D) (h : Hh) : Bool := match d with
  | .ref i => match h[i]? with
    | some (.ins y fs) => decide (y = x) && (fs.lookup m).isNone
    | _ => false
  | _ => false
def eMtd (x m : Str) (F : MF) (mo : ME) (ms : MA) : ME := fun env h => (mo env h).bind fun o h1 => if isIns x m o h1 = true then (ms env h1).bind fun ds h2 => F (o :: ds) h2 else .stuck
end
end MR

namespace MR
open PySem PySem.Spec PyProof.Rows L2

/-- how many unlike ones -/
def setN (ns : List Int) : Nat := (firstMet (fun i => ns.getD i 0) ns.length).length
section
variable {X : Cx} {a : Expr} {ta : TE} {m : ME} {p p2 q pos : Pos}
end
end MR

namespace MR
open PySem PySem.Spec PyProof.Rows L2

end MR

namespace MR
open PySem PySem.Spec PyProof.Rows L2

def str1O : OpN := fun ds _ => match ds with
  | [.int i] => if i.natAbs.log2 < 1920 then some (.str (toString i)) else none
  | [.non] => some (.str "None")
  | _ => none
def rStrA : List V → Hp → VK → Prop := fun xs H Q => (∃ i, xs = [V.int i] ∧ i.natAbs.log2 < 1920 ∧ Q (.str (toString i)) H) ∨ (xs = [V.non] ∧ Q (.str "None") H)
theorem call_strN {X : Cx} : CallR X (.type "str") (fun xs H Q => xs = [V.non] ∧ Q (.str "None") H) := by
  intro pins st σ H xs us Q inv r h
  obtain ⟨rfl, goal⟩ := h
  obtain ⟨u, rfl, ru⟩ := vals1 r
  have ru : u = Value.none := ru
  subst ru
  exact P.str_of_none ⟨.str "None", H, inv.tok _, ⟨_, rfl⟩, goal⟩
theorem call_strA {X : Cx} : CallR X (.type "str") rStrA := call_str_int.or call_strN
theorem rz_str1 {G : Gm} : RzN G rStrA str1O := fun rho hh H ds vs d Q R q e k => by
  unfold str1O at e
  split at e
  · rename_i i
    split at e
    · rename_i hl
      cases e
      obtain ⟨v, rfl, h⟩ := dens_one q
      exact .inl ⟨i, by rw [show v = .int i from h], hl, k _ H .refl R rfl⟩
    · cases e
  · cases e
    obtain ⟨v, rfl, h⟩ := dens_one q
    exact .inr ⟨by rw [show v = .non from h], k _ H .refl R rfl⟩
  · cases e
def mulC : Op2 := fun a b h => match a, b with
  | .str x, .int k => if 0 ≤ k ∧ k ≤ 1 then some (.str (if k = 1 then x else Str.empty)) else none
  | a, b => mulB a b h
def rMulS : R2 := fun x y H Q => ∃ i k, x = .str i ∧ y = .int k ∧ (0 ≤ k ∧ k ≤ 1) ∧ Q (.str (if k = 1 then i else Str.empty)) H
def rMulC (K : PySem.W.Frag) : R2 := fun x y H Q => rMulB K x y H Q ∨ rMulS x y H Q
theorem op_mulS {X : Cx} : OpR X (binaryOp .Mult) rMulS := by
  intro pins s σ H x y v u Q inv rx ry hyp
  obtain ⟨i, k, rfl, rfl, hk, goal⟩ := hyp
  obtain ⟨t, rfl⟩ := rx
  obtain ⟨t2, rfl⟩ := ry
  have small : ¬ k < 1 → (k == 1 || i.length == 0) = true := fun h => by
    have : k = 1 := by omega
    subst this; rfl
  refine SB.mul (x := i) (n := k) ⟨?_, fun a b => absurd (small a) (by rw [b]; decide), fun a b => absurd (small a) (by rw [b]; decide)⟩ fun t' tk => ?_
  · rw [decide_eq_false (by omega), decide_eq_false (by omega)]; rfl
  · have e : Txt.mul i k = if k = 1 then i else Str.empty := by
      unfold Txt.mul
      by_cases h : k < 1
      · rw [if_pos h, if_neg (by omega)]
      · rw [if_neg h, if_pos (small h), if_pos (by omega)]
    exact ⟨.str (if k = 1 then i else Str.empty), H, inv.tok _, ⟨t', by rw [e]⟩, goal⟩
theorem op_mulC {X : Cx} : OpR X (binaryOp .Mult) (rMulC X.K) := op_mulB.or op_mulS
theorem rz_mulC {G : Gm} : Rz2 G (rMulC G.K) mulC := fun rho hh H d1 d2 v1 v2 d Q R q1 q2 e k => by
  unfold mulC at e
  split at e
  · rename_i x n
    split at e
    · rename_i hl
      cases e
      exact .inr ⟨x, n, q1, q2, hl, k _ H .refl R rfl⟩
    · cases e
  · exact .inl (rz_mulB rho hh H d1 d2 v1 v2 d Q R q1 q2 e k)
@[simp] theorem ev_mulCI (i j : Int) (h : Hh) : mulC (.int i) (.int j) h = mulB (.int i) (.int j) h := rfl
section
variable {X : Cx}
inductive DJ (X : Cx) : List Expr → List ME → Prop where
  | nil : DJ X [] []
  | cons {e : Expr} {m : ME} {es : List Expr} {ms : List ME} (h : DE X e m) (r : DJ X es ms) : DJ X (e :: es) (m :: ms)
end
def strsOf : List D → Option (List Str)
  | [] => some []
  | .str x :: r => (strsOf r).map (x :: ·)
  | _ :: _ => none
theorem strsOf_of {G : Gm} {rho : Rm} {H : Hp} : ∀ {ds : List D} {vs : List V} {ns : List Str}, Dens G rho H ds vs → strsOf ds = some ns → vs = ns.map V.str
  | [], vs, ns, q, e => by
    rw [Dens] at q; subst q
    cases e; rfl
  | d :: ds, vs, ns, q, e => by
    rw [Dens] at q
    obtain ⟨v, r, rfl, a, b⟩ := q
    unfold strsOf at e
    split at e
    · rename_i z; cases z
    · rename_i i r' z
      cases z
      obtain ⟨ms, e1, rfl⟩ := Option.map_eq_some_iff.mp e
      rw [strsOf_of b e1, show v = .str i from a]; rfl
    · cases e
/-- what stands in a list or a tuple -/
def seqD (d : D) (h : Hh) : Option (List D) := match d with
  | .tup ds => some ds
  | d => seqL d h
def joinO (a : Str) (x : D) (h : Hh) : Option D := ((seqD x h).bind strsOf).bind fun ys => if (ys.map (·.length)).sum + ys.length * a.length ≤ 16777216 then some (.str (Txt.join a ys)) else none
def eJoin (ms mx : ME) : ME := fun env h => (ms env h).bind fun a h1 => match a with
  | .str s => (mx env h1).bind fun x h2 => lift (joinO s x h2) h2
  | _ => .stuck
section
variable {X : Cx} {o e : Expr} {ms mx : ME} {apos pos : Pos}
theorem de_join (ho : DE X o ms) (he : DE X e mx) (hs : starEach [e] X.env = [(false, eval e X.env)] := by rfl) (hbase : attributeBase o "join" X.env (eval o X.env) = eval o X.env := by rfl) (hline : (apos.endLine == pos.line) = true := by rfl) :
    DE X (.Call (.Attribute o "join" apos) [e] [] pos) (eJoin ms mx) :=
  ⟨fun W tk => pe_weak (pe_join (ho.run W tk) (he.run W tk) hs hbase hline) fun σ H Q h => by
    refine tE_of (f := fun env a h1 => match a with
      | .str s => (mx env h1).bind fun x h2 => lift (joinO s x h2) h2
      | _ => .stuck) h fun rho env hh H1 d v R E qd p => ?_
    cases d with
    | str s =>
      simp only at p
      have qd : v = V.str s := qd
      subst qd
      refine ⟨⟨s, rfl⟩, ?_⟩
      refine tE2_of (d1 := .str s) (f := fun env _ x h2 => lift (joinO s x h2) h2) ⟨rho, env, hh, R, E, rfl, p⟩ fun rho env hh H2 x u R E _ qx p => ?_
      obtain ⟨z, ez, p⟩ := lift_post p
      obtain ⟨ys, e1, e4⟩ := Option.bind_eq_some_iff.mp ez
      obtain ⟨ds, e2, e3⟩ := Option.bind_eq_some_iff.mp e1
      split at e4
      · rename_i hl
        cases e4
        have fin : Q (.str (Txt.join s ys)) H2 := p.val R rfl
        unfold seqD at e2
        split at e2
        · cases e2
          rw [Den] at qx
          obtain ⟨a, ws, rfl, h1, l, zz⟩ := qx
          have := strsOf_of zz e3
          subst this
          exact ⟨s, a, ys, rfl, rfl, .inr h1.t, hl, fin⟩
        · obtain ⟨a, us, rfl, hs, l, zz⟩ := seqL_of R qx e2
          have := strsOf_of zz e3
          subst this
          exact ⟨s, a, ys, rfl, rfl, .inl (SqL.of hs), hl, fin⟩
      · cases e4
    | _ => exact p.elim⟩
end
end MR

namespace MR
open PySem PySem.Spec PyProof.Rows L2

theorem pe_ownVe {X : Cx} {e : Expr} {es : List Expr} {ta : TA} {x : Str} {C : Addr} {mc : Value} {p1 p2 pos : Pos} {pl : Sem Bool} (hg : Gl X x) (hm : X.mg x = some (.ref C)) (r : ClX.CRead X.K C mc)
    (k : PySem.W.findCls X.K (.ref C) mc "__init__" = some (.val (.builtin "ValueError.__init__"))) (ha : PA X (e :: es) ta) (hdb : (x == ("__debug__" : Str)) = false := by decide)
    (hc : eval (.Call (.Attribute (.Name x p1) "__init__" p2) (e :: es) [] pos) X.env = (do
      let ov ← eval (.Name x p1) X.env
      standAt p2.atName
      let (f, first) ← holding [ov] (getMethod ov "__init__" pl)
      callWith pos f first (backTo pos (starEach (e :: es) X.env)) (backToKw pos (keywordEach [] X.env))) := by rfl)
    (he : starEach (e :: es) X.env = (false, eval e X.env) :: starEach es X.env := by rfl) (hpl : (backTo pos (starEach es X.env)).any (·.1) = false := by rfl) :
    PE X (.Call (.Attribute (.Name x p1) "__init__" p2) (e :: es) [] pos) (tVeI X.K ta) := by
  refine ⟨fun pins s σ H Q I h => ?_⟩
  refine PySem.W.methodCall_KW (ld_glob I hg hm ?_ hdb) hc
  refine PySem.W.method_cls I.kIn r.ga (PySem.W.cls_value I.kIn r.rd k (by decide +kernel) ?_)
  show wpAny _ _ (callWith pos (Value.builtin "ValueError.__init__") [] (backTo pos (starEach (e :: es) X.env)) []) _ _ _
  refine PyProof.Rows.callWith_method1 (thn (ha.run pos pins _ σ H _ (I.tok _) h) fun us s1 ⟨vs, H1, I1, r1, a, C, ws, ev, hl, T, ea, q⟩ => ?_) he hpl
  subst ev
  cases r1 with
  | @cons _ u0 _ ur ra rw' =>
    obtain rfl : u0 = Value.ref a := ra
    have hlen : ur.length ≤ sizeLine := by
      rw [← Paired.length rw', sizeLine_eq]
      omega
    exact oinit_ok T I1 ea hlen fun s' J => ⟨.non, H1, J, rfl, q⟩

/-- {x}: a text, an int or None -/
def tFmtN (te : TE) : TE := fun σ H Q => te σ H fun x H1 => ((∃ y : Str, x = .str y ∧ y.length ≤ sizeLine ∧ Q (.str y) H1) ∨ ∃ i : Int, x = .int i ∧ i.natAbs.log2 < 1920 ∧ Q (.str (toString i)) H1) ∨ (x = .non ∧ Q (.str "None") H1)
theorem pe_fmtN {X : Cx} {e : Expr} {te : TE} {pos : Pos} (he : PE X e te) : PE X (.FormattedValue e (-1) none pos) (tFmtN te) := by
  refine ⟨fun pins s σ H Q I h => ?_⟩
  refine wpAny_FormattedValue_plain (thn (he.run pins s σ H _ I h) fun v s1 hv => ?_)
  obtain ⟨x, H1, I1, r1, q⟩ := hv
  rcases q with (⟨y, rfl, hz, q⟩ | ⟨i, rfl, hz, q⟩) | ⟨rfl, q⟩
  · obtain ⟨t, rfl⟩ := r1
    exact wpAny_formatField_str ⟨.str y, H1, I1, ⟨t, rfl⟩, q⟩ ⟨.str y, H1, I1.tok _, ⟨_, rfl⟩, q⟩ hz
  · obtain ⟨t, rfl⟩ := r1
    exact wpAny_formatField_int hz ⟨.str (toString i), H1, I1.tok _, ⟨_, rfl⟩, q⟩
  · have r1 : v = .none := r1
    subst r1
    exact wpAny_formatField_none ⟨.str "None", H1, (I1.tok _).tok _, ⟨_, rfl⟩, q⟩
/-- the text w1 and the number i can be put together -/
def fits1 (w1 : Str) (i : Int) : Prop := i.natAbs.log2 < 1920 ∧ (Str.empty ++ w1).length ≤ sizeLine ∧ (Str.empty ++ w1 ++ (toString i : Str)).length ≤ sizeLine
/-- the text w1 and None -/
def fitsN (w1 : Str) : Prop := (Str.empty ++ w1).length ≤ sizeLine ∧ (Str.empty ++ w1 ++ ("None" : Str)).length ≤ sizeLine
def spI (K : PySem.W.Frag) (w1 f : Str) : Sp := fun vs H Q _ => ∃ (a C : Addr) (v : V), vs = [.ref a, v] ∧ ((∃ i : Int, v = .int i ∧ fits1 w1 i) ∨ (v = .non ∧ fitsN w1)) ∧ OexC K C ∧ PySem.W.findIn K (.ref C) f = some none ∧ H a = some (exo a C none) ∧
  ∀ dx, H dx = none → dx ≠ a → Q .non (upd (upd H dx (exd dx [(f, v)])) a (exo a C (some dx)))
def tInit (K : PySem.W.Frag) (w1 f : Str) : TS := tSeq (tDrop (tVeI K (tCons (tVar 0) (tCons (fun σ H Q => tJs [tC (.str w1), tFmtN (tVar 1)] Str.empty σ H fun out H1 => Q (.str out) H1) tNil)))) (tOst K f (tVar 0) (tVar 1))
/-- the def of an __init__: without defaults, or with None for its field -/
def XiF (K : PySem.W.Frag) (qual : Str) (st : Stmt) (fI : Addr) (fd : FuncData) : Prop := Fun K "__init__" qual st fI fd ∨ FunD K "__init__" qual (defArgs st) (defBody st) (defScope st) [.non] [] fI fd
theorem init_ok {P : Program} {w : World} {K : PySem.W.Frag} {mg : Str → Option Value} {base : Heap} {qual w1 f n1 : Str} {st : Stmt} {fI : Addr} {fd : FuncData} {k : Nat} (F : XiF K qual st fI fd) (S : FnScope [n1, f] [n1, f] (defScope st))
    (hbody : ∀ (cdv : Value) (A : Around) (outer : List PySem.Env) (s : Shared) (H : Hp) (E : XK), PSs (cxOf (L2.CX P w) P w K mg base [n1, f] qual (defScope st) fI cdv A outer s H E) (defBody st) (tInit K w1 f)) :
    FnOk P w K mg base (L2.CX P w) (k + 1) fI fd [n1, f] (spI K w1 f) := by
  have run : ∀ (cdv : Value) (A : Around) (outer : List PySem.Env) (s : Shared) (H : Hp) (vs : List V) (Q : VK) (E : XK), spI K w1 f vs H Q E →
      ∃ t, PSs (cxOf (L2.CX P w) P w K mg base [n1, f] qual (defScope st) fI cdv A outer s H E) (defBody st) t ∧ t { nx := fun _ H' => Q .non H', rt := Q } (start [n1, f] vs) H := fun cdv A outer s H vs Q E h => by
    obtain ⟨a, C, v, rfl, hv, T, no, ea, hq⟩ := h
    refine ⟨_, hbody cdv A outer s H E, ?_⟩
    rcases hv with ⟨i, rfl, f1, f2, f3⟩ | ⟨rfl, f2, f3⟩
    · refine ⟨V.ref a, rfl, w1, rfl, f2, V.int i, rfl, .inl (.inr ⟨i, rfl, f1, _, rfl, f3, a, C, [V.str _], rfl, Nat.le_of_ble_eq_true rfl, T, ea, ?_⟩)⟩
      exact ⟨V.int i, rfl, V.ref a, rfl, a, C, rfl, T, no, .inl ⟨ea, fun dx n ne => hq dx n ne⟩⟩
    · refine ⟨V.ref a, rfl, w1, rfl, f2, V.non, rfl, .inr ⟨rfl, _, rfl, f3, a, C, [V.str _], rfl, Nat.le_of_ble_eq_true rfl, T, ea, ?_⟩⟩
      exact ⟨V.non, rfl, V.ref a, rfl, a, C, rfl, T, no, .inl ⟨ea, fun dx n ne => hq dx n ne⟩⟩
  have len : ∀ vs H Q E, spI K w1 f vs H Q E → vs.length = [n1, f].length := fun vs H Q E ⟨a, C, i, e, _⟩ => by rw [e]; rfl
  rcases F with F | F
  · exact F.okX S len fun cdv A outer s H vs Q E hr h => run cdv A outer s H vs Q E h
  · exact F.ok S len fun cdv A outer s H vs Q E hr h => run cdv A outer s H vs Q E h

/-- as it is caught and asked -/
structure Xc (K : PySem.W.Frag) (mg : Str → Option Value) (x : Str) where
  C : Addr
  a : PySem.W.nsIn K mainGlobals x = some (some (.ref C))
  g : mg x = some (.ref C)
  kp : PySem.W.keepIn K (.ref C) = true
  cl : (PySem.W.clsIn K C).isSome = true
  ga : PySem.W.findIn K (.ref C) "__getattribute__" = some (some (.builtin "BaseException.__getattribute__"))
  gt : PySem.W.findIn K (.ref C) "__getattr__" = some none
  ex : PySem.W.subIn K (.ref C) (.type "BaseException") = some true
  ty : PySem.W.typeIn K (.ref C) = some (.type "type")
  ck : PySem.W.findIn K (.ref C) "__class__" = some (some (.builtin "object.__class__"))
  cs : PySem.W.specialIn K (.builtin "object.__class__") "__get__" = some (some (.builtin "getset_descriptor.__get__"))
  ct : PySem.W.takesIn K (.builtin "object.__class__") = some true
  mo : PySem.W.mroIn K C (.type "object") = some true
  hd : PySem.W.hasDictIn K C = true
/-- .. with its own __init__(self, f), which stores f -/
structure Xi (K : PySem.W.Frag) (C : Addr) (n1 f qual : Str) (st : Stmt) where
  T : OexC K C
  fI : Addr
  fd : FuncData
  F : XiF K qual st fI fd
  iC : PySem.W.findIn K (.ref C) "__init__" = some (some (.ref fI))
  tI : PySem.W.typeIn K (.ref fI) = some (.type "function")
  b : Binds K fd [n1, f] []
  no : PySem.W.findIn K (.ref C) f = some none
/-- .. whose __init__ is ValueError's -/
structure Xp (K : PySem.W.Frag) (C : Addr) where
  bm : List Value
  q : PySem.W.excIn K C bm "ValueError.__new__" = true
  F : ExcBaseFacts "ValueError" "ValueError.__new__" "ValueError.__init__" bm
/-- .. that gives its __init__ on -/
structure Xb (K : PySem.W.Frag) (C : Addr) where
  mc : Value
  r : ClX.CRead K C mc
  k : PySem.W.findCls K (.ref C) mc "__init__" = some (.val (.builtin "ValueError.__init__"))

abbrev MX := DEnv → Hh → Res Exn
def PostX (G : Gm) (rho : Rm) (H : Hp) (r : Res Exn) (Q : XK) : Prop :=
  match r with
  | .ok x hh => ∀ rho' H' c d, Step rho H rho' H' → Rep G rho' hh H' → ExD G rho' H' x c d → Q c d H'
  | _ => False
def TDx (G : Gm) (m : MX) : L2.St → Hp → XK → Prop := fun σ H Q => ∃ rho env hh, Rep G rho hh H ∧ EnvD G rho H env σ ∧ PostX G rho H (m env hh) Q
structure DX (X : Cx) (e : Expr) (m : MX) : Prop where
  run : ∀ W, Takes X W → PMk X e (TDx (Cx.gm X) m)
theorem pmk_weak {X : Cx} {e : Expr} {t t' : L2.St → Hp → XK → Prop} (h : PMk X e t) (i : ∀ σ H Q, t' σ H Q → t σ H Q) : PMk X e t' := fun pins s σ H Q I q => h pins s σ H Q I (i σ H Q q)
/-- C(e): the field is a number or None -/
def mkI (x f w1 : Str) (m : ME) : MX := fun env h => match m env h with
  | .ok (.int i) h1 => if i.natAbs.log2 < 1920 ∧ (Str.empty ++ w1).length ≤ sizeLine ∧ (Str.empty ++ w1 ++ (toString i : Str)).length ≤ sizeLine then .ok ⟨x, some (f, .int i)⟩ h1 else .stuck
  | .ok .non h1 => if (Str.empty ++ w1).length ≤ sizeLine ∧ (Str.empty ++ w1 ++ ("None" : Str)).length ≤ sizeLine then .ok ⟨x, some (f, .non)⟩ h1 else .stuck
  | _ => .stuck
section
variable {X : Cx} {e : Expr} {m : ME} {x f w1 : Str} {p pos : Pos}
theorem dx_mkI {qual n1 : Str} {st : Stmt} {k : Nat} (T : Xc X.K X.mg x) (U : Xi X.K T.C n1 f qual st) (Fn : FnOk X.prog X.w X.K X.mg X.base (L2.CX X.prog X.w) k U.fI U.fd [n1, f] (spI X.K w1 f)) (hr : Room (k + 1) X.A) (hg : Gl X x) (he : DE X e m)
    (hdb : (x == ("__debug__" : Str)) = false := by decide) (hs : starEach [e] X.env = (false, eval e X.env) :: starEach [] X.env := by rfl) :
    DX X (.Call (.Name x p) [e] [] pos) (mkI x f w1 m) := by
  refine ⟨fun W tk => pmk_weak (pmk_oex (ds := []) (dvs := []) U.T U.iC U.tI Fn hr U.b .nil passL hg T.g (pa_cons (he.run W tk) pa_nil hs) hdb hs) fun σ H Q h => ?_⟩
  obtain ⟨rho, env, hh, R, E, p⟩ := h
  unfold mkI at p
  refine ⟨rho, env, hh, R, E, ?_⟩
  obtain ⟨y, v, h1, em, pl, fv, un, p⟩ : ∃ (y : D) (v : V) (h1 : Hh), m env hh = .ok y h1 ∧ PlD y v ∧ ((∃ i : Int, v = .int i ∧ fits1 w1 i) ∨ (v = .non ∧ fitsN w1)) ∧ (∀ rho1 H1 v', Den (Cx.gm X) rho1 H1 y v' → v' = v) ∧ PostX (Cx.gm X) rho H (.ok ⟨x, some (f, y)⟩ h1) Q := by
    split at p
    · rename_i i h1 em
      split at p
      · rename_i hc
        exact ⟨.int i, .int i, h1, em, .inr ⟨i, rfl, rfl⟩, .inl ⟨i, rfl, hc⟩, fun _ _ _ q => q, p⟩
      · exact p.elim
    · rename_i h1 em
      split at p
      · rename_i hc
        exact ⟨.non, .non, h1, em, .inl ⟨rfl, rfl⟩, .inr ⟨rfl, hc⟩, fun _ _ _ q => q, p⟩
      · exact p.elim
    · exact p.elim
  rw [em]
  intro rho1 H1 v' S R1 q
  have q := un _ _ _ q
  subst q
  refine ⟨Nat.le_of_ble_eq_true rfl, fun a na => ⟨a, T.C, v', rfl, fv, U.T, U.no, upd_same, fun dx nd ne => ⟨rfl, dx, [(f, v')], upd_same, ?_, ?_, ?_⟩⟩⟩
  · rw [upd_ne ne, upd_same]
  · rw [upd_ne ne] at nd; exact nd
  · rw [upd_ne ne] at nd
    have eq : upd (del (upd (upd (upd H1 a (exo a T.C none)) dx (exd dx [(f, v')])) a (exo a T.C (some dx))) a) dx (.xd [(f, v')]) = upd H1 dx (.xd [(f, v')]) := by
      funext b
      by_cases hb : b = dx
      · subst hb; rw [upd_same, upd_same]
      · rw [upd_ne hb, upd_ne hb]
        by_cases ha : b = a
        · subst ha; rw [del_same, na]
        · rw [del_ne ha, upd_ne ha, upd_ne hb, upd_ne ha]
    rw [eq]
    have nat : dx ∉ rho1.at_ := fun hm => by
      obtain ⟨u, z, _⟩ := R1.mut hm
      rw [nd] at z; cases z
    have nres : dx ∉ rho1.res := fun hm => by
      obtain ⟨u, z⟩ := R1.hd dx hm
      rw [nd] at z; cases z
    exact p rho1 _ _ _ (S.trans (.laid nd)) (R1.laid nd) ⟨⟨T.C, T.a, rfl⟩, dx, v', rfl, upd_same, nat, nres, pl⟩
/-- C(e): no field -/
def mkP (x : Str) (m : ME) : MX := fun env h => match m env h with
  | .ok _ h1 => .ok ⟨x, none⟩ h1
  | _ => .stuck
/-- raise e -/
def sRaise (m : MX) : MS := fun env h => match m env h with
  | .ok x h1 => .er x env h1
  | _ => .stuck
theorem ds_raise {m : MX} (hc : X.calm = true) (he : DX X e m) : DS X (.Raise (some e) none pos) (sRaise m) :=
  ⟨fun W tk => ps_weak (ps_raise hc tk (he.run W tk)) fun D σ H ⟨rho, env, hh, R, E, p⟩ => ⟨rho, env, hh, R, E, by
    unfold sRaise at p
    split at p
    · rename_i x h1 em
      rw [em]
      exact fun rho' H' c d S R' q => p rho' H' σ c d S R' (E.step R S) q
    · exact p.elim⟩⟩
end

/-- C is c or stands above it -/
def subX (x c : Str) : Bool := decide (x = c) || (decide (c = "GuestError") || decide (c = "ValueError"))
def RS.calm : RS → RS
  | .er _ _ _ => .stuck
  | r => r
def sTry (cs : List Str) (c : Str) (b s : MS) : MS := fun env h => match b env h with
  | .er x env1 h1 => if x.cls ∈ cs then (if subX x.cls c = true then (s env1 h1).calm else .er x env1 h1) else .stuck
  | r => r
section
variable {X : Cx} {body suite : List Stmt} {b₀ : Stmt} {x c : Str} {np pos pos' : Pos} {mb ms : MS} {cs : List Str}
end
end MR

set_option maxHeartbeats 1000000
namespace MR
open PySem PySem.Spec PyProof.Rows L2
section
variable {X : Cx} {pins : List (Addr × Obj)} {σ : L2.St} {H : Hp} {s : Shared} {a : Addr} {oe : Obj} {vs : Array Value} {c : Value} {d : Option Addr}
/-- an exception that nobody knows is known from here on -/
theorem inv_note (I : Inv X pins σ H s) (he : s.heap.get? a = some oe) (hc : oe.cls = c) (hd : oe.dict = d) (hv : oe.data = .fields vs) (na : H a = none) (nL : a ≠ X.env.locals) (n0 : X.s_0.heap.get? a = none)
    (np : ∀ p ∈ X.pn ++ pins, p.1 ≠ a) : Inv X pins σ (upd H a (exAt a c d)) s where
  ok := I.ok
  os := I.os
  bare := I.bare
  base := {
    keep := I.base.keep
    slot := I.base.slot
    free := fun b o q n hx => by
      rw [upd_ne (fun z => by rw [z, n0] at q; cases q)]
      exact I.base.free b o q n hx
    there := I.base.there
    tups := fun b xs q => by
      have := I.base.tups b xs q
      rw [upd_ne (fun z => by rw [z, na] at this; cases this)]; exact this
    frzs := fun b o u q => by
      have := I.base.frzs b o u q
      rw [upd_ne (fun z => by rw [z, na] at this; cases this)]; exact this
    tbls := fun b ps q => by
      obtain ⟨more, this⟩ := I.base.tbls b ps q
      exact ⟨more, by rw [upd_ne (fun z => by rw [z, na] at this; cases this)]; exact this⟩ }
  loc := I.loc
  cell := I.cell
  free := by rw [upd_ne (Ne.symm nL)]; exact I.free
  freeC := fun x b e => by
    have : b ≠ a := fun z => by
      obtain ⟨v, o, h1, h2⟩ := I.cell x b e
      rw [z, he] at h1
      cases h1
      rw [hv] at h2; cases h2
    rw [upd_ne this]; exact I.freeC x b e
  pin := fun p hp => by
    obtain ⟨h1, h2, h3⟩ := I.pin p hp
    exact ⟨h1, by rw [upd_ne (np p hp)]; exact h2, h3⟩
  hok := fun b o q => by
    by_cases hb : b = a
    · subst hb
      rw [upd_same] at q
      cases q
      exact ⟨⟨oe, vs, he, hc, hd, hv⟩, ⟨oe, he⟩, fun h1 h2 ⟨o1, vs1, z1, z2, z3, z4⟩ k => ⟨o1, vs1, k _ z1, z2, z3, z4⟩⟩
    · rw [upd_ne hb] at q
      exact (I.hok b o q).stay (fun _ _ _ z => z) (fun b' z => by rw [upd_ne (fun y => by rw [y, na] at z; cases z)]; exact z) (fun b' xs z => by rw [upd_ne (fun y => by rw [y, na] at z; cases z)]; exact z)
  len := I.len
end
/-- what the clause 'except x as n: k = n' wishes of an exception of the body: slot i is n's, j is k's -/
def wNote (K : PySem.W.Frag) (c : Value) (i j : Nat) (Wout : WX) (D : Ends) : WX := fun cls d σ H =>
  ∃ b, PySem.W.exmOne K cls c = some b ∧ (b = true → ∀ a, H a = none → D.nx (((σ.set i (some (.ref a))).set j (some (.ref a))).set i none) (upd H a (exAt a cls d))) ∧ (b = false → Wout cls d σ H)
section
variable {X : Cx} {x n : Str} {c : Value} {i j : Nat} {body suite : List Stmt} {b₀ : Stmt} {np pos pos' : Pos} {tb : WX → TS} {Wout : WX}
theorem ps_try_note (hs : X.stack = X.env :: X.outer) (hf : X.env.frame = some X.env.locals) (hex : X.ex = []) (hN : X.N.Nodup) (hi : X.N[i]? = some n) (hln : X.env.kindOf n = some .local) (hc : Names X x c) (tk : Takes X Wout)
    (hb : ∀ (W : WX) (pn : List (Addr × Obj)) (xe : Value → Shared → Prop), Takes (X.tr pn xe) W → PassesOwn (model X.prog X.w) X.A X.env xe → PSs (X.tr pn xe) body (tb W))
    (hsu : ∀ (a : Addr) (pn : List (Addr × Obj)), PSs (X.suite a pn) (b₀ :: suite) (fun D σ H => ∃ v, σ[i]? = some (some v) ∧ D.nx (σ.set j (some v)) H)) :
    PS X (.Try body [.ExceptHandler (some (.Name x np)) (some n) (b₀ :: suite) pos'] [] [] pos) (fun D σ H => tb (wNote X.K c i j Wout D) D σ H) := by
  refine ⟨fun pins s σ H D I h => ?_⟩
  have ok := I.ok
  have hfr : X.A.frames = some (X.env :: X.outer) := by rw [ok.frames, hs]
  have hloc : Loc X.env.scope n := .inl hln
  refine wpAny_Try_except (wpAny_mono ((hb (wNote X.K c i j Wout D) (X.pn ++ pins) (fun e s₁ => wpAny (model X.prog X.w) X.A (noteFrame e X.env) (fun _ s₂ => wpAny (model X.prog X.w) X.A (setFlight e none) (fun _ s₃ =>
    wpAny (model X.prog X.w) X.A (handleBy e X.env [.ExceptHandler (some (.Name x np)) (some n) (b₀ :: suite) pos']) (SP X pins D) X.xe s₃) X.xe s₂) X.xe s₁) (fun u s' xx => ?_) PassesOwn.looking).run [] s σ H D (I.toTry _) h) (fun f s1 hsp => ?_) (fun e s1 he => he))
  · obtain ⟨a, B, sI, pins', σ', H', cls, d, rfl, J', nb, up, sky, na, os, ag, b, hb1, hyes, hno⟩ := xx
    have J : Inv X pins σ' H' sI := J'.ofTry ok
    have sky' : Sky B (X.env :: X.outer) a (Zc cls d) X.env.locals s'.heap := by rw [← hs]; exact sky
    show wpAny (model X.prog X.w) X.A (noteFrame (.ref a) X.env) _ _ _
    refine Sky.land Zc.steady hfr hf sky' fun h3 fl3 up3 => ?_
    have J3 : Inv X pins σ' H' { s' with heap := h3 } := J.landed nb fl3.1 (up.trans up3) os ag
    obtain ⟨oe3, vs3, he3, hz3, hd3⟩ := fl3.there
    have nfr : a ∉ frs (X.env :: X.outer) := fun hm => by
      obtain ⟨_, o', e', hnf⟩ := fl3.2.2.1.mem hm
      rw [he3] at e'; cases e'
      exact hnf _ hd3
    have nL : a ≠ X.env.locals := fun z => nfr (List.mem_filterMap.mpr ⟨X.env, List.mem_cons_self, by rw [hf, z]⟩)
    have nF : a ∉ X.fs := fun hm => by
      obtain ⟨e, he, q⟩ := List.mem_filterMap.mp hm
      exact nfr (List.mem_filterMap.mpr ⟨e, List.mem_cons_of_mem _ he, q⟩)
    -- what was there ahead of the exception is another thing
    have new : ∀ o, sI.heap.get? a ≠ some o := fun o q => by
      have z := nb a o q (by rw [hs]; exact nfr)
      rw [fl3.2.1] at z; cases z
    have n0 : X.s_0.heap.get? a = none := by
      cases q : X.s_0.heap.get? a with
      | none => rfl
      | some o =>
        obtain ⟨o', z⟩ := J.base.there a o q (by rw [hex]; exact List.not_mem_nil)
        exact absurd z (new o')
    have npin : ∀ p ∈ X.pn ++ pins, p.1 ≠ a := fun p hp z => new _ (z ▸ (J.pin p hp).1)
    have S3 := J3.suite he3 hd3 na nL nF
    refine wpAny_handleBy_cons (codeAny_handlers_test ?_) (by intro q; cases q)
    have LT : PySem.W.Looks (model X.prog X.w) h3 (typeOf (.ref a)) cls := fun A Q E s k q => wpAny_typeOf_ref (k _ _ he3) (by rw [hz3.1]; exact q)
    have LM := PySem.W.exm_one (M := model X.prog X.w) (J3.kIn) LT hb1
    have test : ∀ {Q : Value → Shared → Prop} {E : Value → Shared → Prop}, Q c { s' with heap := h3 } → wpAny (model X.prog X.w) (X.A.mark (some (.ref a))) (eval (.Name x np) X.env) Q E { s' with heap := h3 } := fun {Q E} q => by
      obtain ⟨hg, hdbg, hm | ⟨hm, hv, hnn⟩⟩ := hc
      · exact ld_glob (X := X.suite a ((a, oe3) :: (X.pn ++ pins))) S3 hg hm q hdbg
      · exact ld_blt (X := X.suite a ((a, oe3) :: (X.pn ++ pins))) S3 hg hm hv q hnn hdbg
    refine test (LM.here ?_)
    cases b with
    | true =>
      refine codeAny_handlers_suite_as (HandSPX.lands_againZ fl3 fun h4 fl4 up4 => ?_)
      have J4 : Inv X pins σ' H' { s' with heap := h4 } := J.landed nb fl4.1 ((up.trans up3).trans up4) os ag
      obtain ⟨oe4, vs4, he4, hz4, hd4⟩ := fl4.there
      have S4 := J4.suite he4 hd4 na nL nF
      refine store_ok (X := X.suite a ((a, oe4) :: (X.pn ++ pins))) (v := .ref a) S4 hN hi hloc rfl (fun s5 S5 => ?_) (.inr hln)
      have hi' : (σ'.set i (some (V.ref a)))[i]? = some (some (.ref a)) := by
        rw [List.getElem?_set_self (by rw [J.len]; exact (List.getElem?_eq_some_iff.mp hi).1)]
      refine wpAny_mono ((hsu a ((a, oe4) :: (X.pn ++ pins))).run [] s5 _ H' { nx := fun σ6 H6 => σ6 = (σ'.set i (some (.ref a))).set j (some (.ref a)) ∧ H6 = H', rt := fun _ _ => False, bk := fun _ _ => False, ct := fun _ _ => False } S5 ⟨_, hi', rfl, rfl⟩) (fun f s6 hsp => ?_) (fun _ _ z => False.elim z)
      cases f with
      | next =>
        obtain ⟨σ6, H6, S6, rfl, rfl⟩ := hsp
        have g6 : s6.heap.get? a = some oe4 := (S6.pin (a, oe4) (List.mem_append_left _ List.mem_cons_self)).1
        have J6 : Inv X pins _ H6 s6 := S6.unsuite ok
        exact gone_ok (inv_note J6 g6 hz4.1 hz4.2 hd4 na nL n0 npin) hN hi hln fun s7 J7 => ⟨_, _, J7, hyes rfl a na⟩
      | brk => obtain ⟨σ6, H6, S6, q6⟩ := hsp; exact q6.elim
      | cont => obtain ⟨σ6, H6, S6, q6⟩ := hsp; exact q6.elim
      | ret u => obtain ⟨v6, σ6, H6, S6, r6, q6⟩ := hsp; exact q6.elim
    | false =>
      show wpAny _ X.A (handleBy (.ref a) X.env []) _ _ _
      refine wpAny_handleBy_nil ?_
      obtain ⟨k1, k2, k3, oe, vs, T, oT, ts', he, hz, hd, h1, hr⟩ := id fl3
      unfold PySem.passOn
      refine wpAny_bind (wpAny_field he hd h1 ?_)
      rw [if_neg (show ¬ ((Value.ref T == Value.none) = true) from by simp)]
      have fin : wpAny (model X.prog X.w) X.A (setFlight (.ref a) X.env.frame) (fun _ s4 => wpAny (model X.prog X.w) X.A (throw (.ref a) : Sem Flow) (SP X pins D) X.xe s4) X.xe { s' with heap := h3 } := by
        rw [hf]
        refine HandSPX.setFlight_upZ fl3 fun h4 hh4 up4 => wpAny_throw (tk _ _ ?_)
        exact ⟨a, B, sI, pins, σ', H', cls, d, rfl, J, nb, (up.trans up3).trans up4, .inr (.inr (by rw [hs]; exact hh4)), na, os, ag, hno rfl⟩
      first
        | exact wpAny_bind (wpAny_pure (wpAny_bind fin))
        | exact wpAny_bind fin
  · cases f with
    | next => obtain ⟨σ', H', J', q⟩ := hsp; exact wpAny_execs_nil ⟨σ', H', J'.ofTry ok, q⟩
    | brk => obtain ⟨σ', H', J', q⟩ := hsp; exact ⟨σ', H', J'.ofTry ok, q⟩
    | cont => obtain ⟨σ', H', J', q⟩ := hsp; exact ⟨σ', H', J'.ofTry ok, q⟩
    | ret u => obtain ⟨v, σ', H', J', r, q⟩ := hsp; exact ⟨v, σ', H', J'.ofTry ok, r, q⟩
end
/-- try: .. except C as n: k = n; slot i is n's, j is k's -/
def sNote (cs : List Str) (c : Str) (i j : Nat) (b : MS) : MS := fun env h => match b env h with
  | .er x env1 h1 => if x.cls ∈ cs then (if subX x.cls c = true then .nx (((env1.set i (some (.ref h1.length))).set j (some (.ref h1.length))).set i none) (h1 ++ [.exc x]) else .er x env1 h1) else .stuck
  | r => r
section
variable {X : Cx} {body : List Stmt} {n k c : Str} {np np2 kp ap pos pos' : Pos} {mb : MS} {cs : List Str} {i j : Nat}
theorem ds_note {C : Addr} (hs : X.stack = X.env :: X.outer) (hf : X.env.frame = some X.env.locals) (hex : X.ex = []) (hN : X.N.Nodup) (hi : X.N[i]? = some n) (hj : X.N[j]? = some k) (hln : X.env.kindOf n = some .local) (hlk : X.env.scope.names.lookup k = some .local)
    (hg : Gl X c) (hm : X.mg c = some (.ref C)) (hcs : ∀ x ∈ cs, ∃ T : Xc X.K X.mg x, PySem.W.exmOne X.K (.ref T.C) (.ref C) = some (subX x c))
    (hb : ∀ (pn : List (Addr × Obj)) (xe : Value → Shared → Prop), PassesOwn (model X.prog X.w) X.A X.env xe → DSs (X.tr pn xe) body mb)
    (hst : ∀ (a : Addr) (pn : List (Addr × Obj)), PS (X.suite a pn) (.Assign [.Name k kp] (.Name n np2) ap) (tAsg (tVar i) (L2.gName j))) (hdb : (c == ("__debug__" : Str)) = false := by decide) :
    DS X (.Try body [.ExceptHandler (some (.Name c np)) (some n) [.Assign [.Name k kp] (.Name n np2) ap] pos'] [] [] pos) (sNote cs c i j mb) :=
  ⟨fun W tk => ps_weak (ps_try_note (tb := fun W' => TDs (Cx.gm X) W' mb) (j := j) hs hf hex hN hi hln ⟨hg, hdb, .inl hm⟩ tk (fun W' pn xe tk' pw => (hb pn xe pw).run W' tk') fun a pn => pss_one (ps_weak (hst a pn) fun D σ H ⟨v, e, q⟩ => ⟨v, e, q⟩)) fun D σ H ⟨rho, env, hh, R, E, p⟩ => ⟨rho, env, hh, R, E, by
    unfold sNote at p
    cases e : mb env hh with
    | er y env' h' =>
      rw [e] at p
      intro rho' H' σ' c' d S R' E' q
      by_cases hy : y.cls ∈ cs
      · dsimp only at p
        rw [if_pos hy] at p
        obtain ⟨T, ht⟩ := hcs y.cls hy
        obtain ⟨⟨C', nn, ec⟩, q2⟩ := id q
        rw [T.a] at nn
        cases nn
        subst ec
        refine ⟨subX y.cls c, ht, fun hb a na => ?_, fun hb => ?_⟩
        · rw [if_pos hb] at p
          have nat : a ∉ rho'.at_ := fun hm => by
            obtain ⟨u, z, _⟩ := R'.mut hm
            rw [na] at z; cases z
          have S2 : Step rho' H' (rho'.add a) (upd H' a (exAt a (.ref T.C) d)) := .laidN na
          have q' := q.step R' S2
          have R2 := R'.laidN (ob := .exc y) na ⟨.ref T.C, d, q', upd_same⟩
          have dn : Den (Cx.gm X) (rho'.add a) (upd H' a (exAt a (.ref T.C) d)) (.ref h'.length) (.ref a) := by
            rw [Den]
            refine ⟨a, ?_, rfl⟩
            show (rho'.at_ ++ [a])[h'.length]? = some a
            rw [← R'.len, List.getElem?_append_right (Nat.le_refl _), Nat.sub_self]; rfl
          exact p _ _ _ (S.trans S2) R2 ((((E'.step R' S2).set dn).set dn).setN)
        · rw [hb, if_neg (by decide)] at p
          exact p rho' H' σ' _ d S R' E' q
      · dsimp only at p
        rw [if_neg hy] at p
        exact p.elim
    | nx env' h' => rw [e] at p; exact p
    | rt d h' => rw [e] at p; exact p
    | bk env' h' => rw [e] at p; exact p
    | ct env' h' => rw [e] at p; exact p
    | stuck => rw [e] at p; exact p.elim⟩⟩
end
end MR

namespace MR
open PySem PySem.Spec PyProof.Rows L2

/-- e.f of a noted exception -/
def xfldO (f : Str) (cs : List Str) : D → Hh → Option D := fun d h => match d with
  | .ref i => match h[i]? with
    | some (.exc x) => if x.cls ∈ cs then (match x.fld with | some (g, y) => if g = f then some y else none | none => none) else none
    | _ => none
  | _ => none
def eXfld (f : Str) (cs : List Str) (m : ME) : ME := fun env h => (m env h).bind fun d h1 => lift (xfldO f cs d h1) h1
/-- isinstance of a noted exception, or of None -/
def xisO (cs ws : List Str) : D → Hh → Option D := fun d h => match d with
  | .ref i => match h[i]? with
    | some (.exc x) => if x.cls ∈ cs then some (.bl (ws.any (subX x.cls))) else none
    | _ => none
  | _ => none
def eXis (cs ws : List Str) (m : ME) : ME := fun env h => (m env h).bind fun d h1 => lift (xisO cs ws d h1) h1
theorem xc_at {G : Gm} {rho : Rm} {H : Hp} {hh : Hh} {mg : Str → Option Value} {x : Exn} (T : Xc G.K mg x.cls) (R : Rep G rho hh H) {i : Nat} {a : Addr} (ha : rho.at_[i]? = some a) (hi : hh[i]? = some (.exc x)) :
    ∃ d, H a = some (exAt a (.ref T.C) d) ∧ match x.fld with
      | none => d = none
      | some (f, y) => ∃ dd v, d = some dd ∧ H dd = some (.xd [(f, v)]) ∧ PlD y v := by
  obtain ⟨c, d, ⟨⟨C, n, rfl⟩, q⟩, e⟩ := R.ob i a _ ha hi
  rw [T.a] at n
  cases n
  refine ⟨d, e, ?_⟩
  cases hf : x.fld with
  | none => rw [hf] at q; exact q
  | some p =>
    obtain ⟨f, y⟩ := p
    rw [hf] at q
    obtain ⟨a, v, h1, h2, _, _, h3⟩ := q
    exact ⟨a, v, h1, h2, h3⟩
theorem PlD.den {G : Gm} {rho : Rm} {H : Hp} {y : D} {v : V} (h : PlD y v) : Den G rho H y v := by
  rcases h with ⟨rfl, rfl⟩ | ⟨i, rfl, rfl⟩
  · rfl
  · rfl
section
variable {X : Cx} {pins : List (Addr × Obj)} {σ : L2.St} {H : Hp} {s : Shared} {a C : Addr} {d : Option Addr}
/-- the object as it stands -/
theorem ex_inst (I : Inv X pins σ H s) (ea : H a = some (exAt a (.ref C) d)) : ∃ oe vs, s.heap.get? a = some oe ∧ oe.cls = .ref C ∧ oe.dict = d ∧ oe.data = .fields vs := by
  have x : ObjOk X.prog X.w H s.heap a (exAt a (.ref C) d) := I.hok a _ ea
  obtain ⟨⟨oe, vs, h⟩, _, _⟩ := x
  exact ⟨oe, vs, h⟩
theorem ex_instN (I : Inv X pins σ H s) (ea : H a = some (exAt a (.ref C) none)) : ∃ oe, PySem.W.InstAt s.heap a oe C none := by
  obtain ⟨oe, vs, h1, h2, h3, h4⟩ := ex_inst I ea
  exact ⟨oe, h1, h2, by unfold PySem.W.notCls; rw [h4] <;> rfl, by rw [h3]; trivial⟩
theorem ex_instS {dd : Addr} {fs : List (Str × V)} (I : Inv X pins σ H s) (ea : H a = some (exAt a (.ref C) (some dd))) (ed : H dd = some (.xd fs)) :
    ∃ (oe od : Obj) (mA : Str → Option Value), PySem.W.InstAt s.heap a oe C (some od) ∧ (∀ n, PySem.W.lookIn n od = some (mA n)) ∧ ∀ f, RelO (fs.lookup f) (mA f) := by
  obtain ⟨oe, vs, h1, h2, h3, h4⟩ := ex_inst I ea
  have hx : ObjOk X.prog X.w H s.heap dd (.xd fs) := I.hok dd _ ed
  obtain ⟨mA, hns, hr⟩ := hx
  obtain ⟨od, ho, hl⟩ := lookIn_ns hns
  exact ⟨oe, od, mA, ⟨h1, h2, by unfold PySem.W.notCls; rw [h4] <;> rfl, by rw [h3]; exact ho⟩, fun n => hl n, hr⟩
end
/-- what isinstance asks of the exception -/
def exKit (K : PySem.W.Frag) (mg : Str → Option Value) (H : Hp) (x : V) (C : Addr) : Prop := ∃ (y : Str) (a : Addr) (d : Option Addr) (T : Xc K mg y), T.C = C ∧ x = .ref a ∧ H a = some (exAt a (.ref C) d) ∧ (d = none ∨ ∃ dd fs, d = some dd ∧ H dd = some (.xd fs))
def rXis (K : PySem.W.Frag) (mg : Str → Option Value) : List V → Hp → VK → Prop := fun xs H Q => ∃ (x c : V) (u : Value) (C : Addr) (b : Bool), xs = [x, c] ∧ (∀ w, RelV c w → w = u) ∧ exKit K mg H x C ∧ PySem.W.kitOne K (.ref C) u = some b ∧ Q (.bl b) H
def rXisT (K : PySem.W.Frag) (mg : Str → Option Value) : List V → Hp → VK → Prop := fun xs H Q => ∃ (x : V) (tp : Addr) (cs : List V) (us : List Value) (C : Addr) (b : Bool), xs = [x, .ref tp] ∧ H tp = some (.tup cs) ∧ Paired (fun c u => ∀ w, RelV c w → w = u) cs us ∧ exKit K mg H x C ∧ PySem.W.kitAny K (.ref C) us = some b ∧ Q (.bl b) H
theorem vals_is : ∀ {cs : List V} {us ws : List Value}, Paired (fun (c : V) (u : Value) => ∀ w, RelV c w → w = u) cs us → Vals cs ws → ws = us
  | _, _, _, .nil, .nil => rfl
  | _, _, _, .cons h t, .cons r q => by rw [h _ r, vals_is t q]
section
variable {X : Cx}
theorem ex_kit {pins : List (Addr × Obj)} {σ : L2.St} {H : Hp} {s : Shared} {x : V} {u : Value} {C : Addr} (I : Inv X pins σ H s) (k : exKit X.K X.mg H x C) (r : RelV x u) : ∃ P : Heap → Prop, PySem.W.KitX X.K u (.ref C) P ∧ P s.heap ∧ u ≠ .builtin "__main__.__loader__#opaque" := by
  obtain ⟨y, a, d, T, rfl, rfl, ea, hd⟩ := k
  cases (show u = Value.ref a from r)
  rcases hd with rfl | ⟨dd, fs, rfl, ed⟩
  · obtain ⟨oe, J⟩ := ex_instN I ea
    exact ⟨_, PySem.W.kitx_exc T.cl T.ga T.gt T.ex T.ck T.cs T.ct T.mo, J, fun z => nomatch z⟩
  · obtain ⟨oe, od, mA, J, _⟩ := ex_instS I ea ed
    exact ⟨_, PySem.W.kitx_exc T.cl T.ga T.gt T.ex T.ck T.cs T.ct T.mo, J, fun z => nomatch z⟩
theorem call_Xis : CallR X (.builtin "isinstance") (rXis X.K X.mg) := by
  intro pins s σ H xs us Q I r h
  obtain ⟨x, c, u, C, b, rfl, k, ty, e, q⟩ := h
  obtain ⟨u1, u2, rfl, r1, r2⟩ := vals2 r
  have e2 := k _ r2
  subst e2
  obtain ⟨P, Z, p, hx⟩ := ex_kit I ty r1
  exact PySem.W.kia_one Z I.kIn p e hx fun tk => ⟨.bl b, H, I.tok tk, rfl, q⟩
theorem call_XisT : CallR X (.builtin "isinstance") (rXisT X.K X.mg) := by
  intro pins s σ H xs us Q I r h
  obtain ⟨x, tp, cs, ws, C, b, rfl, hT, k, ty, e, q⟩ := h
  obtain ⟨u1, u2, rfl, r1, r2⟩ := vals2 r
  cases (show u2 = Value.ref tp from r2)
  obtain ⟨P, Z, p, hx⟩ := ex_kit I ty r1
  obtain ⟨_, its, rv, o, h1, h2, n, h3⟩ := (show ObjOk X.prog X.w H s.heap tp (.tup cs) from I.hok tp _ hT)
  have e3 := vals_is k rv
  subst e3
  obtain ⟨oc, od, dt, sl⟩ := o
  simp only at h2 h3
  subst h2 h3
  exact PySem.W.kia_tup Z I.kIn p h1 e hx fun tk => ⟨.bl b, H, I.tok tk, rfl, q⟩
theorem xisO_some {cs ws : List Str} {d r : D} {h : Hh} (e : xisO cs ws d h = some r) : ∃ i x, d = .ref i ∧ h[i]? = some (.exc x) ∧ x.cls ∈ cs ∧ r = .bl (ws.any (subX x.cls)) := by
  unfold xisO at e
  split at e
  · rename_i i
    split at e
    · rename_i x hx
      split at e
      · rename_i hm
        cases e
        exact ⟨i, x, rfl, hx, hm, rfl⟩
      · cases e
    · cases e
  · cases e
theorem ex_kitOf {rho : Rm} {H : Hp} {hh : Hh} {x : Exn} (T : Xc X.K X.mg x.cls) (R : Rep (Cx.gm X) rho hh H) {i : Nat} {v : V} (q : Den (Cx.gm X) rho H (.ref i) v) (hi : hh[i]? = some (.exc x)) : exKit X.K X.mg H v T.C := by
  rw [Den] at q
  obtain ⟨a, ha, rfl⟩ := q
  obtain ⟨d, ea, hd⟩ := xc_at (mg := X.mg) (G := Cx.gm X) T R ha hi
  refine ⟨x.cls, a, d, T, rfl, rfl, ea, ?_⟩
  cases hf : x.fld with
  | none => rw [hf] at hd; exact .inl hd
  | some p =>
    obtain ⟨f, y⟩ := p
    rw [hf] at hd
    obtain ⟨dd, w, h1, h2, _⟩ := hd
    exact .inr ⟨dd, _, h1, h2⟩
/-- isinstance(e, c) -/
theorem de_xis {e ce : Expr} {m : ME} {cs : List Str} {c : Str} {cv : V} {cu : Value} {p pos : Pos} (hg : Gl X "isinstance") (hm : X.mg "isinstance" = none) (he : DE X e m) (hce : PE X ce (tC cv)) (rc : ∀ w, RelV cv w → w = cu)
    (hcs : ∀ x ∈ cs, ∃ T : Xc X.K X.mg x, PySem.W.kitOne X.K (.ref T.C) cu = some (subX x c)) (h1 : starEach [e, ce] X.env = (false, eval e X.env) :: starEach [ce] X.env := by rfl) (h2 : starEach [ce] X.env = (false, eval ce X.env) :: starEach [] X.env := by rfl)
    (hpl : (backTo pos (starEach [ce] X.env)).any (·.1) = false := by rfl) :
    DE X (.Call (.Name "isinstance" p) [e, ce] [] pos) (eXis cs [c] m) :=
  ⟨fun W tk => pe_weak (pe_callB call_Xis hg hm (by decide +kernel) (pa_cons (he.run W tk) (pa_cons hce pa_nil h2) h1) (by decide) (by decide) h1 hpl) fun σ H Q h => tE_of h fun rho env hh H1 d v R E q p => by
    cases o : xisO cs [c] d hh with
    | none => rw [o] at p; exact p.elim
    | some dd =>
      rw [o] at p
      obtain ⟨i, x, rfl, hi, hm, rfl⟩ := xisO_some o
      obtain ⟨T, hk⟩ := hcs _ hm
      refine ⟨v, cv, cu, T.C, _, rfl, rc, ex_kitOf T R q hi, hk, PostE.val (a := D.bl _) (b := V.bl _) (Rl := Den _) p R ?_⟩
      show V.bl _ = V.bl _
      simp⟩
/-- isinstance(e, (c1, c2, ..)) -/
theorem de_xisT {e : Expr} {ces : List Expr} {m : ME} {cs ws : List Str} {cvs : List V} {cus : List Value} {x1} {p tp pos : Pos} (hg : Gl X "isinstance") (hm : X.mg "isinstance" = none) (he : DE X e m) (hce : PA X ces (fun _ H Q => Q cvs H)) (hz : cvs.length ≤ 100) (rc : Paired (fun c u => ∀ w, RelV c w → w = u) cvs cus)
    (hcs : ∀ x ∈ cs, ∃ T : Xc X.K X.mg x, PySem.W.kitAny X.K (.ref T.C) cus = some (ws.any (subX x))) (h1 : starEach [e, .Tuple ces x1 tp] X.env = (false, eval e X.env) :: starEach [.Tuple ces x1 tp] X.env := by rfl)
    (h2 : starEach [.Tuple ces x1 tp] X.env = (false, eval (.Tuple ces x1 tp) X.env) :: starEach [] X.env := by rfl) (hpl : (backTo pos (starEach [.Tuple ces x1 tp] X.env)).any (·.1) = false := by rfl) :
    DE X (.Call (.Name "isinstance" p) [e, .Tuple ces x1 tp] [] pos) (eXis cs ws m) :=
  ⟨fun W tk => pe_weak (pe_callB call_XisT hg hm (by decide +kernel) (pa_cons (he.run W tk) (pa_cons (pe_tup hce) pa_nil h2) h1) (by decide) (by decide) h1 hpl) fun σ H Q h => tE_of h fun rho env hh H1 d v R E q p => by
    cases o : xisO cs ws d hh with
    | none => rw [o] at p; exact p.elim
    | some dd =>
      rw [o] at p
      obtain ⟨i, x, rfl, hi, hm, rfl⟩ := xisO_some o
      obtain ⟨T, hk⟩ := hcs _ hm
      refine ⟨by rw [sizeLine_eq]; omega, fun a na => ?_⟩
      have S := Step.laid (rho := rho) (o := HO.tup cvs) na
      have R' := R.laid (o := HO.tup cvs) na
      exact ⟨v, a, cvs, cus, T.C, _, rfl, upd_same, rc, ex_kitOf T R' (Den.step R S _ _ q) hi, hk, p rho _ _ S R' rfl⟩⟩
/-- e.f -/
def tXfld (K : PySem.W.Frag) (mg : Str → Option Value) (f : Str) (te : TE) : TE := fun σ H Q => te σ H fun v H1 => ∃ (x : Str) (a dd : Addr) (w : V) (T : Xc K mg x), v = .ref a ∧ H1 a = some (exAt a (.ref T.C) (some dd)) ∧ H1 dd = some (.xd [(f, w)]) ∧ PySem.W.findIn K (.ref T.C) f = some none ∧ Q w H1
theorem pe_xfld {e : Expr} {te : TE} {f : Str} {pos : Pos} (he : PE X e te) (hb : attributeBase e f X.env (eval e X.env) = eval e X.env := by rfl) : PE X (.Attribute e f pos) (tXfld X.K X.mg f te) := by
  refine ⟨fun pins s σ H Q I h => attr_of hb (thn (he.run pins s σ H _ I h) fun u s1 hh => ?_)⟩
  obtain ⟨v, H1, I1, rv, x, a, dd, w, T, rfl, ea, ed, hno, q⟩ := hh
  obtain rfl : u = Value.ref a := rv
  obtain ⟨oe, od, mA, J, hl, hr⟩ := ex_instS I1 ea ed
  obtain ⟨u, hu, ru⟩ := RelO.some_of (v := w) (o := mA f) (by have := hr f; simpa [List.lookup] using this)
  exact HandSPX.exc_get I1.kIn J T.ga T.gt T.ex (PySem.W.findObj_own T.hd hno rfl (by rw [hl, hu])) (handed_of ru) ⟨w, H1, I1.tok _, ru, q⟩
theorem xfldO_some {f : Str} {cs : List Str} {d r : D} {h : Hh} (e : xfldO f cs d h = some r) : ∃ i x, d = .ref i ∧ h[i]? = some (.exc x) ∧ x.cls ∈ cs ∧ x.fld = some (f, r) := by
  unfold xfldO at e
  split at e
  · rename_i i
    split at e
    · rename_i x hx
      split at e
      · rename_i hm
        split at e
        · rename_i g y hf
          split at e
          · rename_i hg
            subst hg
            cases e
            exact ⟨i, x, rfl, hx, hm, hf⟩
          · cases e
        · cases e
      · cases e
    · cases e
  · cases e
theorem de_xfld {e : Expr} {m : ME} {f : Str} {cs : List Str} {pos : Pos} (he : DE X e m) (hcs : ∀ x ∈ cs, ∃ T : Xc X.K X.mg x, PySem.W.findIn X.K (.ref T.C) f = some none) (hb : attributeBase e f X.env (eval e X.env) = eval e X.env := by rfl) : DE X (.Attribute e f pos) (eXfld f cs m) :=
  ⟨fun W tk => pe_weak (pe_xfld (he.run W tk) hb) fun σ H Q h => tE_of h fun rho env hh H1 d v R E q p => by
    cases o : xfldO f cs d hh with
    | none => rw [o] at p; exact p.elim
    | some dd =>
      rw [o] at p
      obtain ⟨i, x, rfl, hi, hm, hf⟩ := xfldO_some o
      obtain ⟨T, hno⟩ := hcs _ hm
      rw [Den] at q
      obtain ⟨a, ha, rfl⟩ := q
      obtain ⟨d, ea, hd⟩ := xc_at (mg := X.mg) (G := Cx.gm X) T R ha hi
      rw [hf] at hd
      obtain ⟨ad, w, rfl, ed, pl⟩ := hd
      exact ⟨x.cls, a, ad, w, T, rfl, ea, ed, hno, PostE.val (a := dd) (b := w) (Rl := Den _) p R pl.den⟩⟩
end
end MR

namespace MR
open PySem PySem.Spec PyProof.Rows L2
section
variable {K : PySem.W.Frag} {mg : Str → Option Value} {h : Heap}
def mkXc (X : K.In h) (G : h.Ns mainGlobals mg) {x : Str} {C : Addr} (a : PySem.W.nsIn K mainGlobals x = some (some (.ref C))) (kp : PySem.W.keepIn K (.ref C) = true) (cl : PySem.W.isClsIn K C = true)
    (ga : PySem.W.findIn K (.ref C) "__getattribute__" = some (some (.builtin "BaseException.__getattribute__"))) (gt : PySem.W.findIn K (.ref C) "__getattr__" = some none) (ex : PySem.W.subIn K (.ref C) (.type "BaseException") = some true)
    (ty : PySem.W.typeIn K (.ref C) = some (.type "type")) (ck : PySem.W.findIn K (.ref C) "__class__" = some (some (.builtin "object.__class__"))) (cs : PySem.W.specialIn K (.builtin "object.__class__") "__get__" = some (some (.builtin "getset_descriptor.__get__")))
    (ct : PySem.W.takesIn K (.builtin "object.__class__") = some true) (mo : PySem.W.mroIn K C (.type "object") = some true) (hd : PySem.W.hasDictIn K C = true) : Xc K mg x :=
  ⟨C, a, PySem.W.mg_of X G a, kp, cl, ga, gt, ex, ty, ck, cs, ct, mo, hd⟩
def mkXi (X : K.In h) {C : Addr} {n1 f qual : Str} {st : Stmt} {fI : Addr} {oc : Value} {od an : Option Addr} {osl : Array (Option Value)} {kV doc pm cdv ct : Value} {nm q : Str} {N : Addr} {bs bm : List Value} {sn : List Str} {sub : List Value} {ab : Bool} {col dd k0 k1 k2 k3 k5}
    (cls : K.lookup C = some (excClassObj nm q C N bs bm true sn sub ab col dd k0 k1 k2 k3 k5 "ValueError.__new__")) (rv : PySem.HandSPX.refsVE bm = true) (sa : PySem.W.findIn K (.ref C) "__setattr__" = some (some (.builtin "object.__setattr__")))
    (ex : PySem.W.subIn K (.ref C) (.type "BaseException") = some true) (ty : PySem.W.typeIn K (.ref C) = some (.type "type")) (kp : PySem.W.keepIn K (.ref C) = true)
    (iC : PySem.W.findIn K (.ref C) "__init__" = some (some (.ref fI))) (l : K.lookup fI = some ⟨oc, od, .func (PySem.W.fnOf "__init__" qual (defArgs st) (defBody st) (defScope st) .none kV doc pm an cdv ct), osl⟩) (c : PySem.W.codeIn K cdv qual = true) (kf : PySem.W.keepIn K (.ref fI) = true)
    (tI : PySem.W.typeIn K (.ref fI) = some (.type "function")) (no : PySem.W.findIn K (.ref C) f = some none)
    (hb : ∀ (kV doc pm : Value) (an : Option Addr) (cdv ct : Value) (us : List Value), us.length = 2 → bindArgs (PySem.W.fnOf "__init__" qual (defArgs st) (defBody st) (defScope st) .none kV doc pm an cdv ct) ⟨us, []⟩ = pure ([n1, f].zip us)) : Xi K C n1 f qual st :=
  ⟨⟨⟨nm, q, N, bs, bm, sn, sub, ab, col, dd, k0, k1, k2, k3, k5, cls, rv⟩, sa, ex, ty, kp⟩, fI, _, .inl (fun_mk l c kf), iC, tI, (fun_mk l c kf).binds hb, no⟩
theorem fund_mk {qual : Str} {st : Stmt} {fI Td : Addr} {oc oc' : Value} {od an : Option Addr} {osl osl' : Array (Option Value)} {od' : Option Addr} {m : Nat} {kV doc pm cdv ct : Value}
    (l : K.lookup fI = some ⟨oc, od, .func (PySem.W.fnOf "__init__" qual (defArgs st) (defBody st) (defScope st) (.ref Td) kV doc pm an cdv ct), osl⟩) (lT : K.lookup Td = some ⟨oc', od', .seq #[.none] m, osl'⟩) (c : PySem.W.codeIn K cdv qual = true) (kf : PySem.W.keepIn K (.ref fI) = true) :
    FunD K "__init__" qual (defArgs st) (defBody st) (defScope st) [.non] [] fI (PySem.W.fnOf "__init__" qual (defArgs st) (defBody st) (defScope st) (.ref Td) kV doc pm an cdv ct) :=
  ⟨⟨oc, od, .ref Td, kV, doc, pm, an, cdv, ct, osl, rfl, l, c, .inr ⟨(by decide), Td, _, [.none], m, rfl, lT, rfl, .cons rfl .nil⟩, .inl rfl⟩, kf⟩
/-- an exception whose field has None for its default -/
def mkXiD (X : K.In h) {C : Addr} {n1 f qual : Str} {st : Stmt} {fI Td : Addr} {oc oc' : Value} {od an : Option Addr} {osl osl' : Array (Option Value)} {od' : Option Addr} {m : Nat} {kV doc pm cdv ct : Value} {nm q : Str} {N : Addr} {bs bm : List Value} {sn : List Str} {sub : List Value} {ab : Bool} {col dd k0 k1 k2 k3 k5}
    (cls : K.lookup C = some (excClassObj nm q C N bs bm true sn sub ab col dd k0 k1 k2 k3 k5 "ValueError.__new__")) (rv : PySem.HandSPX.refsVE bm = true) (sa : PySem.W.findIn K (.ref C) "__setattr__" = some (some (.builtin "object.__setattr__")))
    (ex : PySem.W.subIn K (.ref C) (.type "BaseException") = some true) (ty : PySem.W.typeIn K (.ref C) = some (.type "type")) (kp : PySem.W.keepIn K (.ref C) = true)
    (iC : PySem.W.findIn K (.ref C) "__init__" = some (some (.ref fI))) (l : K.lookup fI = some ⟨oc, od, .func (PySem.W.fnOf "__init__" qual (defArgs st) (defBody st) (defScope st) (.ref Td) kV doc pm an cdv ct), osl⟩) (lT : K.lookup Td = some ⟨oc', od', .seq #[.none] m, osl'⟩) (c : PySem.W.codeIn K cdv qual = true) (kf : PySem.W.keepIn K (.ref fI) = true)
    (tI : PySem.W.typeIn K (.ref fI) = some (.type "function")) (no : PySem.W.findIn K (.ref C) f = some none)
    (hb : ∀ (T : Addr) (kV doc pm : Value) (an : Option Addr) (cdv ct : Value) (us its : List Value), us.length = 2 → its.length = 1 →
      ∃ k, bindArgs (PySem.W.fnOf "__init__" qual (defArgs st) (defBody st) (defScope st) (.ref T) kV doc pm an cdv ct) ⟨us, []⟩ = seqItems? (.ref T) >>= k ∧ k (some its.toArray) = pure ([n1, f].zip (us ++ its.drop 1))) : Xi K C n1 f qual st :=
  ⟨⟨⟨nm, q, N, bs, bm, sn, sub, ab, col, dd, k0, k1, k2, k3, k5, cls, rv⟩, sa, ex, ty, kp⟩, fI, _, .inr (fund_mk l lT c kf), iC, tI, (by
    obtain ⟨ds, hv, b⟩ := (fund_mk l lT c kf).binds1 (ps := [n1, f]) 2 1 (by decide) rfl hb
    cases hv
    exact b), no⟩
def mkXp (X : K.In h) {C : Addr} (q : PySem.W.excIn K C [.type "ValueError", .type "Exception", .type "BaseException", .type "object"] "ValueError.__new__" = true) : Xp K C := ⟨_, q, F.excBase_ValueError⟩
def mkXb (X : K.In h) {C : Addr} (rd : PySem.W.readsIn K C (.type "type") = true) (ga : PySem.W.specialIn K (.ref C) "__getattribute__" = some (some (.builtin "type.__getattribute__"))) (k : PySem.W.findCls K (.ref C) (.type "type") "__init__" = some (.val (.builtin "ValueError.__init__"))) : Xb K C :=
  ⟨.type "type", ⟨rd, ga⟩, k⟩
theorem mkSub (X : K.In h) {a b : Value} {r : Bool} (e : PySem.W.subIn K a b = some r) : PySem.W.subIn K a b = some r := e
end
section
variable {K : PySem.W.Frag} {mg : Str → Option Value} {x c : Str}
theorem exm_of (B : Xc K mg c) {t : Value} {b : Bool} (h : PySem.W.subIn K t (.ref B.C) = some b) : PySem.W.exmOne K t (.ref B.C) = some b := PySem.W.exm_ref B.ex B.hd B.ty h
theorem kit_ref (B : Xc K mg c) {t : Value} {b : Bool} (h : PySem.W.subIn K t (.ref B.C) = some b) (he : t = .ref B.C → b = true) : PySem.W.kitOne K t (.ref B.C) = some b := by
  unfold PySem.W.kitOne
  by_cases e : (t == Value.ref B.C) = true
  · rw [if_pos e, he (beq_iff_eq.mp e)]
  · rw [if_neg e]
    unfold PySem.W.kitCls
    have e2 : ((PySem.W.clsIn K B.C).isSome && PySem.W.typeIn K (.ref B.C) == some (.type "type")) = true := by rw [B.cl, B.ty] <;> rfl
    dsimp only
    rw [if_pos e2, h]
theorem kit_ve {A : Addr} {b : Bool} (h : PySem.W.subIn K (.ref A) (.type "ValueError") = some b) : PySem.W.kitOne K (.ref A) (.type "ValueError") = some b := by
  unfold PySem.W.kitOne
  rw [if_neg (by intro z; cases (beq_iff_eq.mp z))]
  unfold PySem.W.kitCls
  dsimp only
  rw [if_pos (by decide +kernel), h]
theorem kitAny_of {t : Value} {x : Str} : ∀ {ws : List Str} {us : List Value}, Paired (fun c u => PySem.W.kitOne K t u = some (subX x c)) ws us → PySem.W.kitAny K t us = some (ws.any (subX x))
  | _, _, .nil => rfl
  | _, _, .cons (a := c) (l₁ := ws) h r => kitAny_cons h (fun hb => by rw [kitAny_of r, List.any_cons, hb, Bool.false_or]) fun hb => by rw [List.any_cons, hb, Bool.true_or]
end
end MR

namespace MR
open PySem PySem.Spec PyProof.Rows L2
def k_note (cs : List Str) (c : Str) (i j : Nat) : RS → RS := fun r => match r with
  | .er x env1 h1 => if x.cls ∈ cs then (if subX x.cls c = true then .nx (((env1.set i (some (.ref h1.length))).set j (some (.ref h1.length))).set i none) (h1 ++ [.exc x]) else .er x env1 h1) else .stuck
  | r => r
@[simp] theorem ev_note (cs : List Str) (c : Str) (i j : Nat) (b : MS) (env : DEnv) (h : Hh) : sNote cs c i j b env h = k_note cs c i j (b env h) := rfl
@[simp] theorem ev_note_er (cs : List Str) (c : Str) (i j : Nat) (x : Exn) (env : DEnv) (h : Hh) : k_note cs c i j (.er x env h) = if x.cls ∈ cs then (if subX x.cls c = true then .nx (((env.set i (some (.ref h.length))).set j (some (.ref h.length))).set i none) (h ++ [.exc x]) else .er x env h) else .stuck := rfl
@[simp] theorem ev_note_nx (cs : List Str) (c : Str) (i j : Nat) (env : DEnv) (h : Hh) : k_note cs c i j (.nx env h) = .nx env h := rfl
@[simp] theorem ev_note_rt (cs : List Str) (c : Str) (i j : Nat) (d : D) (h : Hh) : k_note cs c i j (.rt d h) = .rt d h := rfl
def k_try (cs : List Str) (c : Str) (s : MS) : RS → RS := fun r => match r with
  | .er x env1 h1 => if x.cls ∈ cs then (if subX x.cls c = true then (s env1 h1).calm else .er x env1 h1) else .stuck
  | r => r
@[simp] theorem ev_try (cs : List Str) (c : Str) (b s : MS) (env : DEnv) (h : Hh) : sTry cs c b s env h = k_try cs c s (b env h) := rfl
@[simp] theorem ev_try_er (cs : List Str) (c : Str) (s : MS) (x : Exn) (env : DEnv) (h : Hh) : k_try cs c s (.er x env h) = if x.cls ∈ cs then (if subX x.cls c = true then (s env h).calm else .er x env h) else .stuck := rfl
@[simp] theorem ev_try_nx (cs : List Str) (c : Str) (s : MS) (env : DEnv) (h : Hh) : k_try cs c s (.nx env h) = .nx env h := rfl
@[simp] theorem ev_try_rt (cs : List Str) (c : Str) (s : MS) (d : D) (h : Hh) : k_try cs c s (.rt d h) = .rt d h := rfl
@[simp] theorem ev_calm_nx (env : DEnv) (h : Hh) : (RS.nx env h).calm = .nx env h := rfl
@[simp] theorem ev_calm_rt (d : D) (h : Hh) : (RS.rt d h).calm = .rt d h := rfl
def k_xis (cs ws : List Str) : D → Hh → Res D := fun d h1 => lift (xisO cs ws d h1) h1
@[simp] theorem ev_xis (cs ws : List Str) (m : ME) (env : DEnv) (h : Hh) : eXis cs ws m env h = (m env h).bind (k_xis cs ws) := rfl
@[simp] theorem ev_k_xis (cs ws : List Str) (d : D) (h : Hh) : k_xis cs ws d h = lift (xisO cs ws d h) h := rfl
def refXis (cs ws : List Str) (o : Option O) : Option D := match o with
  | some (.exc x) => if x.cls ∈ cs then some (.bl (ws.any (subX x.cls))) else none
  | _ => none
@[simp] theorem ev_xisO (cs ws : List Str) (i : Nat) (h : Hh) : xisO cs ws (.ref i) h = refXis cs ws h[i]? := rfl
@[simp] theorem ev_refXis (cs ws : List Str) (x : Exn) : refXis cs ws (some (.exc x)) = if x.cls ∈ cs then some (.bl (ws.any (subX x.cls))) else none := rfl
def k_xfld (f : Str) (cs : List Str) : D → Hh → Res D := fun d h1 => lift (xfldO f cs d h1) h1
@[simp] theorem ev_xfld (f : Str) (cs : List Str) (m : ME) (env : DEnv) (h : Hh) : eXfld f cs m env h = (m env h).bind (k_xfld f cs) := rfl
@[simp] theorem ev_k_xfld (f : Str) (cs : List Str) (d : D) (h : Hh) : k_xfld f cs d h = lift (xfldO f cs d h) h := rfl
def refXfld (f : Str) (cs : List Str) (o : Option O) : Option D := match o with
  | some (.exc x) => if x.cls ∈ cs then (match x.fld with | some (g, y) => if g = f then some y else none | none => none) else none
  | _ => none
@[simp] theorem ev_xfldO (f : Str) (cs : List Str) (i : Nat) (h : Hh) : xfldO f cs (.ref i) h = refXfld f cs h[i]? := rfl
@[simp] theorem ev_refXfld (f : Str) (cs : List Str) (c g : Str) (y : D) : refXfld f cs (some (.exc ⟨c, some (g, y)⟩)) = if c ∈ cs then (if g = f then some y else none) else none := rfl
def k_mkI (x f w1 : Str) : Res D → Res Exn := fun r => match r with
  | .ok (.int i) h1 => if i.natAbs.log2 < 1920 ∧ (Str.empty ++ w1).length ≤ sizeLine ∧ (Str.empty ++ w1 ++ (toString i : Str)).length ≤ sizeLine then .ok ⟨x, some (f, .int i)⟩ h1 else .stuck
  | .ok .non h1 => if (Str.empty ++ w1).length ≤ sizeLine ∧ (Str.empty ++ w1 ++ ("None" : Str)).length ≤ sizeLine then .ok ⟨x, some (f, .non)⟩ h1 else .stuck
  | _ => .stuck
def k_raise (env : DEnv) : Res Exn → RS := fun r => match r with
  | .ok x h1 => .er x env h1
  | _ => .stuck
@[simp] theorem ev_raise (m : MX) (env : DEnv) (h : Hh) : sRaise m env h = k_raise env (m env h) := rfl
@[simp] theorem ev_k_raise (env : DEnv) (x : Exn) (h : Hh) : k_raise env (.ok x h) = .er x env h := rfl
@[simp] theorem ev_mkI (x f w1 : Str) (m : ME) (env : DEnv) (h : Hh) : mkI x f w1 m env h = k_mkI x f w1 (m env h) := rfl
theorem ev_k_mkI (x f w1 : Str) (i : Int) (h : Hh) (hc : i.natAbs.log2 < 1920 ∧ (Str.empty ++ w1).length ≤ sizeLine ∧ (Str.empty ++ w1 ++ (toString i : Str)).length ≤ sizeLine) : k_mkI x f w1 (.ok (.int i) h) = .ok ⟨x, some (f, .int i)⟩ h := if_pos hc
theorem ev_k_mkIN (x f w1 : Str) (h : Hh) (hc : fitsN w1) : k_mkI x f w1 (.ok .non h) = .ok ⟨x, some (f, .non)⟩ h := if_pos hc
def k_mkP (x : Str) : Res D → Res Exn := fun r => match r with
  | .ok _ h1 => .ok ⟨x, none⟩ h1
  | _ => .stuck
@[simp] theorem ev_mkP (x : Str) (m : ME) (env : DEnv) (h : Hh) : mkP x m env h = k_mkP x (m env h) := rfl
@[simp] theorem ev_k_mkP (x : Str) (d : D) (h : Hh) : k_mkP x (.ok d h) = .ok ⟨x, none⟩ h := rfl
@[simp] theorem ev_outR_er (x : Exn) (env : DEnv) (h : Hh) : outR (.er x env h) = .err x h := rfl
@[simp] theorem subX_self (x : Str) : subX x x = true := by unfold subX; simp
@[simp] theorem subX_ge (x : Str) : subX x "GuestError" = true := by unfold subX; simp
@[simp] theorem subX_ve (x : Str) : subX x "ValueError" = true := by unfold subX; simp
@[simp] theorem subX_NoDeed_NoText : subX "NoDeed" "NoText" = false := by decide +kernel
@[simp] theorem subX_NoDeed_TooMany : subX "NoDeed" "TooMany" = false := by decide +kernel
@[simp] theorem subX_NoDeed_NoLine : subX "NoDeed" "NoLine" = false := by decide +kernel
@[simp] theorem subX_NoText_NoDeed : subX "NoText" "NoDeed" = false := by decide +kernel
@[simp] theorem subX_NoText_TooMany : subX "NoText" "TooMany" = false := by decide +kernel
@[simp] theorem subX_NoText_NoLine : subX "NoText" "NoLine" = false := by decide +kernel
@[simp] theorem subX_TooMany_NoDeed : subX "TooMany" "NoDeed" = false := by decide +kernel
@[simp] theorem subX_TooMany_NoText : subX "TooMany" "NoText" = false := by decide +kernel
@[simp] theorem subX_TooMany_NoLine : subX "TooMany" "NoLine" = false := by decide +kernel
@[simp] theorem subX_NoLine_NoDeed : subX "NoLine" "NoDeed" = false := by decide +kernel
@[simp] theorem subX_NoLine_NoText : subX "NoLine" "NoText" = false := by decide +kernel
@[simp] theorem subX_NoLine_TooMany : subX "NoLine" "TooMany" = false := by decide +kernel
end MR

namespace MR
open PySem PySem.Spec PyProof.Rows L2
def sPar3 (i j l : Nat) (ms : MA) : MS := fun env h => (ms env h).st env fun ds h1 => match ds with
  | [d1, d2, d3] => .nx (((env.set i (some d1)).set j (some d2)).set l (some d3)) h1
  | _ => .stuck
section
variable {X : Cx} {pos : Pos}
end
end MR

namespace MR
open PySem PySem.Spec PyProof.Rows L2
mutual
/-- a key, as it stands -/
def NkV (K : PySem.W.Frag) (H : Hp) : NestedKey → V → Prop
  | .none, v => v = .non
  | .num i, v => v = .int i ∨ ∃ b : Bool, v = .bl b ∧ i = if b = true then 1 else 0
  | .text x, v => v = .str x
  | .tup ks, v => ∃ a vs, v = .ref a ∧ SqTS K H a vs ∧ NkVs K H ks vs
def NkVs (K : PySem.W.Frag) (H : Hp) : List NestedKey → List V → Prop
  | [], vs => vs = []
  | k :: ks, vs => ∃ v r, vs = v :: r ∧ NkV K H k v ∧ NkVs K H ks r
end
mutual
theorem nkv_of {G : Gm} {rho : Rm} {H : Hp} : ∀ (d : D) (v : V) (k : NestedKey), Den G rho H d v → nk d = some k → NkV G.K H k v
  | .non, v, k, q, e => by rw [nk] at e; cases e; exact q
  | .bl b, v, k, q, e => by
    rw [nk] at e
    cases e
    rw [NkV]
    exact .inr ⟨b, q, rfl⟩
  | .int i, v, k, q, e => by
    rw [nk] at e
    cases e
    rw [NkV]
    exact .inl q
  | .str x, v, k, q, e => by rw [nk] at e; cases e; exact q
  | .tup ds, v, k, q, e => by
    rw [nk] at e
    obtain ⟨ks, e1, rfl⟩ := Option.map_eq_some_iff.mp e
    rw [Den] at q
    obtain ⟨a, vs, e2, q1, l, q2⟩ := q
    rw [NkV]
    exact ⟨a, vs, e2, q1, nkvs_of ds vs ks q2 e1⟩
  | .wtp _, v, k, q, e => by rw [nk] at e; cases e
  | .lst _, v, k, q, e => by rw [nk] at e; cases e
  | .ref _, v, k, q, e => by rw [nk] at e; cases e
  | .glb _, v, k, q, e => by rw [nk] at e; cases e
  | .scr _, v, k, q, e => by rw [nk] at e; cases e
  | .dct _ _, v, k, q, e => by rw [nk] at e; cases e
theorem nkvs_of {G : Gm} {rho : Rm} {H : Hp} : ∀ (ds : List D) (vs : List V) (ks : List NestedKey), Dens G rho H ds vs → nks ds = some ks → NkVs G.K H ks vs
  | [], vs, ks, q, e => by rw [nks] at e; cases e; exact q
  | d :: ds, vs, ks, q, e => by
    rw [nks] at e
    rw [Dens] at q
    obtain ⟨v, r, rfl, q1, q2⟩ := q
    cases e1 : nk d with
    | none => rw [e1] at e; cases e
    | some k =>
      cases e2 : nks ds with
      | none => rw [e1, e2] at e; cases e
      | some ks' =>
        rw [e1, e2] at e
        cases e
        rw [NkVs]
        exact ⟨v, r, rfl, nkv_of d v k q1 e1, nkvs_of ds r ks' q2 e2⟩
end
section
variable {X : Cx} {pins : List (Addr × Obj)} {σ : L2.St} {H : Hp} {s : Shared}
mutual
theorem nkv_is (I : Inv X pins σ H s) : ∀ (k : NestedKey) (v : V) (u : Value), NkV X.K H k v → RelV v u → NestedIs s.heap k u
  | .none, v, u, q, r => by
    rw [NkV] at q
    subst q
    cases (show u = Value.none from r)
    exact .none
  | .num i, v, u, q, r => by
    rw [NkV] at q
    rcases q with rfl | ⟨b, rfl, e⟩
    · obtain ⟨t, rfl⟩ := (show ∃ t, u = Value.int i t from r)
      exact .int i t
    · cases (show u = Value.bool b from r)
      exact .bool e
  | .text x, v, u, q, r => by
    rw [NkV] at q
    subst q
    obtain ⟨t, rfl⟩ := (show ∃ t, u = Value.str x t from r)
    exact .text x t
  | .tup ks, v, u, q, r => by
    rw [NkV] at q
    obtain ⟨a, vs, rfl, sq, q2⟩ := q
    cases (show u = Value.ref a from r)
    obtain ⟨its, rv, ⟨o, ho, hc, n, hd⟩, _⟩ := I.tuple sq.t
    exact .tup ho hc hd (by
      have : its.toArray.toList = its := by simp
      rw [this]
      exact nkvs_is I ks vs its q2 rv)
theorem nkvs_is (I : Inv X pins σ H s) : ∀ (ks : List NestedKey) (vs : List V) (us : List Value), NkVs X.K H ks vs → Vals vs us → NestedAll s.heap ks us
  | [], vs, us, q, r => by
    rw [NkVs] at q
    subst q
    cases r
    exact .nil
  | k :: ks, vs, us, q, r => by
    rw [NkVs] at q
    obtain ⟨v, rs, rfl, q1, q2⟩ := q
    cases r with
    | cons r1 r2 => exact .cons (nkv_is I k v _ q1 r1) (nkvs_is I ks rs _ q2 r2)
end
end
/-- at d stands a dict with these entries -/
structure DnV (P : Program) (w : World) (K : PySem.W.Frag) (H : Hp) (d : Addr) (xs : List (NestedKey × Addr × Value)) : Prop where
  lo : (d == sysModules) = false
  few : xs.length ≤ sizeLine
  ex : ∃ es, H d = some (.ext (dictRaw d es)) ∧ es.toList = xs.map (entryOfKey (nestedKind P w))
  nd : (xs.map (·.1)).Nodup
  is : ∀ x ∈ xs, NkV K H x.1 (.ref x.2.1) ∧ x.1.depth ≤ 8
theorem DnV.at {X : Cx} {pins : List (Addr × Obj)} {σ : L2.St} {H : Hp} {s : Shared} (I : Inv X pins σ H s) {d : Addr} {xs : List (NestedKey × Addr × Value)} (h : DnV X.prog X.w X.K H d xs) : s.heap.DictOfH (nestedKind X.prog X.w) d xs := by
  obtain ⟨es, e1, e2⟩ := h.ex
  have x : ObjOk X.prog X.w H s.heap d (.ext (dictRaw d es)) := I.hok d _ e1
  obtain ⟨⟨o, ep, h1, h2, h3⟩, _, _⟩ := x
  exact ⟨o, es, ep, h1, h2, h3, e2, fun y hy => ⟨nkv_is I y.1 _ _ (h.is y hy).1 rfl, (h.is y hy).2⟩, h.nd⟩
abbrev DnR (G : Gm) (rho : Rm) (H : Hp) : List (D × D) → List (NestedKey × Addr × Value) → Prop := Paired (fun (p : D × D) (q : NestedKey × Addr × Value) => nk p.1 = some q.1 ∧ Den G rho H p.1 (.ref q.2.1) ∧ ∃ v, RelV v q.2.2 ∧ Den G rho H p.2 v)
def getN (kvs : List (D × D)) (k : NestedKey) : Option D := (kvs.find? fun p => decide (nk p.1 = some k)).map (·.2)
def hasN (kvs : List (D × D)) (k : NestedKey) : Bool := kvs.any fun p => decide (nk p.1 = some k)
def putN (kvs : List (D × D)) (kd : D) (k : NestedKey) (v : D) : List (D × D) := if hasN kvs k = true then kvs.map (fun p => if nk p.1 = some k then (p.1, v) else p) else kvs ++ [(kd, v)]
section
variable {G : Gm} {rho : Rm} {H : Hp} {kvs : List (D × D)} {xs : List (NestedKey × Addr × Value)} {k : NestedKey}
theorem DnR.get (h : DnR G rho H kvs xs) {d : D} (e : getN kvs k = some d) : ∃ p : Addr × Value, atKey xs k = some p ∧ ∃ v, RelV v p.2 ∧ Den G rho H d v := by
  induction h with
  | nil => cases e
  | @cons p q ps qs r t ih =>
    unfold getN at e
    rw [List.find?_cons] at e
    by_cases hk : nk p.1 = some k
    · simp only [hk, decide_true, Option.map_some, Option.some.injEq] at e
      subst e
      have : q.1 = k := by
        have := r.1.symm.trans hk
        exact Option.some.inj this
      refine ⟨q.2, ?_, r.2.2⟩
      unfold atKey
      rw [List.find?_cons, decide_eq_true this]; rfl
    · have : decide (nk p.1 = some k) = false := decide_eq_false hk
      rw [this] at e
      obtain ⟨z, e1, e2⟩ := ih e
      refine ⟨z, ?_, e2⟩
      unfold atKey at e1 ⊢
      rw [List.find?_cons, decide_eq_false (fun z => hk (by rw [r.1, z]))]
      exact e1
theorem DnR.has (h : DnR G rho H kvs xs) : (atKey xs k).isSome = hasN kvs k := by
  induction h with
  | nil => rfl
  | @cons p q ps qs r t ih =>
    unfold hasN atKey at ih ⊢
    rw [List.find?_cons, List.any_cons]
    by_cases hk : q.1 = k
    · rw [decide_eq_true hk, decide_eq_true (by rw [r.1, hk] : nk p.1 = some k)]; rfl
    · rw [decide_eq_false hk, decide_eq_false (fun z => hk (Option.some.inj (r.1.symm.trans z)) : ¬ nk p.1 = some k)]
      exact ih
theorem DnR.put (h : DnR G rho H kvs xs) {kd d : D} {a : Addr} {u : Value} {v : V} (ek : nk kd = some k) (qk : Den G rho H kd (.ref a)) (rv : RelV v u) (qd : Den G rho H d v) : DnR G rho H (putN kvs kd k d) (storedH xs k a u) := by
  unfold putN storedH
  rw [← h.has]
  split
  · rename_i hs
    clear hs
    induction h with
    | nil => exact .nil
    | @cons p q ps qs r t ih =>
      rw [List.map_cons, List.map_cons]
      refine .cons ?_ ih
      unfold putAt
      by_cases hk : q.1 = k
      · rw [if_pos hk, if_pos (by rw [r.1, hk])]
        exact ⟨r.1, r.2.1, v, rv, qd⟩
      · rw [if_neg hk, if_neg (fun z => hk (Option.some.inj (r.1.symm.trans z)))]
        exact r
  · have app : ∀ {a : List (D × D)} {b : List (NestedKey × Addr × Value)} {a2 b2}, DnR G rho H a b → DnR G rho H a2 b2 → DnR G rho H (a ++ a2) (b ++ b2) := by
      intro a b a2 b2 h h2
      induction h with
      | nil => exact h2
      | cons r t ih => exact .cons r ih
    exact app h (.cons ⟨ek, qk, v, rv, qd⟩ .nil)
end
section
variable {X : Cx}
end
theorem DnR.step {G : Gm} {rho rho' : Rm} {H H' : Hp} {hh : Hh} (R : Rep G rho hh H) (S : Step rho H rho' H') {a : List (D × D)} {b : List (NestedKey × Addr × Value)} (h : DnR G rho H a b) : DnR G rho' H' a b :=
  Paired.mapP h fun p q r => ⟨r.1, Den.step R S _ _ r.2.1, let ⟨v, r1, r2⟩ := r.2.2; ⟨v, r1, Den.step R S _ _ r2⟩⟩
end MR

namespace MR
open PySem PySem.Spec PyProof.Rows L2
def OptN (G : Gm) (rho : Rm) (H : Hp) : Option D → Option Value → Prop
  | some d, some u => ∃ v, RelV v u ∧ Den G rho H d v
  | none, none => True
  | _, _ => False
theorem DnR.getO {G : Gm} {rho : Rm} {H : Hp} {kvs : List (D × D)} {xs : List (NestedKey × Addr × Value)} {k : NestedKey} (h : DnR G rho H kvs xs) : OptN G rho H (getN kvs k) ((atKey xs k).map (·.2)) := by
  induction h with
  | nil => trivial
  | @cons p q ps qs r t ih =>
    unfold getN atKey at ih ⊢
    rw [List.find?_cons, List.find?_cons]
    by_cases hk : q.1 = k
    · rw [decide_eq_true hk, decide_eq_true (by rw [r.1, hk] : nk p.1 = some k)]
      exact r.2.2
    · rw [decide_eq_false hk, decide_eq_false (fun z => hk (Option.some.inj (r.1.symm.trans z)) : ¬ nk p.1 = some k)]
      exact ih
section
variable {X : Cx} {pins : List (Addr × Obj)} {σ : L2.St} {H : Hp} {s : Shared} {a : Addr}
end
section
variable {X : Cx} {o e f : Expr} {apos cpos : Pos} {td ty tx : TE}
end
section
variable {X : Cx} {o e f : Expr} {apos cpos : Pos} {md mk mx : ME}
end
def inKO (neg : Bool) : Op2 := fun a b h => match dictOf b h, keyD a with
  | some kvs, some k => some (.bl (if neg = true then !(getG kvs k).isSome else (getG kvs k).isSome))
  | _, _ => none
def rInK (neg : Bool) : R2 := fun x y H Q => ∃ (a : Addr) (o : Option V), y = .ref a ∧ DGet H a x o ∧ Q (.bl (if neg = true then !o.isSome else o.isSome)) H
theorem op_notInK {X : Cx} (hu : X.A.units + 65 < cLine) : OpR X (compareOp .NotIn) (rInK true) := by
  intro pins s σ H x y v u Q I rx ry h
  obtain ⟨a, o, rfl, g, q⟩ := h
  cases (show u = Value.ref a from ry)
  exact d_notIn (by omega) I g rx fun s' I' => ⟨.bl _, H, I', rfl, q⟩
theorem rz_inK {G : Gm} (neg : Bool) : Rz2 G (rInK neg) (inKO neg) := fun rho hh H d1 d2 v1 v2 d Q R q1 q2 e k => by
  unfold inKO at e
  split at e
  · rename_i kvs key e1 e2
    cases e
    obtain ⟨a, ws, rfl, ha, z⟩ := dictOf_of R q2 e1
    have ek := keyD_of e2 q1
    subst ek
    refine ⟨a, valV ws key, rfl, .k ha, ?_⟩
    have : (valV ws key).isSome = (getG kvs key).isSome := by
      cases g : getG kvs key with
      | none => rw [KD.none z g]; rfl
      | some d =>
        obtain ⟨v, e3, e4⟩ := KD.get z g
        rw [e3]; rfl
    rw [this]
    exact k _ H .refl R rfl
  · cases e
end MR

namespace MR
open PySem PySem.Spec PyProof.Rows L2
end MR

namespace MR
open PySem PySem.Spec PyProof.Rows L2
end MR

namespace MR
open PySem PySem.Spec PyProof.Rows L2
section
variable {X : Cx} {e : Expr} {m : ME} {pos p : Pos} {x : Str}
end
end MR

namespace MR
open PySem PySem.Spec PyProof.Rows L2
end MR

namespace MR
open PySem PySem.Spec PyProof.Rows L2
section
variable {G : Gm} {rho : Rm} {H : Hp}
end
end MR

namespace PySem
open Spec PyProof.Rows
end PySem
namespace MR
open PySem PySem.Spec PyProof.Rows L2
section
variable {X : Cx} {pins : List (Addr × Obj)} {σ : L2.St} {H : Hp} {s : Shared}
end
end MR

namespace MR
open PySem PySem.Spec PyProof.Rows L2
def k_fld (x f : Str) : D → Hh → Res D := fun d h => lift (fldO x f d h) h
@[simp] theorem ev_fld (x f : Str) (m : ME) (env : DEnv) (h : Hh) : eFld x f m env h = (m env h).bind (k_fld x f) := rfl
@[simp] theorem ev_k_fld (x f : Str) (d : D) (h : Hh) : k_fld x f d h = lift (fldO x f d h) h := rfl
def k_mtd2 (F : MF) (o : D) : List D → Hh → Res D := fun ds h => F (o :: ds) h
def k_mtd (x m : Str) (F : MF) (ms : MA) (env : DEnv) : D → Hh → Res D := fun o h => if isIns x m o h = true then (ms env h).bind (k_mtd2 F o) else .stuck
@[simp] theorem ev_mtd (x m : Str) (F : MF) (mo : ME) (ms : MA) (env : DEnv) (h : Hh) : eMtd x m F mo ms env h = (mo env h).bind (k_mtd x m F ms env) := rfl
@[simp] theorem ev_k_mtd (x m : Str) (F : MF) (ms : MA) (env : DEnv) (o : D) (h : Hh) : k_mtd x m F ms env o h = if isIns x m o h = true then (ms env h).bind (k_mtd2 F o) else .stuck := rfl
@[simp] theorem ev_k_mtd2 (F : MF) (o : D) (ds : List D) (h : Hh) : k_mtd2 F o ds h = F (o :: ds) h := rfl
end MR

namespace MR
open PySem PySem.Spec PyProof.Rows L2
section
variable {X : Cx} {pins : List (Addr × Obj)} {σ : L2.St} {H : Hp} {s : Shared}
end
section
variable {G : Gm} {rho : Rm} {H : Hp} {hh : Hh}
end
section
variable {X : Cx} {e : Expr} {m : ME} {pos p : Pos} {x : Str}
end
end MR

namespace MR
open PySem PySem.Spec PyProof.Rows L2
/-- a.split(b), a new list -/
def splO (a b : D) : Option (List D) := match a, b with
  | .str x, .str y => if (y.length == 0) = false ∧ x.length + 2 ≤ sizeLine then some ((Txt.split x y).map D.str) else none
  | _, _ => none
def isS (d : D) : Bool := match d with
  | .str _ => true
  | _ => false
theorem isS_some {d : D} (h : isS d = true) : ∃ x, d = .str x := by cases d <;> first | exact ⟨_, rfl⟩ | cases h
def aSplit (ma mb : ME) : MA := fun env h => (ma env h).bind fun a h1 => if isS a = true then (mb env h1).bind fun b h2 => lift (splO a b) h2 else .stuck
theorem dens_strs {G : Gm} {rho : Rm} {H : Hp} : ∀ ys : List Str, Dens G rho H (ys.map D.str) (ys.map V.str)
  | [] => by rw [List.map_nil, Dens]; rfl
  | y :: ys => by rw [List.map_cons, Dens]; exact ⟨_, _, rfl, rfl, dens_strs ys⟩
section
variable {X : Cx} {o e : Expr} {ma mb : ME} {apos pos : Pos}
theorem dl_split (ho : DE X o ma) (he : DE X e mb) (hs : starEach [e] X.env = [(false, eval e X.env)] := by rfl) (hbase : attributeBase o "split" X.env (eval o X.env) = eval o X.env := by rfl) (hline : (apos.endLine == pos.line) = true := by rfl) :
    DL X (.Call (.Attribute o "split" apos) [e] [] pos) (aSplit ma mb) :=
  ⟨fun W tk => pe_weak (pe_split (ho.run W tk) (he.run W tk) hs hbase hline) fun σ H Q hq => by
    obtain ⟨rho, env, hh, R, E, p⟩ := hq
    refine ⟨rho, env, hh, R, E, ?_⟩
    unfold aSplit at p
    cases e1 : ma env hh with
    | stuck => rw [e1] at p; exact p
    | err z h1 => rw [e1] at p; exact p
    | ok d h1 =>
      rw [e1, bind_ok] at p
      intro rho1 H1 v1 S1 R1 q1
      by_cases hd : isS d = true
      · rw [if_pos hd] at p
        obtain ⟨x, rfl⟩ := isS_some hd
        obtain rfl : v1 = V.str x := q1
        refine ⟨⟨x, rfl⟩, rho1, env, h1, R1, E.step R S1, ?_⟩
        cases e2 : mb env h1 with
        | stuck => rw [e2] at p; exact p
        | err z h2 =>
          rw [e2] at p
          exact fun rho2 H2 c dd S2 R2 x => p rho2 H2 c dd (S1.trans S2) R2 x
        | ok e h2 =>
          rw [e2, bind_ok] at p
          intro rho2 H2 v2 S2 R2 q2
          cases e3 : splO (.str x) e with
          | none => rw [e3] at p; exact p.elim
          | some ds =>
            rw [e3] at p
            unfold splO at e3
            split at e3
            · rename_i a b f1
              cases f1
              split at e3
              · rename_i hc
                cases e3
                obtain rfl : v2 = V.str b := q2
                refine ⟨x, b, rfl, rfl, hc.1, hc.2, fun pp hp => ?_⟩
                obtain ⟨a, b', c, dd⟩ := new_list (S1.trans S2) R2 (dens_strs (G := Cx.gm X) (rho := rho2) (H := H2) (Txt.split x b)) hp
                exact p _ _ pp _ a b' upd_same List.mem_cons_self c ((S1.trans S2).back hp) (by rw [List.length_map]; exact Nat.le_trans (PyProof.Rows.split_le x b) hc.2) dd
              · cases e3
            · cases e3
      · rw [if_neg hd] at p; exact p.elim⟩
end
def eIntT (m : ME) : ME := fun env h => (m env h).bind fun d h1 => match d with
  | .str a => if a.length ≤ 640 then lift ((PySem.intText? a).map D.int) h1 else .stuck
  | _ => .stuck
section
variable {X : Cx} {e : Expr} {m : ME} {pos p : Pos} {x : Str}
theorem de_intT (hg : Gl X x) (hm : X.mg x = none) (hv : bootBuiltins x = some (.type "int")) (ha : DE X e m)
    (hn : x ≠ "__name__" := by decide) (hdb : (x == ("__debug__" : Str)) = false := by decide) (he : starEach [e] X.env = (false, eval e X.env) :: starEach [] X.env := by rfl) (hpl : (backTo pos (starEach [] X.env)).any (·.1) = false := by rfl) :
    DE X (.Call (.Name x p) [e] [] pos) (eIntT m) :=
  ⟨fun W tk => pe_weak (pe_callTy call_int_str hg hm hv ((da_cons ha da_nil he).run W tk) hn hdb he hpl) fun σ H Q hq => by
    obtain ⟨rho, env, hh, R, E, p⟩ := hq
    refine ⟨rho, env, hh, R, E, ?_⟩
    unfold eIntT at p
    unfold aCons aNil
    cases e1 : m env hh with
    | stuck => rw [e1] at p; exact p
    | err z h1 => rw [e1] at p; exact p
    | ok d h1 =>
      rw [e1, bind_ok] at p
      rw [bind_ok, bind_ok]
      intro rho1 H1 vs S1 R1 q1
      obtain ⟨v, rfl, qv⟩ := dens_one q1
      cases d with
      | str a =>
        obtain rfl : v = V.str a := qv
        dsimp only at p
        split at p
        · rename_i hl
          cases e2 : PySem.intText? a with
          | none => rw [e2] at p; exact p.elim
          | some n =>
            rw [e2] at p
            exact ⟨a, n, rfl, e2, hl, p rho1 H1 _ S1 R1 (by rw [Den])⟩
        · exact p.elim
      | _ => exact p.elim⟩
end
def inSgO : Op2 := fun a b _ => match a, b with
  | .str x, .str z => if x.cps.size = 1 then some (.bl (decide (x.cps.getD 0 0 ∈ z.cps.toList))) else none
  | _, _ => none
theorem rz_inSg {G : Gm} : Rz2 G (fun x y H Q => ∃ (c : Nat) (z : Str), x = .str ⟨#[c]⟩ ∧ y = .str z ∧ Q (.bl (decide (c ∈ z.cps.toList))) H) inSgO := fun rho hh H d1 d2 v1 v2 d Q R q1 q2 e k => by
  unfold inSgO at e
  split at e
  · rename_i x z
    split at e
    · rename_i hx
      cases e
      obtain rfl : v1 = V.str x := q1
      obtain rfl : v2 = V.str z := q2
      obtain ⟨⟨xs⟩⟩ := x
      match xs, hx with
      | [c], _ => exact ⟨c, z, rfl, rfl, k _ H .refl R rfl⟩
    · cases e
  · cases e
end MR

namespace MR
open PySem PySem.Spec PyProof.Rows L2
def EntS : List DictEntry → List (Str × Str) → Prop
  | [], [] => True
  | e :: es, p :: r => (∃ t, e.key = .str p.1 t) ∧ (∃ t, e.val = .str p.2 t) ∧ EntS es r
  | _, _ => False
def KItm (K : PySem.W.Frag) (w : World) (a : Addr) (kvs : List (Str × Str)) : Prop :=
  (a == sysModules) = false ∧ (kvs.map (·.1)).Nodup ∧ ∃ es n, K.lookup a = some ⟨.type "dict", none, .dict es n, #[]⟩ ∧ PySem.W.KeysLit w.params es.toList ∧ EntS es.toList kvs
theorem ents_pairs {prog : Program} {w : World} : ∀ {es : List DictEntry} {kvs : List (Str × Str)}, EntS es kvs → ∃ vs : List (Str × Value), Pairs (strKind prog w) es vs ∧ vs.length = kvs.length ∧ vs.map (·.1) = kvs.map (·.1) ∧ ∀ (i : Nat) (k v : Str), kvs[i]? = some (k, v) → ∃ t, vs[i]? = some (k, .str v t)
  | [], [], _ => ⟨[], .nil, rfl, rfl, fun i k v e => by simp at e⟩
  | e :: es, p :: r, h => by
    obtain ⟨⟨t1, h1⟩, ⟨t2, h2⟩, h3⟩ := h
    obtain ⟨vs, a, b, c, d⟩ := ents_pairs (prog := prog) (w := w) h3
    refine ⟨(p.1, e.val) :: vs, .cons (kv := (p.1, e.val)) (by rw [h1]; exact strKind_is prog w p.1 t1) rfl a, by rw [List.length_cons, List.length_cons, b], by rw [List.map_cons, List.map_cons, c], fun i k v ee => ?_⟩
    cases i with
    | zero =>
      have ee : p = (k, v) := Option.some.inj ee
      subst ee
      exact ⟨t2, by rw [h2]; rfl⟩
    | succ i => exact d i k v (by simpa using ee)
  | [], _ :: _, h => h.elim
  | _ :: _, [], h => h.elim
theorem dictAt_K {prog : Program} {w : World} {K : PySem.W.Frag} {h : Heap} (X : K.In h) {a : Addr} {es : Array DictEntry} {n : Nat} {kvs : List (Str × Str)} (hl : K.lookup a = some ⟨.type "dict", none, .dict es n, #[]⟩) (hk : PySem.W.KeysLit w.params es.toList) (he : EntS es.toList kvs) (nd : (kvs.map (·.1)).Nodup) :
    ∃ vs : List (Str × Value), h.DictAt (strKind prog w) a vs n ∧ vs.length = kvs.length ∧ ∀ (i : Nat) (k v : Str), kvs[i]? = some (k, v) → ∃ t, vs[i]? = some (k, .str v t) := by
  obtain ⟨vs, a1, b, c, d⟩ := ents_pairs (prog := prog) (w := w) he
  refine ⟨vs, ⟨_, es, X _ _ hl, ⟨rfl, rfl, rfl⟩, rfl, fun e he => ?_, a1, by rw [c]; exact nd⟩, b, d⟩
  obtain ⟨x, t, e1, e2⟩ := hk.all e (Array.mem_toList_iff.mpr he)
  exact ⟨x, by rw [e1]; exact strKind_is prog w x t, e2⟩
def ItM (kvs : List (Str × Str)) : It :=
  ⟨fun i _ => i < kvs.length, fun i H x H' => ∃ T k v, kvs[i]? = some (k, v) ∧ x = .ref T ∧ H T = none ∧ H' = upd H T (.tup [.str k, .str v]), fun i _ => kvs.length ≤ i⟩
theorem turn_itemsK {P : Program} {w : World} {K : PySem.W.Frag} {d : Addr} {es : Array DictEntry} {ep : Nat} {kvs : List (Str × Str)} {elts : List Expr} {kk : Nat} {tpos : Pos} (it : Addr) (hl : K.lookup d = some ⟨.type "dict", none, .dict es ep, #[]⟩) (hk : PySem.W.KeysLit w.params es.toList) (hes : EntS es.toList kvs) (nd : (kvs.map (·.1)).Nodup) :
    Turn P w K (.Tuple elts kk tpos) (ItM kvs) [it] it (fun i h => ∃ ok ov, IsItemIter h it d i kvs.length ep ok ov) where
  mem := by simp
  obj := fun i h st b hb => by
    have e : b = it := by simpa using hb
    subst e
    obtain ⟨ok, ov, e⟩ := st
    exact ⟨_, e, fun v z => nomatch z⟩
  keep := fun i h h' st k => let ⟨ok, ov, e⟩ := st; ⟨ok, ov, k it (by simp) _ e⟩
  item := by
    intro X hP hw hK hc i pins s σ H E I hf st hg
    subst hP hw hK
    have hi : i < kvs.length := hg
    obtain ⟨vs, hm, hlen, hat⟩ := dictAt_K (prog := X.prog) (w := X.w) I.kIn hl hk hes nd
    obtain ⟨⟨k, v⟩, hkv⟩ : ∃ p, kvs[i]? = some p := ⟨kvs[i], List.getElem?_eq_getElem hi⟩
    obtain ⟨t, hu⟩ := hat i k v hkv
    obtain ⟨ok, ov, he⟩ := st
    rw [← hlen] at he
    have hlt : it < s.heap.objs.size := Heap.lt_size he
    refine wpAny_pyNext_items_item he hm hu fun key h' hkey ho hT hz hk => ?_
    refine ⟨_, rfl, wpAny_letOwnedTupleGo_items (s := { s with heap := h' }) ho fun h'' he' sb => ?_⟩
    have hT2 : h''.get? s.heap.objs.size = some { cls := .type "tuple", data := .seq #[key, .str v t] } := (sb.2 _ (Nat.ne_of_gt hlt)).trans hT
    obtain ⟨t2, rfl⟩ : ∃ t2, key = .str k t2 := Value.isStrOf_shape hkey
    have new : ObjOk X.prog X.w (upd H s.heap.objs.size (.tup [.str k, .str v])) h'' s.heap.objs.size (.tup [.str k, .str v]) :=
      ⟨by show 2 ≤ sizeLine; decide, [.str k t2, .str v t], .cons ⟨t2, rfl⟩ (.cons ⟨t, rfl⟩ .nil), ⟨_, hT2, rfl, _, rfl⟩⟩
    have I1 : Inv X pins σ (upd H s.heap.objs.size (.tup [.str k, .str v])) { s with heap := h'' } :=
      I.turnedNew (t' := s.toks) (ch := [it]) (fun b ob hb e => (sb.2 b (by simpa using hb)).trans (hk b ob (by simpa using hb) e)) hf (Nat.le_refl _) new
    refine ⟨.ref s.heap.objs.size, _, I1, rfl, ⟨_, k, v, hkv, rfl, I.hok.fresh (Nat.le_refl _), rfl⟩, ⟨.str k t2, .str v t, ?_⟩, fun b hb => ?_⟩
    · rw [← hlen]; exact he'
    · have e : b = it := by simpa using hb
      rw [e, upd_ne (Nat.ne_of_lt hlt)]
      exact (hf it (by simp)).1
  done := by
    intro X hP hw hK hc i pins s σ H E I hf st hg
    subst hP hw hK
    have hi : kvs.length ≤ i := hg
    obtain ⟨vs, hm, hlen, hat⟩ := dictAt_K (prog := X.prog) (w := X.w) I.kIn hl hk hes nd
    obtain ⟨f0, f1, f2, f3, f4, f5⟩ := hf it (by simp)
    obtain ⟨ok, ov, he⟩ := st
    rw [← hlen] at he
    exact wpAny_pyNext_items_end (I.ok.hd hc) he hm (List.getElem?_eq_none (by omega)) fun h' eb => ⟨rfl, I.turned (t' := s.toks) (fun b ob hb e => eb b ob hb e) f0 f1 f3 f4 f5⟩
  self := fun A i s Q E st h => let ⟨_, _, e⟩ := st; PySem.W.kcp_self e h
def iItemsK (w : World) (K : PySem.W.Frag) (kvs : List (Str × Str)) (td : TE) : TI := fun σ H R => td σ H fun x H1 => ∃ a, x = .ref a ∧ KItm K w a kvs ∧ R (ItM kvs) H1
theorem pi_itemsK {X : Cx} {e : Expr} {td : TE} {kvs : List (Str × Str)} {apos cpos : Pos} {elts : List Expr} {kk : Nat} {tpos : Pos} (he : PE X e td) (hbase : attributeBase e "items" X.env (eval e X.env) = eval e X.env := by rfl) (hline : (apos.endLine == cpos.line) = true := by rfl) :
    PI X (.Tuple elts kk tpos) (.Call (.Attribute e "items" apos) [] [] cpos) (iItemsK X.w X.K kvs td) := by
  refine ⟨fun pins s σ H R I h => ?_⟩
  refine wpAny_Call_method (T := "dict") (id := "dict.items") hbase rfl hline F.plainAttrs_dict F.slot_dict_items F.type_dict_items (thn (he.run pins s σ H _ I h) fun u s1 ⟨x, H1, I1, rx, d, ex, ⟨hs, nd, es, n, hl, hk, hes⟩, q⟩ => ?_)
  subst ex
  obtain rfl : u = Value.ref d := rx
  obtain ⟨vs, hm, hlen, hat⟩ := dictAt_K (prog := X.prog) (w := X.w) I1.kIn hl hk hes nd
  refine ⟨hm.dictOf.typeIs, hm.dictOf.mapOf.noDict, ?_⟩
  have I2 : Inv X pins σ H1 { s1 with heap := s1.heap.push { cls := .type "dict_items", data := .fields #[.ref d] } } := I1.kept (t' := s1.toks) fun b ob q => Heap.get?_push_of_some _ q
  have fin : wpAny (model X.prog X.w) X.A (pyIter (.ref s1.heap.objs.size)) (PIE X pins σ (.Tuple elts kk tpos) R) X.xe { s1 with heap := s1.heap.push { cls := .type "dict_items", data := .fields #[.ref d] } } := by
    refine wpAny_pyIter_items (d := d) (knd := strKind X.prog X.w) ⟨_, Heap.get?_push_size _ rfl, rfl, rfl⟩ (hm.push _) (pi_one (tk := s1.toks) I2 _ (turn_itemsK _ hl hk hes nd) ⟨.none, .none, ?_⟩ q)
    rw [← hlen]
    exact Heap.get?_push_size _ rfl
  show wpAny _ _ (callWith cpos (.builtin "dict.items") [.ref d] [] []) _ X.xe s1
  exact method_meetsIn F.slot_dict_items F.entry_dict_items rfl (PySem.evalArgs_none ⟨rfl, hm.dictOf.typeIs, F.args_dict_items_1 _, _, meets_dict_items (strKind X.prog X.w) d hs, ⟨vs, hm.dictOf⟩, fin⟩)
def itmD (kvs : List (Str × Str)) : List D := kvs.map fun p => .wtp [.str p.1, .str p.2]
/-- D.items(), D in the slot's place a constant of the module -/
def iItm (kvs : List (Str × Str)) : MI := fun _ h => .ok ⟨itmD kvs, none⟩ h
theorem di_itm {X : Cx} {e : Expr} {a : Addr} {kvs : List (Str × Str)} {apos cpos : Pos} {elts : List Expr} {kk : Nat} {tpos : Pos} (hd : DE X e (eC (.glb (.ref a)))) (hk : KItm X.K X.w a kvs) (hlen : kvs.length ≤ 16777216) (hbase : attributeBase e "items" X.env (eval e X.env) = eval e X.env := by rfl) (hline : (apos.endLine == cpos.line) = true := by rfl) :
    DI X (.Tuple elts kk tpos) (.Call (.Attribute e "items" apos) [] [] cpos) (iItm kvs) :=
  ⟨fun W tk => pi_weak (pi_itemsK (hd.run W tk) hbase hline) fun σ H R ⟨rho, env, hh, Rp, E, p⟩ => by
    refine ⟨rho, env, hh, Rp, E, ?_⟩
    show PostE (Cx.gm X) (Den (Cx.gm X)) (wAt W σ) rho H (.ok (.glb (.ref a)) hh) _
    intro rho1 H1 v S1 R1 q1
    obtain rfl : v = V.ref a := q1
    refine ⟨a, rfl, hk, p rho1 H1 _ S1 R1 ⟨by show (itmD kvs).length ≤ _; unfold itmD; rw [List.length_map, sizeLine_eq]; exact hlen, fun rho2 hh2 H2 S2 R2 _ => ⟨fun i hi => by unfold itmD at hi; rw [List.length_map] at hi; exact hi, by show kvs.length ≤ (itmD kvs).length; unfold itmD; rw [List.length_map]; exact Nat.le_refl _, fun i d y H' hd hy => ?_⟩⟩⟩
    obtain ⟨T, k, v, e1, rfl, e2, rfl⟩ := hy
    have hd : (kvs.map fun p => D.wtp [.str p.1, .str p.2])[i]? = some d := hd
    rw [List.getElem?_map, e1] at hd
    have hd : D.wtp [.str k, .str v] = d := Option.some.inj hd
    subst hd
    refine ⟨.laid e2, R2.laid e2, ?_⟩
    rw [Den]
    refine ⟨T, [.str k, .str v], rfl, .inl (.inl upd_same), by show 2 ≤ sizeLine; decide, dens_strs [k, v]⟩⟩
end MR

namespace MR
open PySem PySem.Spec PyProof.Rows L2
def turned (i : Int) {α : Type} (xs : List α) : List α := if i = -1 then xs.reverse else xs
def stepO (d : D) (o : Option Int) (h : Hh) : Option D := match o with
  | some i => if i = 1 ∨ i = -1 then (seqL d h).map fun xs => .lst (turned i xs) else none
  | none => none
def eStep (m ms : ME) : ME := fun env h => (m env h).bind fun d h1 => (oSome ms env h1).bind fun o h2 => lift (stepO d o h2) h2
theorem Dens.turned {G : Gm} {rho : Rm} {H : Hp} {ds : List D} {vs : List V} (i : Int) (z : Dens G rho H ds vs) : Dens G rho H (turned i ds) (turned i vs) := by
  unfold MR.turned
  split
  · exact z.reverse
  · exact z
def k_st1 (ms : ME) (env : DEnv) : D → Hh → Res D := fun d h1 => (oSome ms env h1).bind fun o h2 => lift (stepO d o h2) h2
def k_st2 (d : D) : Option Int → Hh → Res D := fun o h2 => lift (stepO d o h2) h2
@[simp] theorem ev_step (m ms : ME) (env : DEnv) (h : Hh) : eStep m ms env h = (m env h).bind (k_st1 ms env) := rfl
@[simp] theorem ev_k_st1 (ms : ME) (env : DEnv) (d : D) (h : Hh) : k_st1 ms env d h = (oSome ms env h).bind (k_st2 d) := rfl
@[simp] theorem ev_k_st2 (d : D) (o : Option Int) (h : Hh) : k_st2 d o h = lift (stepO d o h) h := rfl
end MR

namespace MR
open PySem PySem.Spec PyProof.Rows L2
/-- a, b = a list of two -/
def gTupL (n : Nat) (gs : MGs) : MG := fun d env h => match d with
  | .lst ds => if ds.length = n then gs ds env h else none
  | _ => none
@[simp] theorem ev_gTupL (n : Nat) (gs : MGs) (ds : List D) (env : DEnv) (h : Hh) : gTupL n gs (.lst ds) env h = if ds.length = n then gs ds env h else none := rfl
end MR

namespace MR
open PySem PySem.Spec PyProof.Rows L2
def eDict0S : ME := fun _ h => .ok (.dct [] []) h
@[simp] theorem ev_dict0S (env : DEnv) (h : Hh) : eDict0S env h = .ok (.dct [] []) h := rfl
end MR

namespace MR
open PySem PySem.Spec PyProof.Rows L2
end MR

namespace MR
open PySem PySem.Spec PyProof.Rows L2
section
variable {prog : Program} {w : World} {A : Around} {E : Value → Shared → Prop} {s : Shared} {d : Addr} {o : Obj} {es : Array DictEntry} {ep : Nat} {hN : Int}
end
section
variable {X : Cx}
end
section
variable {X : Cx} {pos p1 p2 : Pos}
section
variable {CX : CXT} {k : Nat} {f : Addr} {fd : FuncData} {ps : List Str} {sp : Sp} {E : L2.St → XK} {a b e : Expr} {es : List Expr} {tc : TE} {t : TA}
end
end
end MR

set_option maxHeartbeats 1000000
namespace MR
open PySem PySem.Spec PyProof.Rows L2

structure SrcM where
  items : List D
  lives : List (Nat × List D)
def gsOk (gs : List (Nat × List D)) (h : Hh) : Prop := ∀ g ∈ gs, h[g.1]? = some (.lst g.2)
abbrev MIM := DEnv → Hh → Res SrcM
def WalkM (G : Gm) (rho1 : Rm) (H1 : Hp) (src : SrcM) (J : It) : Prop := src.items.length ≤ sizeLine ∧ ∀ rho hh H, Step rho1 H1 rho H → Rep G rho hh H → gsOk src.lives hh →
  (∀ i, i < src.items.length → J.go i H) ∧ J.stop src.items.length H ∧ ∀ i d x H', src.items[i]? = some d → J.yld i H x H' → Step rho H rho H' ∧ Rep G rho hh H' ∧ Den G rho H' d x
def TDiM (G : Gm) (W : WX) (m : MIM) : TI := fun σ H R => ∃ rho env hh, Rep G rho hh H ∧ EnvD G rho H env σ ∧ PostE G (WalkM G) (wAt W σ) rho H (m env hh) R
structure DIM (X : Cx) (tg iter : Expr) (m : MIM) : Prop where
  run : ∀ W, Takes X W → PI X tg iter (TDiM (Cx.gm X) W m)
open Classical in
section
variable {X : Cx} {G : Gm} {W : WX}
end

section
variable {X : Cx} {G : Gm} {rho : Rm} {hh : Hh} {H : Hp}
end
end MR

namespace MR
open PySem PySem.Spec PyProof.Rows L2
def aSlice (m : ME) (ml mh : MO) : MA := fun env h => (m env h).bind fun d h1 => (ml env h1).bind fun lo h2 => (mh env h2).bind fun hi h3 => lift ((seqL d h3).map fun ds => cutG ds lo hi) h3
section
variable {X : Cx} {e : Expr} {m : ME} {pos p2 : Pos}
end
def k_par3 (i j l : Nat) (env : DEnv) : List D → Hh → RS := fun ds h1 => match ds with
  | [d1, d2, d3] => .nx (((env.set i (some d1)).set j (some d2)).set l (some d3)) h1
  | _ => .stuck
@[simp] theorem ev_sPar3 (i j l : Nat) (ms : MA) (env : DEnv) (h : Hh) : sPar3 i j l ms env h = (ms env h).st env (k_par3 i j l env) := rfl
@[simp] theorem ev_k_par3 (i j l : Nat) (env : DEnv) (d1 d2 d3 : D) (h : Hh) : k_par3 i j l env [d1, d2, d3] h = .nx (((env.set i (some d1)).set j (some d2)).set l (some d3)) h := rfl
def k_aSl1 (ml mh : MO) (env : DEnv) : D → Hh → Res (List D) := fun d h1 => (ml env h1).bind fun lo h2 => (mh env h2).bind fun hi h3 => lift ((seqL d h3).map fun ds => cutG ds lo hi) h3
@[simp] theorem ev_aSlice (m : ME) (ml mh : MO) (env : DEnv) (h : Hh) : aSlice m ml mh env h = (m env h).bind (k_aSl1 ml mh env) := rfl
end MR

namespace MR
open PySem PySem.Spec PyProof.Rows L2
def neE : Op2 := fun a b h => match b with
  | .lst [] => (match deref a h with
    | .lst ds => some (.bl (!ds.isEmpty))
    | _ => none)
  | _ => none
def strXO : OpN := fun ds h => match ds with
  | [.str x] => some (.str x)
  | ds => str1O ds h
@[simp] theorem ev_strXS (x : Str) (h : Hh) : strXO [.str x] h = some (.str x) := rfl
@[simp] theorem ev_neEL (ds : List D) (h : Hh) : neE (.lst ds) (.lst []) h = some (.bl (!ds.isEmpty)) := rfl
end MR

set_option maxHeartbeats 1000000
namespace MR
open PySem PySem.Spec PyProof.Rows L2
def Res.calm {α : Type} : Res α → Res α
  | .err _ _ => .stuck
  | r => r
def nE (m : ME) : ME := fun env h => (m env h).calm
def nT (m : MT) : MT := fun env h => (m env h).calm
def nA (m : MA) : MA := fun env h => (m env h).calm
def nS (m : MS) : MS := fun env h => (m env h).calm
structure DSN (X : Cx) (st : Stmt) (m : MS) : Prop where
  run : ∀ W, L2N.Takes X W → PS X st (TDs (Cx.gm X) W m)
structure DSNs (X : Cx) (st : List Stmt) (m : MS) : Prop where
  run : ∀ W, L2N.Takes X W → PSs X st (TDs (Cx.gm X) W m)
structure DXN (X : Cx) (e : Expr) (m : MX) : Prop where
  run : L2N.PMk X e (TDx (Cx.gm X) m)
def FnDN (P : Program) (w : World) (K : PySem.W.Frag) (mg : Str → Option Value) (base : Heap) (k : Nat) (f : Addr) (fd : FuncData) (ps : List Str) (F : MF) : Prop :=
  FnOk P w K mg base (L2N.CX P w) k f fd ps (spD ⟨P, w, K⟩ ps.length F)
section
variable {X : Cx} {st : Stmt} {rest : List Stmt} {m ms ms' : MS} {pos : Pos}
end
section
variable {X : Cx} {e : Expr} {es : List Expr} {ta : TA} {p pos : Pos}
end
section
variable {X : Cx} {e : Expr} {m : ME} {x f w1 : Str} {p pos : Pos}
end
section
variable {P : Program} {w : World} {K : PySem.W.Frag} {mg : Str → Option Value} {base : Heap}
end
section
variable {X : Cx} {k : Nat} {f : Addr} {fd : FuncData} {ps : List Str} {F : MF} {x g : Str} {p pos : Pos} {e : Expr} {es : List Expr} {ms : MA}
end
/-- a suite, where an exception is handled -/
structure DSHs (X : Cx) (st : List Stmt) (m : MS) : Prop where
  run : L2H.HotC X → ∀ W, Takes X W → PSs X st (TDs (Cx.gm X) W m)
section
variable {X : Cx} {body suite : List Stmt} {b₀ : Stmt} {x c : Str} {np pos pos' : Pos} {mb ms : MS} {cs : List Str}
end
@[simp] theorem ev_nE (m : ME) (env : DEnv) (h : Hh) : nE m env h = (m env h).calm := rfl
@[simp] theorem ev_nT (m : MT) (env : DEnv) (h : Hh) : nT m env h = (m env h).calm := rfl
@[simp] theorem ev_nA (m : MA) (env : DEnv) (h : Hh) : nA m env h = (m env h).calm := rfl
@[simp] theorem ev_nS (m : MS) (env : DEnv) (h : Hh) : nS m env h = (m env h).calm := rfl
@[simp] theorem ev_calm_ok {α : Type} (a : α) (h : Hh) : (Res.ok a h).calm = .ok a h := rfl
@[simp] theorem ev_calm_err {α : Type} (x : Exn) (h : Hh) : (Res.err x h : Res α).calm = .stuck := rfl
@[simp] theorem ev_scalm_nx (e : DEnv) (h : Hh) : (RS.nx e h).calm = .nx e h := rfl
@[simp] theorem ev_scalm_rt (d : D) (h : Hh) : (RS.rt d h).calm = .rt d h := rfl
@[simp] theorem ev_scalm_bk (e : DEnv) (h : Hh) : (RS.bk e h).calm = .bk e h := rfl
@[simp] theorem ev_scalm_ct (e : DEnv) (h : Hh) : (RS.ct e h).calm = .ct e h := rfl
end MR

set_option maxHeartbeats 1000000
namespace MR
open PySem PySem.Spec PyProof.Rows L2
def upO : D → Option D := fun d => match d with
  | .str a => if a.length ≤ 5592405 then some (.str (Txt.upper a)) else none
  | _ => none
def eUpper (m : ME) : ME := fun env h => (m env h).bind fun d h1 => lift (upO d) h1
section
variable {X : Cx} {o : Expr} {mo : ME} {pos apos : Pos}
theorem de_upper (ho : DE X o mo) (hbase : attributeBase o "upper" X.env (eval o X.env) = eval o X.env := by rfl) (hline : (apos.endLine == pos.line) = true := by rfl) : DE X (.Call (.Attribute o "upper" apos) [] [] pos) (eUpper mo) :=
  ⟨fun W tk => pe_weak (pe_m0 F.slot_str_upper F.type_str_upper mt_upper (ho.run W tk) hbase hline) fun σ H Q hq => by
    obtain ⟨rho, env, hh, R, E, p⟩ := hq
    refine ⟨rho, env, hh, R, E, ?_⟩
    unfold eUpper at p
    cases e1 : mo env hh with
    | stuck => rw [e1] at p; exact p
    | err z h1 => rw [e1] at p; exact p
    | ok d h1 =>
      rw [e1, bind_ok] at p
      intro rho1 H1 v1 S1 R1 q1
      cases d with
      | str x =>
        obtain rfl : v1 = V.str x := q1
        have eu : upO (.str x) = if x.length ≤ 5592405 then some (.str (Txt.upper x)) else none := rfl
        rw [eu] at p
        by_cases hc : x.length ≤ 5592405
        · rw [if_pos hc] at p
          exact ⟨⟨x, rfl⟩, x, rfl, rfl, hc, p rho1 H1 _ S1 R1 (by rw [Den])⟩
        · rw [if_neg hc] at p; exact p.elim
      | _ => exact p.elim⟩
end
def k_upper : D → Hh → Res D := fun d h1 => lift (upO d) h1
@[simp] theorem ev_upper (m : ME) (env : DEnv) (h : Hh) : eUpper m env h = (m env h).bind k_upper := rfl
@[simp] theorem ev_k_upper (d : D) (h : Hh) : k_upper d h = lift (upO d) h := rfl
end MR

set_option maxHeartbeats 1000000
namespace MR
open PySem PySem.Spec PyProof.Rows L2
theorem signs_paired (P : Nat → Value → Prop) : ∀ (cs : List Nat) (vs : List Value), cs.length = vs.length → (∀ (j : Nat) (c : Nat) (v : Value), cs[j]? = some c → vs[j]? = some v → ∃ t : Tok, v = Value.str (⟨#[c]⟩ : Str) t) → Vals (cs.map fun n => V.str ⟨#[n]⟩) vs
  | [], [], _, _ => .nil
  | [], _ :: _, h, _ => by cases h
  | _ :: _, [], h, _ => by cases h
  | c :: cs, v :: vs, h, q => by
    obtain ⟨t, rfl⟩ := q 0 c v rfl rfl
    exact .cons ⟨t, rfl⟩ (signs_paired P cs vs (Nat.succ.inj h) fun j c v a b => q (j + 1) c v a b)
theorem call_list_text {X : Cx} (hc : X.calm = true) : CallR X (.type "list") (fun xs H Q => ∃ x, xs = [V.str x] ∧ x.length ≤ sizeLine ∧ ∀ l, H l = none → Q (.ref l) (upd H l (.lst ((signs x).map V.str)))) := by
  intro pins s σ H xs us Q I r h
  obtain ⟨x, rfl, hz, q⟩ := h
  obtain ⟨u, rfl, rx⟩ := vals1 r
  obtain ⟨t, rfl⟩ := rx
  refine call_list_str (I.ok.hd hc) x t (hn := hz) fun h' tk acc' c' kp e hacc => ?_
  have hl : acc'.toList.length = x.cps.toList.length := by rw [Array.length_toList, Array.length_toList]; exact hacc.1
  have pv : Vals ((signs x).map V.str) acc'.toList := by
    unfold signs
    rw [List.map_map]
    refine signs_paired (fun _ _ => True) x.cps.toList acc'.toList hl.symm fun j c v hj hv => ?_
    obtain ⟨c', u', hc', rfl⟩ := hacc.2 j v (by simpa using hv)
    rw [Array.getElem?_toList] at hj
    have hc' : x.cps[j]? = some c' := hc'
    rw [hj] at hc'
    cases hc'
    exact ⟨u', rfl⟩
  have hlen : ((signs x).map V.str).length ≤ sizeLine := by
    unfold signs
    rw [List.length_map, List.length_map, Array.length_toList]
    exact hz
  exact ⟨.ref s.heap.objs.size, _, I.laid (t' := tk) kp (Nat.le_refl _) (show ObjOk X.prog X.w _ h' _ (.lst ((signs x).map V.str)) from ⟨hlen, acc'.toList, c', pv, e⟩), rfl, q _ (I.hok.fresh (Nat.le_refl _))⟩
/-- the signs of a text -/
def aChs (m : ME) : MA := fun env h => (m env h).bind fun d h1 => match d with
  | .str x => if x.length ≤ 100000 then .ok ((signs x).map D.str) h1 else .stuck
  | _ => .stuck
section
variable {X : Cx} {e : Expr} {m : ME} {pos p : Pos} {x : Str}
theorem dl_listC (hc : X.calm = true) (hg : Gl X x) (hm : X.mg x = none) (hv : bootBuiltins x = some (.type "list")) (ha : DE X e m)
    (hn : x ≠ "__name__" := by decide) (hdb : (x == ("__debug__" : Str)) = false := by decide) (he : starEach [e] X.env = (false, eval e X.env) :: starEach [] X.env := by rfl) (hpl : (backTo pos (starEach [] X.env)).any (·.1) = false := by rfl) :
    DL X (.Call (.Name x p) [e] [] pos) (aChs m) :=
  ⟨fun W tk => pe_weak (pe_callTy (call_list_text hc) hg hm hv ((da_cons ha da_nil he).run W tk) hn hdb he hpl) fun σ H Q hq => by
    obtain ⟨rho, env, hh, R, E, p⟩ := hq
    refine ⟨rho, env, hh, R, E, ?_⟩
    unfold aChs at p
    unfold aCons aNil
    cases e1 : m env hh with
    | stuck => rw [e1] at p; exact p
    | err z h1 => rw [e1] at p; exact p
    | ok d h1 =>
      rw [e1, bind_ok] at p
      rw [bind_ok, bind_ok]
      intro rho1 H1 vs S1 R1 q1
      obtain ⟨v, rfl, qv⟩ := dens_one q1
      cases d with
      | str z =>
        obtain rfl : v = V.str z := qv
        have el : ((signs z).map V.str).length = z.length := by
          unfold signs
          rw [List.length_map, List.length_map, Array.length_toList]; rfl
        by_cases hz : z.length ≤ 100000
        · dsimp only at p
          rw [if_pos hz] at p
          refine ⟨z, rfl, by rw [sizeLine_eq]; omega, fun pp hp => ?_⟩
          obtain ⟨a, b, c, d⟩ := new_list S1 R1 (dens_strs (G := Cx.gm X) (rho := rho1) (H := H1) (signs z)) hp
          exact p _ _ pp _ a b upd_same List.mem_cons_self c (S1.back hp) (by rw [el, sizeLine_eq]; omega) d
        · dsimp only at p
          rw [if_neg hz] at p; exact p.elim
      | _ => exact p.elim⟩
end
end MR

namespace MR
open PySem PySem.Spec PyProof.Rows L2

/-- what a slot holds: a value, a thing of the def's own, a thing handed in that stands at p -/
inductive Sl where
  | v (d : D)
  | own (o : O)
  | bor (p : Nat) (o : O)
  /-- a thing that stands at p, held by another thing: no name of the def -/
  | hid (p : Nat) (o : O)
abbrev SEnv := List (Option Sl)
structure Fr where
  h0 : Hh
  B : List Nat
def Hs (s : SEnv) (i : Nat) (o : O) : Prop := s[i]? = some (some (Sl.own o)) ∨ ∃ p, s[i]? = some (some (Sl.bor p o))
structure Sat (F : Fr) (s : SEnv) (env : DEnv) (h : Hh) : Prop where
  len : env.length = s.length
  le : F.h0.length ≤ h.length
  keep : ∀ j : Nat, j < F.h0.length → j ∉ F.B → h[j]? = F.h0[j]?
  val : ∀ (i : Nat) (d : D), s[i]? = some (some (Sl.v d)) → env[i]? = some (some d)
  cell : ∀ (i : Nat) (o : O), Hs s i o → ∃ p : Nat, env[i]? = some (some (D.ref p)) ∧ h[p]? = some o
  own : ∀ (i : Nat) (o : O) (p : Nat), s[i]? = some (some (Sl.own o)) → env[i]? = some (some (D.ref p)) → F.h0.length ≤ p
  bor : ∀ (i p : Nat) (o : O), s[i]? = some (some (Sl.bor p o)) → env[i]? = some (some (D.ref p)) ∧ p < F.h0.length ∧ p ∈ F.B
  sep : ∀ (i j : Nat) (o o' : O) (p : Nat), i ≠ j → Hs s i o → Hs s j o' → env[i]? = some (some (D.ref p)) → env[j]? = some (some (D.ref p)) → False
  hid : ∀ (i p : Nat) (o : O), s[i]? = some (some (Sl.hid p o)) → h[p]? = some o
  hsep : ∀ (i j p : Nat) (o o' : O), i ≠ j → s[i]? = some (some (Sl.hid p o)) → s[j]? = some (some (Sl.hid p o')) → False
  hcs : ∀ (i j p : Nat) (o o' : O), Hs s i o → env[i]? = some (some (D.ref p)) → s[j]? = some (some (Sl.hid p o')) → False
def chS (s : SEnv) (i : Nat) (o' : O) : SEnv := match s[i]? with
  | some (some (Sl.own _)) => s.set i (some (.own o'))
  | some (some (Sl.bor p _)) => s.set i (some (.bor p o'))
  | _ => s
section
variable {F : Fr} {s s' s1 s2 : SEnv} {env env' env1 : DEnv} {h h' : Hh} {i j p : Nat} {o o' : O} {d : D}
theorem Sat.app (S : Sat F s env h) (g : Hh) : Sat F s env (h ++ g) where
  len := S.len
  le := by have := S.le; simp; omega
  keep := fun j a b => by rw [List.getElem?_append_left (by have := S.le; omega)]; exact S.keep j a b
  val := S.val
  cell := fun i o x => by
    obtain ⟨p, e, q⟩ := S.cell i o x
    exact ⟨p, e, by rw [List.getElem?_append_left (List.getElem?_eq_some_iff.mp q).1]; exact q⟩
  own := S.own
  bor := S.bor
  sep := S.sep
  hid := fun i p o e => by
    have a := S.hid i p o e
    rw [List.getElem?_append_left (List.getElem?_eq_some_iff.mp a).1]; exact a
  hsep := S.hsep
  hcs := S.hcs
theorem hs_set_v {i j : Nat} {x : Option Sl} {o : O} (h : Hs (s.set i x) j o) (n : i ≠ j) : Hs s j o := by
  unfold Hs at h ⊢
  rw [List.getElem?_set_ne n] at h
  exact h
theorem set_get {α : Type} {l : List α} {i : Nat} {x y : α} (h : (l.set i x)[i]? = some y) : y = x ∧ i < l.length := by
  by_cases hl : i < l.length
  · rw [List.getElem?_set_self hl] at h; exact ⟨(Option.some.inj h).symm, hl⟩
  · rw [List.getElem?_eq_none (by rw [List.length_set]; omega)] at h; cases h
theorem hs_set_plain {i j : Nat} {x : Option Sl} {o : O} (hx : x = none ∨ ∃ d, x = some (.v d)) (h : Hs (s.set i x) j o) : i ≠ j := by
  intro e
  subst e
  rcases h with h | ⟨p, h⟩
  · have := (set_get h).1
    rcases hx with hx | ⟨d, hx⟩ <;> rw [hx] at this <;> cases this
  · have := (set_get h).1
    rcases hx with hx | ⟨d, hx⟩ <;> rw [hx] at this <;> cases this
theorem hid_set {i j p : Nat} {x : Option Sl} {o : O} (hx : ∀ q u, x ≠ some (.hid q u)) (h : (s.set i x)[j]? = some (some (Sl.hid p o))) : i ≠ j ∧ s[j]? = some (some (Sl.hid p o)) := by
  by_cases n : i = j
  · subst n
    exact absurd (set_get h).1.symm (hx p o)
  · rw [List.getElem?_set_ne n] at h; exact ⟨n, h⟩
theorem Sat.setV (S : Sat F s env h) (i : Nat) (d : D) : Sat F (s.set i (some (Sl.v d))) (env.set i (some d)) h where
  len := by simp [S.len]
  le := S.le
  keep := S.keep
  val := fun j d' e => by
    by_cases hj : i = j
    · subst hj
      obtain ⟨e1, hl⟩ := set_get e
      cases e1
      rw [List.getElem?_set_self (by rw [S.len]; exact hl)]
    · rw [List.getElem?_set_ne hj] at e ⊢
      exact S.val j d' e
  cell := fun j o x => by
    have n := hs_set_plain (.inr ⟨d, rfl⟩) x
    obtain ⟨p, e, q⟩ := S.cell j o (hs_set_v x n)
    exact ⟨p, by rw [List.getElem?_set_ne n]; exact e, q⟩
  own := fun j o p e q => by
    have n := hs_set_plain (.inr ⟨d, rfl⟩) (Or.inl e : Hs _ j o)
    rw [List.getElem?_set_ne n] at e q
    exact S.own j o p e q
  bor := fun j p o e => by
    have n := hs_set_plain (.inr ⟨d, rfl⟩) (Or.inr ⟨p, e⟩ : Hs _ j o)
    rw [List.getElem?_set_ne n] at e ⊢
    exact S.bor j p o e
  sep := fun j k o o' p n a b e q => by
    have n1 := hs_set_plain (.inr ⟨d, rfl⟩) a
    have n2 := hs_set_plain (.inr ⟨d, rfl⟩) b
    rw [List.getElem?_set_ne n1] at e
    rw [List.getElem?_set_ne n2] at q
    exact S.sep j k o o' p n (hs_set_v a n1) (hs_set_v b n2) e q
  hid := fun j p o e => S.hid j p o (hid_set (fun _ _ z => by cases z) e).2
  hsep := fun j k p o o' n a b => S.hsep j k p o o' n (hid_set (fun _ _ z => by cases z) a).2 (hid_set (fun _ _ z => by cases z) b).2
  hcs := fun j k p o o' a e b => by
    have n1 := hs_set_plain (.inr ⟨d, rfl⟩) a
    rw [List.getElem?_set_ne n1] at e
    exact S.hcs j k p o o' (hs_set_v a n1) e (hid_set (fun _ _ z => by cases z) b).2
theorem Sat.setN (S : Sat F s env h) (i : Nat) : Sat F (s.set i none) (env.set i none) h where
  len := by simp [S.len]
  le := S.le
  keep := S.keep
  val := fun j d' e => by
    by_cases hj : i = j
    · subst hj
      obtain ⟨e1, hl⟩ := set_get e
      cases e1
    · rw [List.getElem?_set_ne hj] at e ⊢
      exact S.val j d' e
  cell := fun j o x => by
    have n := hs_set_plain (.inl rfl) x
    obtain ⟨p, e, q⟩ := S.cell j o (hs_set_v x n)
    exact ⟨p, by rw [List.getElem?_set_ne n]; exact e, q⟩
  own := fun j o p e q => by
    have n := hs_set_plain (.inl rfl) (Or.inl e : Hs _ j o)
    rw [List.getElem?_set_ne n] at e q
    exact S.own j o p e q
  bor := fun j p o e => by
    have n := hs_set_plain (.inl rfl) (Or.inr ⟨p, e⟩ : Hs _ j o)
    rw [List.getElem?_set_ne n] at e ⊢
    exact S.bor j p o e
  sep := fun j k o o' p n a b e q => by
    have n1 := hs_set_plain (.inl rfl) a
    have n2 := hs_set_plain (.inl rfl) b
    rw [List.getElem?_set_ne n1] at e
    rw [List.getElem?_set_ne n2] at q
    exact S.sep j k o o' p n (hs_set_v a n1) (hs_set_v b n2) e q
  hid := fun j p o e => S.hid j p o (hid_set (fun _ _ z => by cases z) e).2
  hsep := fun j k p o o' n a b => S.hsep j k p o o' n (hid_set (fun _ _ z => by cases z) a).2 (hid_set (fun _ _ z => by cases z) b).2
  hcs := fun j k p o o' a e b => by
    have n1 := hs_set_plain (.inl rfl) a
    rw [List.getElem?_set_ne n1] at e
    exact S.hcs j k p o o' (hs_set_v a n1) e (hid_set (fun _ _ z => by cases z) b).2
/-- a new thing is laid for a name -/
theorem Sat.setO (S : Sat F s env h) (i : Nat) (o : O) : Sat F (s.set i (some (Sl.own o))) (env.set i (some (D.ref h.length))) (h ++ [o]) := by
  have S' := S.app [o]
  have low : ∀ j o' p, Hs s j o' → env[j]? = some (some (D.ref p)) → p < h.length := fun j o' p x e => by
    obtain ⟨q, e1, e2⟩ := S.cell j o' x
    rw [e] at e1
    cases e1
    exact (List.getElem?_eq_some_iff.mp e2).1
  have self : ∀ j o', Hs (s.set i (some (Sl.own o))) j o' → i = j → o' = o ∧ (env.set i (some (D.ref h.length)))[j]? = some (some (D.ref h.length)) := fun j o' x e => by
    subst e
    rcases x with x | ⟨p, x⟩
    · obtain ⟨e1, hl⟩ := set_get x
      cases e1
      exact ⟨rfl, List.getElem?_set_self (by rw [S.len]; exact hl)⟩
    · have := (set_get x).1; cases this
  exact {
  len := by simp [S.len]
  le := S'.le
  keep := S'.keep
  val := fun j d' e => by
    by_cases hj : i = j
    · subst hj
      have := (set_get e).1; cases this
    · rw [List.getElem?_set_ne hj] at e ⊢
      exact S.val j d' e
  cell := fun j o' x => by
    by_cases hj : i = j
    · obtain ⟨rfl, e⟩ := self j o' x hj
      exact ⟨h.length, e, by simp⟩
    · obtain ⟨p, e, q⟩ := S'.cell j o' (hs_set_v x hj)
      exact ⟨p, by rw [List.getElem?_set_ne hj]; exact e, q⟩
  own := fun j o' p e q => by
    by_cases hj : i = j
    · obtain ⟨rfl, e1⟩ := self j o' (.inl e) hj
      rw [e1] at q
      cases q
      exact S.le
    · rw [List.getElem?_set_ne hj] at e q
      exact S.own j o' p e q
  bor := fun j p o' e => by
    by_cases hj : i = j
    · subst hj
      have := (set_get e).1; cases this
    · rw [List.getElem?_set_ne hj] at e ⊢
      exact S.bor j p o' e
  sep := fun j k a b p n x y e q => by
    by_cases hj : i = j
    · obtain ⟨_, e1⟩ := self j a x hj
      rw [e1] at e
      cases e
      have hk : i ≠ k := fun z => n (hj.symm.trans z)
      rw [List.getElem?_set_ne hk] at q
      exact absurd (low k b _ (hs_set_v y hk) q) (Nat.lt_irrefl _)
    · by_cases hk : i = k
      · obtain ⟨_, e1⟩ := self k b y hk
        rw [e1] at q
        cases q
        rw [List.getElem?_set_ne hj] at e
        exact absurd (low j a _ (hs_set_v x hj) e) (Nat.lt_irrefl _)
      · rw [List.getElem?_set_ne hj] at e
        rw [List.getElem?_set_ne hk] at q
        exact S.sep j k a b p n (hs_set_v x hj) (hs_set_v y hk) e q
  hid := fun j p o' e => S'.hid j p o' (hid_set (fun _ _ z => by cases z) e).2
  hsep := fun j k p a b n x y => S.hsep j k p a b n (hid_set (fun _ _ z => by cases z) x).2 (hid_set (fun _ _ z => by cases z) y).2
  hcs := fun j k p a b x e y => by
    have y' := (hid_set (fun _ _ z => by cases z) y).2
    by_cases hj : i = j
    · obtain ⟨_, e1⟩ := self j a x hj
      rw [e1] at e
      cases e
      have := (List.getElem?_eq_some_iff.mp (S.hid k _ b y')).1
      exact absurd this (Nat.lt_irrefl _)
    · rw [List.getElem?_set_ne hj] at e
      exact S.hcs j k p a b (hs_set_v x hj) e y' }
theorem chS_own (h : s[i]? = some (some (Sl.own o))) : chS s i o' = s.set i (some (.own o')) := by unfold chS; rw [h]
theorem chS_bor (h : s[i]? = some (some (Sl.bor p o))) : chS s i o' = s.set i (some (.bor p o')) := by unfold chS; rw [h]
/-- a thing is changed -/
theorem Sat.change (S : Sat F s env h) (x : Hs s i o) (e : env[i]? = some (some (D.ref p))) (o' : O) : Sat F (chS s i o') env (h.set p o') := by
  have hp : p < h.length := by
    obtain ⟨q, e1, e2⟩ := S.cell i o x
    rw [e] at e1; cases e1
    exact (List.getElem?_eq_some_iff.mp e2).1
  have hi : i < s.length := by
    rcases x with x | ⟨_, x⟩ <;> exact (List.getElem?_eq_some_iff.mp x).1
  obtain ⟨c, hc, hcc⟩ : ∃ c, chS s i o' = s.set i (some c) ∧ (c = .own o' ∧ s[i]? = some (some (Sl.own o)) ∨ ∃ q, c = .bor q o' ∧ s[i]? = some (some (Sl.bor q o))) := by
    rcases x with x | ⟨q, x⟩
    · exact ⟨_, chS_own x, .inl ⟨rfl, x⟩⟩
    · exact ⟨_, chS_bor x, .inr ⟨q, rfl, x⟩⟩
  rw [hc]
  have self : ∀ j a, Hs (s.set i (some c)) j a → i = j → a = o' := fun j a y z => by
    subst z
    rcases y with y | ⟨q, y⟩
    · have e1 := (set_get y).1
      rcases hcc with ⟨hcc, _⟩ | ⟨q, hcc, _⟩
      · rw [hcc] at e1; cases e1; rfl
      · rw [hcc] at e1; cases e1
    · have e1 := (set_get y).1
      rcases hcc with ⟨hcc, _⟩ | ⟨q, hcc, _⟩
      · rw [hcc] at e1; cases e1
      · rw [hcc] at e1; cases e1; rfl
  have back : ∀ j a, Hs (s.set i (some c)) j a → ∃ a', Hs s j a' := fun j a y => by
    by_cases hj : i = j
    · subst hj; exact ⟨o, x⟩
    · exact ⟨a, hs_set_v y hj⟩
  exact {
  len := by rw [S.len, List.length_set]
  le := by rw [List.length_set]; exact S.le
  keep := fun j a b => by
    have hj : p ≠ j := by
      rcases hcc with ⟨_, z⟩ | ⟨q, _, z⟩
      · have := S.own i o p z e; omega
      · obtain ⟨z1, z2, z3⟩ := S.bor i q o z
        rw [e] at z1
        cases z1
        intro z4
        subst z4
        exact b z3
    rw [List.getElem?_set_ne hj]
    exact S.keep j a b
  val := fun j d' e' => by
    by_cases hj : i = j
    · subst hj
      have e1 := (set_get e').1
      rcases hcc with ⟨hcc, _⟩ | ⟨q, hcc, _⟩ <;> rw [hcc] at e1 <;> cases e1
    · rw [List.getElem?_set_ne hj] at e'
      exact S.val j d' e'
  cell := fun j a y => by
    by_cases hj : i = j
    · have ea := self j a y hj
      subst hj
      subst ea
      exact ⟨p, e, List.getElem?_set_self hp⟩
    · obtain ⟨q, e1, e2⟩ := S.cell j a (hs_set_v y hj)
      refine ⟨q, e1, ?_⟩
      rw [List.getElem?_set_ne]
      · exact e2
      · intro z
        subst z
        exact S.sep i j o a p hj x (hs_set_v y hj) e e1
  own := fun j a q y z => by
    by_cases hj : i = j
    · subst hj
      rw [e] at z
      cases z
      have e1 := (set_get y).1
      rcases hcc with ⟨hcc, w⟩ | ⟨q, hcc, _⟩
      · exact S.own i o p w e
      · rw [hcc] at e1; cases e1
    · rw [List.getElem?_set_ne hj] at y
      exact S.own j a q y z
  bor := fun j q a y => by
    by_cases hj : i = j
    · subst hj
      have e1 := (set_get y).1
      rcases hcc with ⟨hcc, w⟩ | ⟨q', hcc, w⟩
      · rw [hcc] at e1; cases e1
      · rw [hcc] at e1; cases e1
        exact S.bor i q o w
    · rw [List.getElem?_set_ne hj] at y
      exact S.bor j q a y
  sep := fun j k a b q n y z e1 e2 => by
    obtain ⟨a', y'⟩ := back j a y
    obtain ⟨b', z'⟩ := back k b z
    exact S.sep j k a' b' q n y' z' e1 e2
  hid := fun j q a y => by
    have y' := (hid_set (fun _ _ w => by rcases hcc with ⟨w2, _⟩ | ⟨_, w2, _⟩ <;> rw [w2] at w <;> cases w) y).2
    have b := S.hid j q a y'
    rw [List.getElem?_set_ne (fun w => by subst w; exact S.hcs i j p o a x e y')]; exact b
  hsep := fun j k q a b n y z => by
    have y' := (hid_set (fun _ _ w => by rcases hcc with ⟨w2, _⟩ | ⟨_, w2, _⟩ <;> rw [w2] at w <;> cases w) y).2
    have z' := (hid_set (fun _ _ w => by rcases hcc with ⟨w2, _⟩ | ⟨_, w2, _⟩ <;> rw [w2] at w <;> cases w) z).2
    exact S.hsep j k q a b n y' z'
  hcs := fun j k q a b y e1 z => by
    obtain ⟨a', y'⟩ := back j a y
    have z' := (hid_set (fun _ _ w => by rcases hcc with ⟨w2, _⟩ | ⟨_, w2, _⟩ <;> rw [w2] at w <;> cases w) z).2
    exact S.hcs j k q a' b y' e1 z' }

/-- less is known -/
inductive Weak : SEnv → SEnv → Prop where
  | nil : Weak [] []
  | same {x : Option Sl} {a b : SEnv} : Weak a b → Weak (x :: a) (x :: b)
  | drop {x : Option Sl} {a b : SEnv} : Weak a b → Weak (x :: a) (none :: b)
theorem Weak.refl : ∀ s : SEnv, Weak s s
  | [] => .nil
  | _ :: s => .same (Weak.refl s)
theorem Weak.len : ∀ {a b : SEnv}, Weak a b → a.length = b.length
  | _, _, .nil => rfl
  | _, _, .same w => by simp [w.len]
  | _, _, .drop w => by simp [w.len]
theorem Weak.get : ∀ {a b : SEnv}, Weak a b → ∀ {i : Nat} {c : Sl}, b[i]? = some (some c) → a[i]? = some (some c)
  | _, _, .nil, i, c, h => by simp at h
  | _, _, .same w, 0, c, h => h
  | _, _, .same w, i + 1, c, h => by
    simp only [List.getElem?_cons_succ] at h ⊢
    exact w.get h
  | _, _, .drop w, 0, c, h => by simp at h
  | _, _, .drop w, i + 1, c, h => by
    simp only [List.getElem?_cons_succ] at h ⊢
    exact w.get h
theorem Weak.hs (w : Weak s s') (x : Hs s' i o) : Hs s i o := by
  rcases x with x | ⟨p, x⟩
  · exact .inl (w.get x)
  · exact .inr ⟨p, w.get x⟩
/-- back from a comprehension -/
theorem Sat.back (S : Sat F s env h) (S1 : Sat F s1 env1 h') (hl : s'.length = s.length) (hv : ∀ (i : Nat) (d : D), s'[i]? = some (some (Sl.v d)) → s[i]? = some (some (Sl.v d)))
    (ho : ∀ (i : Nat) (c : Sl), s'[i]? = some (some c) → (∀ d, c ≠ Sl.v d) → s1[i]? = some (some c) ∧ env1[i]? = env[i]?) : Sat F s' env h' where
  len := by rw [S.len, hl]
  le := S1.le
  keep := S1.keep
  val := fun i d e => S.val i d (hv i d e)
  cell := fun i o x => by
    rcases x with x | ⟨p, x⟩
    · obtain ⟨a, b⟩ := ho i _ x (fun d z => nomatch z)
      obtain ⟨q, e1, e2⟩ := S1.cell i o (.inl a)
      exact ⟨q, by rw [← b]; exact e1, e2⟩
    · obtain ⟨a, b⟩ := ho i _ x (fun d z => nomatch z)
      obtain ⟨q, e1, e2⟩ := S1.cell i o (.inr ⟨p, a⟩)
      exact ⟨q, by rw [← b]; exact e1, e2⟩
  own := fun i o p x q => by
    obtain ⟨a, b⟩ := ho i _ x (fun d z => nomatch z)
    exact S1.own i o p a (by rw [b]; exact q)
  bor := fun i p o x => by
    obtain ⟨a, b⟩ := ho i _ x (fun d z => nomatch z)
    rw [← b]
    exact S1.bor i p o a
  sep := fun i j o o' p n x y e q => by
    have f : ∀ k a, Hs s' k a → Hs s1 k a ∧ env1[k]? = env[k]? := fun k a z => by
      rcases z with z | ⟨r, z⟩
      · obtain ⟨u, w⟩ := ho k _ z (fun d z => nomatch z); exact ⟨.inl u, w⟩
      · obtain ⟨u, w⟩ := ho k _ z (fun d z => nomatch z); exact ⟨.inr ⟨r, u⟩, w⟩
    obtain ⟨x1, x2⟩ := f i o x
    obtain ⟨y1, y2⟩ := f j o' y
    exact S1.sep i j o o' p n x1 y1 (by rw [x2]; exact e) (by rw [y2]; exact q)
  hid := fun i p o x => S1.hid i p o (ho i _ x (fun d z => nomatch z)).1
  hsep := fun i j p o o' n x y => S1.hsep i j p o o' n (ho i _ x (fun d z => nomatch z)).1 (ho j _ y (fun d z => nomatch z)).1
  hcs := fun i j p o o' x e y => by
    have g : Hs s1 i o ∧ env1[i]? = env[i]? := by
      rcases x with z | ⟨r, z⟩
      · obtain ⟨u, w⟩ := ho i _ z (fun d z => nomatch z); exact ⟨.inl u, w⟩
      · obtain ⟨u, w⟩ := ho i _ z (fun d z => nomatch z); exact ⟨.inr ⟨r, u⟩, w⟩
    exact S1.hcs i j p o o' g.1 (by rw [g.2]; exact e) (ho j _ y (fun d z => nomatch z)).1
end

def QX (F : Fr) (s : SEnv) (m : ME) (d : D) (s' : SEnv) : Prop := ∀ env h, Sat F s env h → ∃ h', m env h = .ok d h' ∧ Sat F s' env h'
def QT (F : Fr) (s : SEnv) (m : MT) (b : Bool) (s' : SEnv) : Prop := ∀ env h, Sat F s env h → ∃ h', m env h = .ok b h' ∧ Sat F s' env h'
def QA (F : Fr) (s : SEnv) (m : MA) (ds : List D) (s' : SEnv) : Prop := ∀ env h, Sat F s env h → ∃ h', m env h = .ok ds h' ∧ Sat F s' env h'
def QI (F : Fr) (s : SEnv) (m : MI) (ds : List D) (s' : SEnv) : Prop := ∀ env h, Sat F s env h → ∃ h', m env h = .ok ⟨ds, none⟩ h' ∧ Sat F s' env h'
def QB (T : Tg) (d : D) (s s' : SEnv) : Prop := ∀ F env h, Sat F s env h → ∃ env', bindT T d env = some env' ∧ Sat F s' env' h
section
variable {F : Fr} {s s' s1 s2 s3 : SEnv} {A B : ME} {d d1 d2 d3 : D} {i : Nat} {o : O}
theorem q_slot (i : Nat) (e : s[i]? = some (some (Sl.v d)) := by rfl) : QX F s (eSlot i) d s := fun env h S => ⟨h, by
  unfold eSlot
  rw [S.val i d e], S⟩
theorem q_c : QX F s (eC d) d s := fun env h S => ⟨h, rfl, S⟩
theorem q_op2 {f : Op2} (hA : QX F s A d1 s1) (hB : QX F s1 B d2 s2) (ho : ∀ h, f d1 d2 h = some d3) : QX F s (eOp2 f A B) d3 s2 := fun env h S => by
  obtain ⟨h1, e1, S1⟩ := hA env h S
  obtain ⟨h2, e2, S2⟩ := hB env h1 S1
  refine ⟨h2, ?_, S2⟩
  unfold eOp2
  rw [e1, bind_ok, e2, bind_ok, ho]
  rfl
theorem qa_nil : QA F s aNil [] s := fun env h S => ⟨h, rfl, S⟩
theorem qa_cons {ms : MA} {ds : List D} (hA : QX F s A d s1) (hB : QA F s1 ms ds s2) : QA F s (aCons A ms) (d :: ds) s2 := fun env h S => by
  obtain ⟨h1, e1, S1⟩ := hA env h S
  obtain ⟨h2, e2, S2⟩ := hB env h1 S1
  exact ⟨h2, by unfold aCons; rw [e1, bind_ok, e2, bind_ok], S2⟩
theorem q_opN {f : OpN} {ms : MA} {ds : List D} (hA : QA F s ms ds s1) (ho : ∀ h, f ds h = some d) : QX F s (eOpN f ms) d s1 := fun env h S => by
  obtain ⟨h1, e1, S1⟩ := hA env h S
  exact ⟨h1, by unfold eOpN; rw [e1, bind_ok, ho]; rfl, S1⟩
theorem q_tup {ms : MA} {ds : List D} (hA : QA F s ms ds s1) : QX F s (eTup ms) (.tup ds) s1 := fun env h S => by
  obtain ⟨h1, e1, S1⟩ := hA env h S
  exact ⟨h1, by unfold eTup; rw [e1, bind_ok], S1⟩
theorem q_frz {ms : MA} {ds : List D} (hA : QA F s ms ds s1) : QX F s (eFrz ms) (.lst ds) s1 := fun env h S => by
  obtain ⟨h1, e1, S1⟩ := hA env h S
  exact ⟨h1, by unfold eFrz; rw [e1, bind_ok], S1⟩
/-- tests -/
theorem qt_e {b : Bool} (hA : QX F s A (.bl b) s1) : QT F s (tE A) b s1 := fun env h S => by
  obtain ⟨h1, e1, S1⟩ := hA env h S
  exact ⟨h1, by unfold tE; rw [e1, bind_ok]; rfl, S1⟩
variable {a b : MT} {p q : Bool}
theorem qt_or (ha : QT F s a p s1) (hb : p = false → QT F s1 b q s1) : QT F s (tOr a b) (p || q) s1 := fun env h S => by
  obtain ⟨h1, e1, S1⟩ := ha env h S
  cases p with
  | false =>
    obtain ⟨h2, e2, S2⟩ := hb rfl env h1 S1
    exact ⟨h2, by unfold tOr; rw [e1, bind_ok, if_neg (by decide), e2]; rfl, S2⟩
  | true => exact ⟨h1, by unfold tOr; rw [e1, bind_ok]; rfl, S1⟩
theorem qt_not (ha : QT F s a p s1) : QT F s (tNot a) (!p) s1 := fun env h S => by
  obtain ⟨h1, e1, S1⟩ := ha env h S
  exact ⟨h1, by unfold tNot; rw [e1, bind_ok], S1⟩
theorem q_and (hA : QX F s A (.bl p) s1) (hB : p = true → QX F s1 B (.bl q) s1) : QX F s (eAnd A B) (.bl (p && q)) s1 := fun env h S => by
  obtain ⟨h1, e1, S1⟩ := hA env h S
  cases p with
  | true =>
    obtain ⟨h2, e2, S2⟩ := hB rfl env h1 S1
    exact ⟨h2, by unfold eAnd; rw [e1, bind_ok]; show B env h1 = _; rw [e2]; rfl, S2⟩
  | false => exact ⟨h1, by unfold eAnd; rw [e1, bind_ok]; rfl, S1⟩
theorem q_or (hA : QX F s A (.bl p) s1) (hB : p = false → QX F s1 B (.bl q) s1) : QX F s (eOr A B) (.bl (p || q)) s1 := fun env h S => by
  obtain ⟨h1, e1, S1⟩ := hA env h S
  cases p with
  | false =>
    obtain ⟨h2, e2, S2⟩ := hB rfl env h1 S1
    exact ⟨h2, by unfold eOr; rw [e1, bind_ok]; show B env h1 = _; rw [e2]; rfl, S2⟩
  | true => exact ⟨h1, by unfold eOr; rw [e1, bind_ok]; rfl, S1⟩
theorem q_not (hA : QX F s A (.bl p) s1) : QX F s (eNot A) (.bl (!p)) s1 := fun env h S => by
  obtain ⟨h1, e1, S1⟩ := hA env h S
  exact ⟨h1, by unfold eNot; rw [e1, bind_ok]; rfl, S1⟩
variable {C : ME}
theorem q_chain {f g : Op2} (hA : QX F s A d1 s1) (hB : QX F s1 B d2 s2) (hC : p = true → QX F s2 C d3 s2) (ho : ∀ h, f d1 d2 h = some (.bl p)) (ho2 : ∀ h, g d2 d3 h = some (.bl q)) : QX F s (eChain f g A B C) (.bl (p && q)) s2 := fun env h S => by
  obtain ⟨h1, e1, S1⟩ := hA env h S
  obtain ⟨h2, e2, S2⟩ := hB env h1 S1
  cases p with
  | true =>
    obtain ⟨h3, e3, S3⟩ := hC rfl env h2 S2
    refine ⟨h3, ?_, S3⟩
    unfold eChain
    rw [e1, bind_ok, e2, bind_ok, ho]
    show (C env h2).bind _ = _
    rw [e3, bind_ok, ho2]
    rfl
  | false =>
    refine ⟨h2, ?_, S2⟩
    unfold eChain
    rw [e1, bind_ok, e2, bind_ok, ho]
    rfl
/-- an end of a slice -/
def QO (F : Fr) (s : SEnv) (m : MO) (k : Option Int) (s' : SEnv) : Prop := ∀ env h, Sat F s env h → ∃ h', m env h = .ok k h' ∧ Sat F s' env h'
theorem qo_none : QO F s oNone none s := fun env h S => ⟨h, rfl, S⟩
theorem qo_some {k : Int} (hA : QX F s A (.int k) s1) : QO F s (oSome A) (some k) s1 := fun env h S => by
  obtain ⟨h1, e1, S1⟩ := hA env h S
  exact ⟨h1, by unfold oSome; rw [e1, bind_ok]; rfl, S1⟩
theorem q_slice {lo hi : MO} {k l : Option Int} (hA : QX F s A d1 s1) (hl : QO F s1 lo k s2) (hh : QO F s2 hi l s3) (ho : ∀ h, sliceO d1 k l h = some d2) : QX F s (eSlice A lo hi) d2 s3 := fun env h S => by
  obtain ⟨h1, e1, S1⟩ := hA env h S
  obtain ⟨h2, e2, S2⟩ := hl env h1 S1
  obtain ⟨h3, e3, S3⟩ := hh env h2 S2
  exact ⟨h3, by unfold eSlice; rw [e1, bind_ok, e2, bind_ok, e3, bind_ok, ho]; rfl, S3⟩
/-- a call of a def that leaves all as it was -/
theorem q_call {G : MF} {ms : MA} {ds : List D} (hA : QA F s ms ds s1) (ho : ∀ h, G ds h = .ok d h) : QX F s (eCall G ms) d s1 := fun env h S => by
  obtain ⟨h1, e1, S1⟩ := hA env h S
  exact ⟨h1, by unfold eCall; rw [e1, bind_ok, ho], S1⟩
end
end MR

namespace MR
open PySem PySem.Spec PyProof.Rows L2

/-- the words of this program -/
inductive Wd where
  | rows | readers | writers | turns | passes | out | reads | rising | writes | raised | read | write | up | down | leave | stop | tick | steps | in_ | waits | no | ends | starves | within | never | alike | parts
  deriving DecidableEq, Inhabited
def Wd.val : Wd → Str
  | .rows => "rows" | .readers => "readers" | .writers => "writers" | .turns => "turns" | .passes => "passes" | .out => "out" | .reads => "reads" | .rising => "rising" | .writes => "writes" | .raised => "raised"
  | .read => "read" | .write => "write" | .up => "up" | .down => "down" | .leave => "leave" | .stop => "stop" | .tick => "tick" | .steps => "steps" | .in_ => "in" | .waits => "waits" | .no => "no" | .ends => "ends"
  | .starves => "starves" | .within => "within" | .never => "never" | .alike => "alike" | .parts => "parts"
def Wd.all : List Wd := [.rows, .readers, .writers, .turns, .passes, .out, .reads, .rising, .writes, .raised, .read, .write, .up, .down, .leave, .stop, .tick, .steps, .in_, .waits, .no, .ends, .starves, .within, .never, .alike, .parts]
def Wd.of (x : Str) : Option Wd := Wd.all.find? fun w => decide (w.val = x)
theorem Wd.of_val (w : Wd) : Wd.of w.val = some w := by cases w <;> decide +kernel
theorem Wd.val_inj {a b : Wd} (h : a.val = b.val) : a = b := by
  have := Wd.of_val a
  rw [h, Wd.of_val b] at this
  exact (Option.some.inj this).symm
theorem Wd.ok (w : Wd) : PyData.strOk w.val = true := by cases w <;> decide +kernel

def eN : Unit → D := fun _ => .non
def eW : Wd → D := fun w => .str w.val
section
variable {α β γ δ : Type}
def eO (e : α → D) : Option α → D := fun o => match o with | none => .non | some a => e a
def eS (e : α → D) : List α → D := fun l => .tup (l.map e)
def eL (e : α → D) : List α → D := fun l => .lst (l.map e)
def oL (e : α → D) : List α → O := fun l => .lst (l.map e)
def eT1 (a : α → D) : α → D := fun p => .tup [a p]
def eT2 (a : α → D) (b : β → D) : α × β → D := fun p => .tup [a p.1, b p.2]
def eT3 (a : α → D) (b : β → D) (c : γ → D) : α × β × γ → D := fun p => .tup [a p.1, b p.2.1, c p.2.2]
def eT4 (a : α → D) (b : β → D) (c : γ → D) (d : δ → D) : α × β × γ × δ → D := fun p => .tup [a p.1, b p.2.1, c p.2.2.1, d p.2.2.2]
end
/-- a deed -/
inductive Deed where
  | ask (w : Wd) (g : Int) (l : Option Int)
  | mov (w : Wd) (g : Int)
  | tick
  deriving DecidableEq, Inhabited
def eDd : Deed → D
  | .ask w g l => .tup [eW w, .int g, eO D.int l]
  | .mov w g => .tup [eW w, .int g]
  | .tick => .tup [eW .tick]
def Deed.word : Deed → Wd
  | .ask w _ _ => w
  | .mov w _ => w
  | .tick => .tick
def Deed.guest : Deed → Int
  | .ask _ g _ => g
  | .mov _ g => g
  | .tick => 0
def Deed.left : Deed → Option Int
  | .ask _ _ l => l
  | _ => none
def Deed.isAsk : Deed → Bool
  | .ask _ _ _ => true
  | _ => false
def Deed.isTick : Deed → Bool
  | .tick => true
  | _ => false
def Deed.size : Deed → Int
  | .ask _ _ _ => 3
  | .mov _ _ => 2
  | .tick => 1

/-- an encoder without refs -/
class NR {α : Type} (e : α → D) : Prop where
  nr : ∀ a n, bel n (e a) = true
/-- never None -/
class NN {α : Type} (e : α → D) : Prop where
  nn : ∀ a h neg, isNO neg (e a) .non h = some (.bl neg)
/-- an encoder whose things are compared by value -/
class PyE {α : Type} [DecidableEq α] (e : α → D) where
  n : Nat
  py : α → PyData
  to : ∀ a, toPy (e a) = some (py a)
  lay : ∀ a, (py a).canLay0 = true
  dep : ∀ a, (py a).depth ≤ n
  eqv : ∀ a b, PyData.eqv (py a) (py b) = decide (a = b)
  nz : ∀ a, PyData.eqv PyData.none (py a) = false ∧ PyData.eqv (py a) PyData.none = false
section
variable {α β γ δ : Type}
theorem bels_map {e : α → D} [NR e] (n : Nat) : ∀ l : List α, bels n (l.map e) = true
  | [] => rfl
  | x :: xs => by rw [List.map_cons, bels, NR.nr x n, bels_map n xs]; rfl
instance : NR eN := ⟨fun _ _ => rfl⟩
instance : NR D.int := ⟨fun _ _ => rfl⟩
instance : NR D.bl := ⟨fun _ _ => rfl⟩
instance : NR D.str := ⟨fun _ _ => rfl⟩
instance : NR eW := ⟨fun _ _ => rfl⟩
instance {e : α → D} [NR e] : NR (eO e) := ⟨fun a n => by cases a with | none => rfl | some a => exact NR.nr a n⟩
instance {e : α → D} [NR e] : NR (eS e) := ⟨fun a n => by show bels n _ = true; exact bels_map n a⟩
instance {e : α → D} [NR e] : NR (eL e) := ⟨fun a n => by show bels n _ = true; exact bels_map n a⟩
instance {a : α → D} [NR a] : NR (eT1 a) := ⟨fun p n => by show bels n [_] = true; simp [bels, NR.nr (e := a)]⟩
instance {a : α → D} {b : β → D} [NR a] [NR b] : NR (eT2 a b) := ⟨fun p n => by show bels n [_, _] = true; simp [bels, NR.nr (e := a), NR.nr (e := b)]⟩
instance {a : α → D} {b : β → D} {c : γ → D} [NR a] [NR b] [NR c] : NR (eT3 a b c) := ⟨fun p n => by show bels n [_, _, _] = true; simp [bels, NR.nr (e := a), NR.nr (e := b), NR.nr (e := c)]⟩
instance {a : α → D} {b : β → D} {c : γ → D} {d : δ → D} [NR a] [NR b] [NR c] [NR d] : NR (eT4 a b c d) := ⟨fun p n => by show bels n [_, _, _, _] = true; simp [bels, NR.nr (e := a), NR.nr (e := b), NR.nr (e := c), NR.nr (e := d)]⟩
instance : NR eDd := ⟨fun a n => by
  cases a with
  | ask w g l => show bels n [_, _, _] = true; simp [bels, NR.nr (e := eW), NR.nr (e := eO D.int), bel]
  | mov w g => show bels n [_, _] = true; simp [bels, NR.nr (e := eW), bel]
  | tick => rfl⟩
instance : NN D.int := ⟨fun _ _ _ => rfl⟩
instance : NN D.bl := ⟨fun _ _ _ => rfl⟩
instance : NN D.str := ⟨fun _ _ _ => rfl⟩
instance : NN eW := ⟨fun _ _ _ => rfl⟩
instance {e : α → D} : NN (eS e) := ⟨fun _ _ _ => rfl⟩
instance {e : α → D} : NN (eL e) := ⟨fun _ _ _ => rfl⟩
instance {a : α → D} : NN (eT1 a) := ⟨fun _ _ _ => rfl⟩
instance {a : α → D} {b : β → D} : NN (eT2 a b) := ⟨fun _ _ _ => rfl⟩
instance {a : α → D} {b : β → D} {c : γ → D} : NN (eT3 a b c) := ⟨fun _ _ _ => rfl⟩
instance {a : α → D} {b : β → D} {c : γ → D} {d : δ → D} : NN (eT4 a b c d) := ⟨fun _ _ _ => rfl⟩
instance : NN eDd := ⟨fun a _ _ => by cases a <;> rfl⟩
instance pyE_int : PyE D.int := ⟨0, PyData.int, fun _ => rfl, fun _ => rfl, fun _ => Nat.le_refl _, fun a b => by show (a == b) = _; exact deq, fun a => ⟨rfl, rfl⟩⟩
instance pyE_bl : PyE D.bl := ⟨0, PyData.bool, fun _ => rfl, fun _ => rfl, fun _ => Nat.le_refl _, fun a b => by cases a <;> cases b <;> rfl, fun a => ⟨rfl, rfl⟩⟩
instance pyE_w : PyE eW := ⟨0, fun w => PyData.str w.val, fun _ => rfl, fun w => w.ok, fun _ => Nat.le_refl _, fun a b => by
  show (a.val == b.val) = _
  rw [deq]
  by_cases h : a = b
  · subst h; simp
  · rw [decide_eq_false h, decide_eq_false fun z => h (Wd.val_inj z)], fun a => ⟨rfl, rfl⟩⟩
/-- None or a thing -/
def pyOpt (f : α → PyData) : Option α → PyData
  | none => .none
  | some a => f a
/-- an encoder that may give None -/
class PyEO {α : Type} [DecidableEq α] (e : α → D) where
  n : Nat
  py : α → PyData
  to : ∀ a, toPy (e a) = some (py a)
  lay : ∀ a, (py a).canLay0 = true
  dep : ∀ a, (py a).depth ≤ n
  eqv : ∀ a b, PyData.eqv (py a) (py b) = decide (a = b)
variable [DecidableEq α] [DecidableEq β] [DecidableEq γ] [DecidableEq δ]
instance pyEO_of {e : α → D} [i : PyE e] : PyEO e := ⟨i.n, i.py, i.to, i.lay, i.dep, i.eqv⟩
instance pyEO_opt {e : α → D} [i : PyE e] : PyEO (eO e) := ⟨i.n, pyOpt i.py, fun a => by cases a with | none => rfl | some a => exact i.to a, fun a => by cases a with | none => rfl | some a => exact i.lay a,
  fun a => by cases a with | none => exact Nat.zero_le _ | some a => exact i.dep a, fun a b => by
  cases a with
  | none => cases b with
    | none => rfl
    | some b => exact (i.nz b).1
  | some a => cases b with
    | none => exact (i.nz a).2
    | some b =>
      show PyData.eqv (i.py a) (i.py b) = _
      rw [i.eqv]
      by_cases h : a = b
      · subst h; simp
      · rw [decide_eq_false h, decide_eq_false fun z => h (Option.some.inj z)]⟩
theorem toPys_map {e : α → D} [i : PyEO e] : ∀ l : List α, toPys (l.map e) = some (l.map i.py)
  | [] => rfl
  | x :: xs => by rw [List.map_cons, toPys, i.to x, toPys_map xs]; rfl
theorem lay_map {e : α → D} [i : PyEO e] : ∀ l : List α, PyData.canLayAll0 (l.map i.py) = true
  | [] => rfl
  | x :: xs => by rw [List.map_cons, PyData.canLayAll0, i.lay x, lay_map xs]; rfl
theorem dep_map {e : α → D} [i : PyEO e] : ∀ l : List α, PyData.depthAll (l.map i.py) ≤ i.n + 1
  | [] => by rw [List.map_nil, PyData.depthAll]; omega
  | x :: xs => by rw [List.map_cons, PyData.depthAll]; have := i.dep x; have := dep_map (e := e) xs; omega
theorem eqv_map {e : α → D} [i : PyEO e] : ∀ l m : List α, PyData.eqvAll (l.map i.py) (m.map i.py) = decide (l = m)
  | [], [] => rfl
  | [], y :: ys => rfl
  | x :: xs, [] => rfl
  | x :: xs, y :: ys => by
    rw [List.map_cons, List.map_cons, PyData.eqvAll, i.eqv x y, eqv_map xs ys]
    by_cases h1 : x = y
    · subst h1
      by_cases h2 : xs = ys
      · subst h2; simp
      · simp [h2]
    · simp [h1]
instance pyE_seq {e : α → D} [i : PyEO e] : PyE (eS e) := ⟨i.n + 2, fun l => .tuple (l.map i.py), fun l => by show (toPys (l.map e)).map PyData.tuple = _; rw [toPys_map]; rfl, fun l => by rw [PyData.canLay0]; exact lay_map l,
  fun l => by rw [PyData.depth]; have := dep_map (e := e) l; omega, fun l m => by rw [PyData.eqv]; exact eqv_map l m, fun l => ⟨rfl, rfl⟩⟩
instance pyE_lst {e : α → D} [i : PyEO e] : PyE (eL e) := ⟨i.n + 2, fun l => .list (l.map i.py), fun l => by show (toPys (l.map e)).map PyData.list = _; rw [toPys_map]; rfl, fun l => by rw [PyData.canLay0]; exact lay_map l,
  fun l => by rw [PyData.depth]; have := dep_map (e := e) l; omega, fun l m => by rw [PyData.eqv]; exact eqv_map l m, fun l => ⟨rfl, rfl⟩⟩
theorem dec_and {p q r : Prop} [Decidable p] [Decidable q] [Decidable r] (h : r ↔ p ∧ q) : (decide p && decide q) = decide r := by
  by_cases hp : p <;> by_cases hq : q <;> simp [hp, hq, h]
instance pyE_t1 {a : α → D} [i : PyEO a] : PyE (eT1 a) := ⟨i.n + 1, fun p => .tuple [i.py p], fun p => by show (toPys [_]).map _ = _; simp [toPys, i.to], fun p => by simp [PyData.canLay0, PyData.canLayAll0, i.lay],
  fun p => by simp only [PyData.depth, PyData.depthAll]; have := i.dep p; omega, fun p q => by simp [PyData.eqv, PyData.eqvAll, i.eqv], fun l => ⟨rfl, rfl⟩⟩
instance pyE_t2 {a : α → D} {b : β → D} [i : PyEO a] [j : PyEO b] : PyE (eT2 a b) := ⟨i.n + j.n + 1, fun p => .tuple [i.py p.1, j.py p.2], fun p => by show (toPys [_, _]).map _ = _; simp [toPys, i.to, j.to], fun p => by simp [PyData.canLay0, PyData.canLayAll0, i.lay, j.lay],
  fun p => by simp only [PyData.depth, PyData.depthAll]; have := i.dep p.1; have := j.dep p.2; omega, fun p q => by
    obtain ⟨p1, p2⟩ := p; obtain ⟨q1, q2⟩ := q
    simp only [PyData.eqv, PyData.eqvAll, i.eqv, j.eqv, Bool.and_true]
    exact dec_and (by rw [Prod.mk.injEq]), fun l => ⟨rfl, rfl⟩⟩
instance pyE_t3 {a : α → D} {b : β → D} {c : γ → D} [i : PyEO a] [j : PyEO b] [k : PyEO c] : PyE (eT3 a b c) := ⟨i.n + j.n + k.n + 1, fun p => .tuple [i.py p.1, j.py p.2.1, k.py p.2.2], fun p => by show (toPys [_, _, _]).map _ = _; simp [toPys, i.to, j.to, k.to], fun p => by simp [PyData.canLay0, PyData.canLayAll0, i.lay, j.lay, k.lay],
  fun p => by simp only [PyData.depth, PyData.depthAll]; have := i.dep p.1; have := j.dep p.2.1; have := k.dep p.2.2; omega, fun p q => by
    obtain ⟨p1, p2, p3⟩ := p; obtain ⟨q1, q2, q3⟩ := q
    simp only [PyData.eqv, PyData.eqvAll, i.eqv, j.eqv, k.eqv, Bool.and_true]
    rw [dec_and (p := p2 = q2) (q := p3 = q3) (r := p2 = q2 ∧ p3 = q3) Iff.rfl]
    exact dec_and (by rw [Prod.mk.injEq, Prod.mk.injEq]), fun l => ⟨rfl, rfl⟩⟩
instance pyE_t4 {a : α → D} {b : β → D} {c : γ → D} {d : δ → D} [i : PyEO a] [j : PyEO b] [k : PyEO c] [l : PyEO d] : PyE (eT4 a b c d) := ⟨i.n + j.n + k.n + l.n + 1, fun p => .tuple [i.py p.1, j.py p.2.1, k.py p.2.2.1, l.py p.2.2.2], fun p => by show (toPys [_, _, _, _]).map _ = _; simp [toPys, i.to, j.to, k.to, l.to], fun p => by simp [PyData.canLay0, PyData.canLayAll0, i.lay, j.lay, k.lay, l.lay],
  fun p => by simp only [PyData.depth, PyData.depthAll]; have := i.dep p.1; have := j.dep p.2.1; have := k.dep p.2.2.1; have := l.dep p.2.2.2; omega, fun p q => by
    obtain ⟨p1, p2, p3, p4⟩ := p; obtain ⟨q1, q2, q3, q4⟩ := q
    simp only [PyData.eqv, PyData.eqvAll, i.eqv, j.eqv, k.eqv, l.eqv, Bool.and_true]
    rw [dec_and (p := p3 = q3) (q := p4 = q4) (r := p3 = q3 ∧ p4 = q4) Iff.rfl, dec_and (p := p2 = q2) (q := p3 = q3 ∧ p4 = q4) (r := p2 = q2 ∧ p3 = q3 ∧ p4 = q4) Iff.rfl]
    exact dec_and (by rw [Prod.mk.injEq, Prod.mk.injEq, Prod.mk.injEq]), fun l => ⟨rfl, rfl⟩⟩
def Deed.py : Deed → PyData
  | .ask w g l => .tuple [.str w.val, .int g, pyOpt PyData.int l]
  | .mov w g => .tuple [.str w.val, .int g]
  | .tick => .tuple [.str Wd.tick.val]
instance pyE_deed : PyE eDd := ⟨2, Deed.py, fun d => by
    cases d with
    | ask w g l => cases l <;> rfl
    | mov w g => rfl
    | tick => rfl, fun d => by
    cases d with
    | ask w g l => cases l <;> simp [Deed.py, PyData.canLay0, PyData.canLayAll0, pyOpt, w.ok]
    | mov w g => simp [Deed.py, PyData.canLay0, PyData.canLayAll0, w.ok]
    | tick => simp [Deed.py, PyData.canLay0, PyData.canLayAll0, Wd.ok], fun d => by
    cases d with
    | ask w g l => cases l <;> simp [Deed.py, PyData.depth, PyData.depthAll, pyOpt]
    | mov w g => simp [Deed.py, PyData.depth, PyData.depthAll]
    | tick => simp [Deed.py, PyData.depth, PyData.depthAll], fun a b => by
    have eW' : ∀ v w : Wd, PyData.eqv (.str v.val) (.str w.val) = decide (v = w) := fun v w => pyE_w.eqv v w
    have eI : ∀ v w : Int, PyData.eqv (.int v) (.int w) = decide (v = w) := fun v w => pyE_int.eqv v w
    have eP : ∀ v w : Option Int, PyData.eqv (pyOpt PyData.int v) (pyOpt PyData.int w) = decide (v = w) := fun v w => (pyEO_opt (e := D.int)).eqv v w
    cases a with
    | ask w g l =>
      cases b with
      | ask w' g' l' =>
        simp only [Deed.py, PyData.eqv, PyData.eqvAll, eW', eI, eP, Bool.and_true]
        have eW'' : ∀ v w : Wd, (v.val == w.val) = decide (v = w) := eW'
        have eI' : ∀ v w : Int, (v == w) = decide (v = w) := eI
        simp [eW'', eI']
      | mov w' g' => simp [Deed.py, PyData.eqv, PyData.eqvAll]
      | tick => simp [Deed.py, PyData.eqv, PyData.eqvAll]
    | mov w g =>
      cases b with
      | ask w' g' l' => simp [Deed.py, PyData.eqv, PyData.eqvAll]
      | mov w' g' =>
        have eW'' : ∀ v w : Wd, (v.val == w.val) = decide (v = w) := eW'
        simp [Deed.py, PyData.eqv, PyData.eqvAll, eW'']
        have eI' : ∀ v w : Int, (v == w) = decide (v = w) := eI
        simp [eI']
      | tick => simp [Deed.py, PyData.eqv, PyData.eqvAll]
    | tick =>
      cases b with
      | ask w' g' l' => simp [Deed.py, PyData.eqv, PyData.eqvAll]
      | mov w' g' => simp [Deed.py, PyData.eqv, PyData.eqvAll]
      | tick => simp [Deed.py, PyData.eqv, PyData.eqvAll], fun d => by cases d <;> exact ⟨rfl, rfl⟩⟩

theorem shaped_of (e : α → D) [i : PyEO e] (hn : i.n ≤ 64) (x : α) : SeqAt.shaped (i.py x) = true := by
  unfold SeqAt.shaped
  rw [i.lay, decide_eq_true (by have := i.dep x; omega)]; rfl
theorem py_of (e : α → D) [i : PyEO e] (hn : i.n ≤ 64) (x : α) (h : Hh) : pyOf (e x) h = some (i.py x) := by
  have ed : deref (e x) h = e x := by
    have := i.to x
    cases he : e x with
    | ref j => rw [he, toPy] at this; cases this
    | _ => rfl
  unfold pyOf
  rw [ed, i.to]
  show (if SeqAt.shaped (i.py x) = true then some (i.py x) else none) = _
  rw [if_pos (shaped_of e hn x)]
theorem py_own (e : α → D) [i : PyEO e] (hn : i.n ≤ 60) (l : List α) {h : Hh} {p : Nat} (hp : h[p]? = some (oL e l)) : pyOf (.ref p) h = some (.list (l.map i.py)) := by
  have ed : deref (.ref p) h = .lst (l.map e) := by
    show (match h[p]? with | some (O.lst ds) => D.lst ds | _ => .ref p) = _
    rw [hp]; rfl
  unfold pyOf
  rw [ed, toPy, toPys_map]
  have : SeqAt.shaped (.list (l.map i.py)) = true := by
    unfold SeqAt.shaped
    rw [PyData.canLay0, lay_map, PyData.depth, decide_eq_true (by have := dep_map (e := e) l; omega)]; rfl
  show (if SeqAt.shaped (.list (l.map i.py)) = true then _ else _) = _
  rw [if_pos this]
theorem o_eq (e : α → D) [i : PyEO e] (x y : α) (hn : i.n ≤ 64 := by decide) (h : Hh) : eqO (e x) (e y) h = some (.bl (decide (x = y))) := by
  unfold eqO
  rw [py_of e hn, py_of e hn]
  show some (D.bl (PyData.eqv _ _)) = _
  rw [i.eqv]
theorem o_ne (e : α → D) [i : PyEO e] (x y : α) (hn : i.n ≤ 64 := by decide) (h : Hh) : neO (e x) (e y) h = some (.bl (!decide (x = y))) := by
  unfold neO
  rw [py_of e hn, py_of e hn]
  show some (D.bl (!PyData.eqv _ _)) = _
  rw [i.eqv]
theorem any_mem (e : α → D) [i : PyEO e] (x : α) : ∀ l : List α, ((l.map i.py).any fun z => PyData.eqv z (i.py x)) = decide (x ∈ l)
  | [] => rfl
  | y :: ys => by
    rw [List.map_cons, List.any_cons, any_mem e x ys, i.eqv]
    by_cases h : y = x
    · subst h; simp
    · simp [h, Ne.symm h]
theorem dec_eq {p : Prop} (a b : Decidable p) : @decide p a = @decide p b := by cases a <;> cases b <;> first | rfl | contradiction
theorem o_inS (e : α → D) [i : PyEO e] (x : α) (l : List α) {dd : Decidable (x ∈ l)} (hn : i.n ≤ 60 := by decide) (h : Hh) : inO false (e x) (eS e l) h = some (.bl (@decide (x ∈ l) dd)) := by
  unfold inO
  rw [py_of e (by omega), py_of (eS e) (i := pyEO_of) (by show i.n + 2 ≤ 64; omega)]
  show some (D.bl ((l.map i.py).any fun z => PyData.eqv z (i.py x))) = _
  rw [any_mem]
  exact congrArg (fun b => some (D.bl b)) (dec_eq _ _)
theorem o_eqO (e : α → D) [i : PyEO e] (l m : List α) (hn : i.n ≤ 60 := by decide) (h : Hh) (p : Nat) (hp : h[p]? = some (oL e l)) : eqO (.ref p) (eL e m) h = some (.bl (decide (l = m))) := by
  unfold eqO
  rw [py_own e hn l hp, py_of (eL e) (i := pyEO_of) (by show i.n + 2 ≤ 64; omega)]
  show some (D.bl (PyData.eqv (.list _) (.list _))) = _
  rw [PyData.eqv, eqv_map]
end
end MR

namespace MR
open PySem PySem.Spec PyProof.Rows L2

section
variable {α β γ δ : Type}
/-- an index that is there -/
def inR (l : List α) (i : Int) : Prop := -(l.length : Int) ≤ i ∧ i < l.length
instance (l : List α) (i : Int) : Decidable (inR l i) := inferInstanceAs (Decidable (_ ∧ _))
def atZ [Inhabited α] (l : List α) (i : Int) : α := ((if 0 ≤ i then l[i.toNat]? else l[(i + l.length).toNat]?) : Option α).getD default
theorem atI_at [Inhabited α] (l : List α) (i : Int) (hi : inR l i) : atI l i = some (atZ l i) := by
  unfold inR at hi
  unfold atZ
  by_cases h : 0 ≤ i
  · rw [ev_atIp l i h, if_pos h, List.getElem?_eq_getElem (by omega)]; rfl
  · rw [ev_atIm l i (by omega), if_neg h, if_pos hi.1, List.getElem?_eq_getElem (by omega)]; rfl
theorem atI_map [Inhabited α] (e : α → D) (l : List α) (i : Int) (hi : inR l i) : atI (l.map e) i = some (e (atZ l i)) := by
  have h2 : atI (l.map e) i = (atI l i).map e := by
    unfold atI ixN
    simp only [List.length_map]
    split
    · split <;> simp
    · split <;> simp
  rw [h2, atI_at l i hi]; rfl
theorem o_ixL [Inhabited α] (e : α → D) (l : List α) (i : Int) (hi : inR l i) (h : Hh) : ixA (eL e l) (.int i) h = some (e (atZ l i)) := by
  show ixA (.lst (l.map e)) (.int i) h = _
  rw [ev_ixL]; exact atI_map e l i hi
theorem o_ixO [Inhabited α] (e : α → D) (l : List α) (i : Int) (hi : inR l i) (h : Hh) (p : Nat) (hp : h[p]? = some (oL e l)) : ixA (.ref p) (.int i) h = some (e (atZ l i)) := by
  rw [ev_ixR, hp]
  exact atI_map e l i hi
theorem o_lenO (e : α → D) (l : List α) (h : Hh) (p : Nat) (hp : h[p]? = some (oL e l)) : lenO [.ref p] h = some (.int l.length) := by
  rw [ev_lenR, hp]
  show some (D.int ((l.map e).length : Nat)) = _
  rw [List.length_map]
theorem o_lenD (d : Deed) (h : Hh) : lenO [eDd d] h = some (.int d.size) := by cases d <;> rfl
theorem o_isN {e : α → D} [NN e] (x : Option α) (h : Hh) : isNO false (eO e x) .non h = some (.bl x.isNone) := by
  cases x with
  | none => rfl
  | some a => exact NN.nn a h false
theorem o_notN {e : α → D} [NN e] (x : Option α) (h : Hh) : isNO true (eO e x) .non h = some (.bl x.isSome) := by
  cases x with
  | none => rfl
  | some a => exact NN.nn a h true
theorem o_mod (i j : Int) (hj : 0 < j) (h : Hh) : modO (.int i) (.int j) h = some (.int (i % j)) := if_pos hj
theorem o_dw (d : Deed) (h : Hh) : ixA (eDd d) (.int 0) h = some (eW d.word) := by cases d <;> rfl
theorem o_dg (d : Deed) (hd : d.isTick = false) (h : Hh) : ixA (eDd d) (.int 1) h = some (.int d.guest) := by cases d <;> first | rfl | cases hd
theorem o_dl (d : Deed) (hd : d.isAsk = true) (h : Hh) : ixA (eDd d) (.int 2) h = some (eO D.int d.left) := by cases d <;> first | rfl | cases hd

def sAll : List Nat → List D → SEnv → SEnv
  | i :: is, d :: ds, s => sAll is ds (s.set i (some (.v d)))
  | _, _, s => s
theorem sat_all {F : Fr} : ∀ (is : List Nat) (ds : List D) (s : SEnv) (env : DEnv) (h : Hh), Sat F s env h → Sat F (sAll is ds s) (setAll is ds env) h
  | [], _, _, _, _, S => S
  | _ :: _, [], _, _, _, S => S
  | i :: is, d :: ds, s, env, h, S => sat_all is ds _ _ h (S.setV i d)
theorem qb_name {s : SEnv} {d : D} (i : Nat) : QB (.name i) d s (s.set i (some (.v d))) := fun F env h S => ⟨_, rfl, S.setV i d⟩
theorem qb_tup {s : SEnv} {ds : List D} (is : List Nat) (hl : ds.length = is.length := by rfl) : QB (.tup is) (.tup ds) s (sAll is ds s) := fun F env h S => ⟨_, if_pos hl, sat_all is ds s env h S⟩
theorem qb_wtp {s : SEnv} {ds : List D} (is : List Nat) (hl : ds.length = is.length := by rfl) : QB (.tup is) (.wtp ds) s (sAll is ds s) := fun F env h S => ⟨_, if_pos hl, sat_all is ds s env h S⟩
variable {F : Fr} {s s1 s2 : SEnv} {A B : ME} {i : Nat}
theorem qi_S {e : α → D} {l : List α} (hA : QX F s A (eS e l) s1) : QI F s (iOf A) (l.map e) s1 := fun env h S => by
  obtain ⟨h1, e1, S1⟩ := hA env h S
  exact ⟨h1, by unfold iOf; rw [e1, bind_ok]; rfl, S1⟩
/-- range -/
def rngT (lo hi : Int) : List Int := (List.range (hi - lo).toNat).map fun i : Nat => lo + (i : Int)
theorem rng_map (lo hi : Int) : rangeD lo hi = (rngT lo hi).map D.int := by unfold rangeD rngT; rw [List.map_map]; rfl
def wipeS (s : SEnv) : List Nat → SEnv
  | [] => s
  | v :: vs => (wipeS s vs).set v none
theorem sat_wipe {env : DEnv} {h : Hh} (S : Sat F s env h) : ∀ vs : List Nat, Sat F (wipeS s vs) (wipeE env vs) h
  | [] => S
  | v :: vs => (sat_wipe S vs).setN v
theorem wipe_ne {j : Nat} : ∀ {vs : List Nat}, j ∉ vs → (wipeS s vs)[j]? = s[j]?
  | [], _ => rfl
  | v :: vs, h => by
    rw [wipeS, List.getElem?_set_ne (fun e => h (by rw [← e]; exact List.mem_cons_self)), wipe_ne fun e => h (List.mem_cons_of_mem _ e)]
theorem wipeE_ne {env : DEnv} {j : Nat} : ∀ {vs : List Nat}, j ∉ vs → (wipeE env vs)[j]? = env[j]?
  | [], _ => rfl
  | v :: vs, h => by
    rw [wipeE, List.getElem?_set_ne (fun e => h (by rw [← e]; exact List.mem_cons_self)), wipeE_ne fun e => h (List.mem_cons_of_mem _ e)]
theorem setAll_ne {ds : List D} {env : DEnv} {j : Nat} {is : List Nat} (h : j ∉ is) : (setAll is ds env)[j]? = env[j]? := by
  induction is generalizing ds env with
  | nil => rfl
  | cons i is ih =>
    cases ds with
    | nil => rfl
    | cons d ds =>
      show (setAll is ds (env.set i (some d)))[j]? = _
      rw [ih fun e => h (List.mem_cons_of_mem _ e), List.getElem?_set_ne (fun e => h (by rw [← e]; exact List.mem_cons_self))]
theorem bindT_ne {T : Tg} {d : D} {env env' : DEnv} {j : Nat} (e : bindT T d env = some env') (h : j ∉ T.slots) : env'[j]? = env[j]? := by
  cases T with
  | name i =>
    cases e
    exact List.getElem?_set_ne fun e => h (by rw [← e]; exact List.mem_cons_self)
  | tup is =>
    unfold bindT at e
    cases d with
    | tup ds =>
      simp only at e
      split at e
      · cases e; exact setAll_ne h
      · cases e
    | wtp ds =>
      simp only at e
      split at e
      · cases e; exact setAll_ne h
      · cases e
    | non => cases e
    | bl b => cases e
    | int i => cases e
    | str x => cases e
    | lst xs => cases e
    | ref i => cases e
    | glb u => cases e
    | scr u => cases e
    | dct u w => cases e
/-- a list that is made -/
def QL (F : Fr) (s : SEnv) (m : MA) (e : α → D) (l : List α) (s' : SEnv) : Prop := ∀ env h, Sat F s env h → ∃ h', m env h = .ok (l.map e) h' ∧ Sat F s' env h'
theorem ql_frz {e : α → D} {l : List α} {m : MA} (hA : QL F s m e l s1) : QX F s (eFrz m) (eL e l) s1 := q_frz (ds := l.map e) hA
theorem ql_nil {e : α → D} : QL F s aNil e [] s := qa_nil
theorem ql_cons {e : α → D} {x : α} {l : List α} {m : MA} (hA : QX F s A (e x) s1) (hB : QL F s1 m e l s2) : QL F s (aCons A m) e (x :: l) s2 := qa_cons (ds := l.map e) hA hB
/-- names bound -/
def bS (T : Tg) (d : D) (s : SEnv) : SEnv := match T with
  | .name i => s.set i (some (.v d))
  | .tup is => match d with
    | .tup ds => sAll is ds s
    | .wtp ds => sAll is ds s
    | _ => s
def Bd (T : Tg) (d : D) : Prop := match T with
  | .name _ => True
  | .tup is => match d with
    | .tup ds => ds.length = is.length
    | .wtp ds => ds.length = is.length
    | _ => False
theorem bd_of {T : Tg} {d : D} (b : Bd T d) {s : SEnv} : QB T d s (bS T d s) := by
  cases T with
  | name i => exact qb_name i
  | tup is =>
    cases d with
    | tup ds => exact qb_tup is b
    | wtp ds => exact qb_wtp is b
    | non => exact b.elim
    | bl b' => exact b.elim
    | int i => exact b.elim
    | str x => exact b.elim
    | lst xs => exact b.elim
    | ref i => exact b.elim
    | glb u => exact b.elim
    | scr u => exact b.elim
    | dct u w => exact b.elim
theorem sAll_ne {is : List Nat} : ∀ {ds : List D} {s : SEnv} {j : Nat}, j ∉ is → (sAll is ds s)[j]? = s[j]? := by
  induction is with
  | nil => intro ds s j h; rfl
  | cons i is ih =>
    intro ds s j h
    cases ds with
    | nil => rfl
    | cons d ds =>
      show (sAll is ds (s.set i (some (Sl.v d))))[j]? = _
      rw [ih fun e => h (List.mem_cons_of_mem _ e), List.getElem?_set_ne (fun e => h (by rw [← e]; exact List.mem_cons_self))]
theorem bS_ne {T : Tg} {d : D} {s : SEnv} {j : Nat} (h : j ∉ T.slots) : (bS T d s)[j]? = s[j]? := by
  cases T with
  | name i => exact List.getElem?_set_ne fun e => h (by rw [← e]; exact List.mem_cons_self)
  | tup is =>
    cases d with
    | tup ds => exact sAll_ne h
    | wtp ds => exact sAll_ne h
    | _ => rfl
/-- no things of the def's own at these places -/
def isC (s : SEnv) (i : Nat) : Bool := match s[i]? with
  | some (some (.own _)) => true
  | some (some (.bor _ _)) => true
  | some (some (.hid _ _)) => true
  | _ => false
def noC (s : SEnv) (vs : List Nat) : Bool := vs.all fun i => !isC s i
theorem noC_of {s : SEnv} {vs : List Nat} (h : noC s vs = true) {j : Nat} {c : Sl} (e : s[j]? = some (some c)) (n : ∀ d, c ≠ Sl.v d) : j ∉ vs := fun m => by
  have h1 := List.all_eq_true.mp h j m
  unfold isC at h1
  rw [e] at h1
  cases c with
  | v d => exact n d rfl
  | own o => cases h1
  | bor p o => cases h1
  | hid p o => cases h1
theorem comp_restore {env env1 : DEnv} {h h' : Hh} {vs : List Nat} {T : Tg} {d : D} (S : Sat F s env h) (hT : ∀ i ∈ T.slots, i ∈ vs) (hv : noC s vs = true) (eb : bindT T d (wipeE env vs) = some env1) (S1 : Sat F (bS T d (wipeS s vs)) env1 h') : Sat F s env h' :=
  S.back S1 rfl (fun _ _ e => e) fun j c e n => by
    have nj := noC_of hv e n
    exact ⟨by rw [bS_ne fun m => nj (hT j m), wipe_ne nj]; exact e, by rw [bindT_ne eb fun m => nj (hT j m), wipeE_ne nj]⟩
theorem compL_nil {g : Option (Nat × List D)} {T : Tg} {t : MT} {e : ME} {env : DEnv} {h : Hh} (hg : gOk g h) : compL g T t e env [] h = .ok [] h := by unfold compL; rw [if_pos hg]
theorem comp_run {e : β → D} {T : Tg} {vs : List Nat} {t : MT} {el : ME} {e2 : α → D} {p : β → Bool} {f : β → α} {g : Option (Nat × List D)} {env : DEnv} (hT : ∀ i ∈ T.slots, i ∈ vs) (hv : noC s vs = true) (hg : ∀ h, Sat F s env h → gOk g h) :
    ∀ (xs : List β), (∀ x ∈ xs, Bd T (e x)) → (∀ x ∈ xs, QT F (bS T (e x) (wipeS s vs)) t (p x) (bS T (e x) (wipeS s vs))) → (∀ x ∈ xs, p x = true → QX F (bS T (e x) (wipeS s vs)) el (e2 (f x)) (bS T (e x) (wipeS s vs))) →
    ∀ h, Sat F s env h → ∃ h', compL g T t el (wipeE env vs) (xs.map e) h = .ok (((xs.filter p).map f).map e2) h' ∧ Sat F s env h'
  | [], _, _, _, h, S => ⟨h, compL_nil (hg h S), S⟩
  | x :: xs, hb, ht, he, h, S => by
    obtain ⟨env1, eb, S1⟩ := bd_of (hb x List.mem_cons_self) F (wipeE env vs) h (sat_wipe S vs)
    obtain ⟨h1, e1, S2⟩ := ht x List.mem_cons_self env1 h S1
    have S2' := comp_restore S hT hv eb S2
    have next := comp_run (e := e) (e2 := e2) (f := f) hT hv hg xs (fun y m => hb y (List.mem_cons_of_mem _ m)) (fun y m => ht y (List.mem_cons_of_mem _ m)) (fun y m => he y (List.mem_cons_of_mem _ m))
    rw [List.map_cons]
    unfold compL
    rw [if_pos (hg h S), eb]
    show ∃ h', ((t env1 h).bind _) = _ ∧ _
    rw [e1, bind_ok]
    cases hp : p x with
    | true =>
      obtain ⟨h2, e3, S3⟩ := he x List.mem_cons_self hp env1 h1 S2
      have S3' := comp_restore S hT hv eb S3
      obtain ⟨h', e4, S4⟩ := next h2 S3'
      refine ⟨h', ?_, S4⟩
      show ((el env1 h1).bind _) = _
      rw [e3, bind_ok, e4, bind_ok, List.filter_cons, if_pos hp]; rfl
    | false =>
      obtain ⟨h', e4, S4⟩ := next h1 S2'
      refine ⟨h', ?_, S4⟩
      show compL g T t el (wipeE env vs) (xs.map e) h1 = _
      rw [e4, List.filter_cons, if_neg (by rw [hp]; decide)]
variable {e : β → D} {xs : List β} {T : Tg} {vs : List Nat} {t : MT} {el : ME} {e2 : α → D} {p : β → Bool} {f : β → α} {mi : MI}
theorem ql_comp (hi : QI F s mi (xs.map e) s1) (hT : ∀ i ∈ T.slots, i ∈ vs) (hv : noC s1 vs = true) (hb : ∀ x ∈ xs, Bd T (e x)) (ht : ∀ x ∈ xs, QT F (bS T (e x) (wipeS s1 vs)) t (p x) (bS T (e x) (wipeS s1 vs)))
    (he : ∀ x ∈ xs, p x = true → QX F (bS T (e x) (wipeS s1 vs)) el (e2 (f x)) (bS T (e x) (wipeS s1 vs))) : QL F s (aComp mi T t el vs) e2 ((xs.filter p).map f) s1 := fun env h S => by
  obtain ⟨h1, e1, S1⟩ := hi env h S
  obtain ⟨h2, e2', S2⟩ := comp_run (g := none) hT hv (fun _ _ => gOk_none) xs hb ht he h1 S1
  exact ⟨h2, by unfold aComp; rw [e1, bind_ok, e2']; rfl, S2⟩
end
end MR

namespace MR
open PySem PySem.Spec PyProof.Rows L2

section
variable {α β L : Type} {F : Fr} {s s0 : SEnv} {i : Nat}
end

inductive Ctl (S L R X : Type) where
  | nx (s : S)
  | rt (r : R)
  | bk (l : L)
  | ct (l : L)
  | er (x : X)
section
variable {S S' L R X α β : Type}
def Ctl.bind (c : Ctl S L R X) (f : S → Ctl S' L R X) : Ctl S' L R X := match c with
  | .nx s => f s
  | .rt r => .rt r
  | .bk l => .bk l
  | .ct l => .ct l
  | .er x => .er x
def Ctl.All (c : Ctl S L R X) (p : S → Prop) : Prop := match c with
  | .nx s => p s
  | _ => True
@[simp] theorem Ctl.bind_nx (s : S) (f : S → Ctl S' L R X) : (Ctl.nx s : Ctl S L R X).bind f = f s := rfl
@[simp] theorem Ctl.bind_rt (r : R) (f : S → Ctl S' L R X) : (Ctl.rt r : Ctl S L R X).bind f = .rt r := rfl
@[simp] theorem Ctl.bind_bk (r : L) (f : S → Ctl S' L R X) : (Ctl.bk r : Ctl S L R X).bind f = .bk r := rfl
@[simp] theorem Ctl.bind_ct (r : L) (f : S → Ctl S' L R X) : (Ctl.ct r : Ctl S L R X).bind f = .ct r := rfl
@[simp] theorem Ctl.bind_er (r : X) (f : S → Ctl S' L R X) : (Ctl.er r : Ctl S L R X).bind f = .er r := rfl
@[simp] theorem Ctl.bind_ite (p : Prop) [Decidable p] (a b : Ctl S L R X) (f : S → Ctl S' L R X) : (if p then a else b).bind f = if p then a.bind f else b.bind f := by split <;> rfl
@[simp] theorem Ctl.all_nx (s : S) (p : S → Prop) : (Ctl.nx s : Ctl S L R X).All p ↔ p s := Iff.rfl
@[simp] theorem Ctl.all_rt (r : R) (p : S → Prop) : (Ctl.rt r : Ctl S L R X).All p ↔ True := Iff.rfl
@[simp] theorem Ctl.all_bk (r : L) (p : S → Prop) : (Ctl.bk r : Ctl S L R X).All p ↔ True := Iff.rfl
@[simp] theorem Ctl.all_ct (r : L) (p : S → Prop) : (Ctl.ct r : Ctl S L R X).All p ↔ True := Iff.rfl
@[simp] theorem Ctl.all_er (r : X) (p : S → Prop) : (Ctl.er r : Ctl S L R X).All p ↔ True := Iff.rfl
@[simp] theorem Ctl.all_ite (c : Prop) [Decidable c] (a b : Ctl S L R X) (p : S → Prop) : (if c then a else b).All p ↔ (c → a.All p) ∧ (¬ c → b.All p) := by split <;> simp [*]
def letC (v : α) (f : α → β) : β := f v
@[simp] theorem letC_eq (v : α) (f : α → β) : letC v f = f v := rfl
/-- what a def gives back -/
def Ctl.get [Inhabited R] (c : Ctl S L R X) : R := match c with
  | .rt r => r
  | _ => default
@[simp] theorem Ctl.get_rt [Inhabited R] (r : R) : (Ctl.rt r : Ctl S L R X).get = r := rfl
@[simp] theorem Ctl.get_ite [Inhabited R] (p : Prop) [Decidable p] (a b : Ctl S L R X) : (if p then a else b).get = if p then a.get else b.get := by split <;> rfl

open Classical in
end
structure Kf (L R X : Type) where
  F : Fr
  Z : R → D → Hh → Prop
  EX : X → Exn → Prop
  EL : L → SEnv
def Agree (F : Fr) (h : Hh) : Prop := F.h0.length ≤ h.length ∧ ∀ j, j < F.h0.length → j ∉ F.B → h[j]? = F.h0[j]?
theorem Sat.agree {F : Fr} {s : SEnv} {env : DEnv} {h : Hh} (S : Sat F s env h) : Agree F h := ⟨S.le, S.keep⟩
section
variable {S S' S1 S2 L R X α β : Type}
def OutOk (k : Kf L R X) (E : S → SEnv) : RS → Ctl S L R X → Prop
  | .nx env h, .nx x => Sat k.F (E x) env h
  | .rt d h, .rt r => k.Z r d h
  | .bk env h, .bk l => Sat k.F (k.EL l) env h
  | .ct env h, .ct l => Sat k.F (k.EL l) env h
  | .er x _ h, .er y => k.EX y x ∧ Agree k.F h
  | _, _ => False
def QS (k : Kf L R X) (s : SEnv) (m : MS) (E : S → SEnv) (c : Ctl S L R X) : Prop := ∀ env h, Sat k.F s env h → OutOk k E (m env h) c
variable {k : Kf L R X} {s s1 s2 : SEnv} {a b : MS} {E : S → SEnv} {E1 : S1 → SEnv} {E2 : S2 → SEnv} {c : Ctl S L R X}
/-- a name is set -/
theorem qs_let {i : Nat} {A : ME} {e : α → D} {v : α} {c2 : α → Ctl S L R X} {ok : α → Prop} (hA : QX k.F s A (e v) s1) (hok : ok v) (h2 : ∀ x, ok x → QS k (s1.set i (some (.v (e x)))) b E (c2 x)) : QS k s (sSeq (sAsg A (gName i)) b) E (letC v c2) := fun env h Sx => by
  obtain ⟨h1, e1, S1⟩ := hA env h Sx
  have := h2 v hok (env.set i (some (e v))) h1 (S1.setV i (e v))
  unfold sSeq sAsg
  rw [e1]
  exact this
/-- never goes on -/
def Nvr (m : MS) : Prop := ∀ env h env' h', m env h ≠ .nx env' h'
theorem nv_ret {A : ME} : Nvr (sRet A) := fun env h env' h' e => by
  unfold sRet at e
  cases q : A env h with
  | ok a h1 => rw [q] at e; cases e
  | err x h1 => rw [q] at e; cases e
  | stuck => rw [q] at e; cases e
/-- if ..: return; the rest behind it -/
theorem qs_ifr {t : MT} {r : MS} {p : Bool} {ca cb : Ctl S L R X} (ht : QT k.F s t p s1) (nv : Nvr a) (ha : p = true → QS k s1 a E ca) (hb : p = false → QS k s1 r E cb) : QS k s (sSeq (sIf t a sNext) r) E (if p = true then ca else cb) := fun env h Sx => by
  obtain ⟨h1, e1, S1⟩ := ht env h Sx
  unfold sSeq sIf
  rw [e1]
  cases p with
  | true =>
    show OutOk k E ((a env h1).seq r) ca
    have o := ha rfl env h1 S1
    cases e : a env h1 with
    | nx env' h' => exact absurd e (nv _ _ _ _)
    | rt d h' => rw [e] at o; exact o
    | bk d h' => rw [e] at o; exact o
    | ct d h' => rw [e] at o; exact o
    | er x d h' => rw [e] at o; exact o
    | stuck => rw [e] at o; exact o
  | false => exact hb rfl env h1 S1
/-- another form of what goes on -/
def Ctl.map (c : Ctl S L R X) (g : S → S') : Ctl S' L R X := c.bind fun x => .nx (g x)
def ZB {R T : Type} (F : Fr) (eR : R → D) (p : Nat) (oc : T → O) : R × T → D → Hh → Prop := fun r d h => d = eR r.1 ∧ Agree F h ∧ h[p]? = some (oc r.2)
theorem qs_retB {T : Type} {F : Fr} {EX : X → Exn → Prop} {EL : L → SEnv} {eR : R → D} {A : ME} {v : R} {p i : Nat} {oc : T → O} {l : T} (hA : QX F s A (eR v) s1) (hi : s1[i]? = some (some (Sl.bor p (oc l)))) : QS ⟨F, ZB F eR p oc, EX, EL⟩ s (sRet A) E (.rt (v, l)) := fun env h Sx => by
  obtain ⟨h1, e1, S1⟩ := hA env h Sx
  unfold sRet
  rw [e1]
  refine ⟨rfl, S1.agree, ?_⟩
  obtain ⟨q, a, b⟩ := S1.cell i (oc l) (.inr ⟨p, hi⟩)
  have := (S1.bor i p _ hi).1
  rw [a] at this
  cases this
  exact b
end

section
variable {R T : Type} {n : Nat} {N : List Str} {b : MS} {ds : List D} {h : Hh}
/-- what is known when a def begins -/
def begS (N : List Str) (ds : List D) : SEnv := ds.map (fun d => some (Sl.v d)) ++ List.replicate (N.length - ds.length) none
theorem beg_sat {F : Fr} (hN : ds.length ≤ N.length) (hF : F.h0 = h) : Sat F (begS N ds) (startD N ds) h := by
  have val : ∀ (i : Nat) (c : Sl), (begS N ds)[i]? = some (some c) → ∃ d, c = .v d ∧ (startD N ds)[i]? = some (some d) := fun i c e => by
    unfold begS at e
    unfold startD
    by_cases hi : i < ds.length
    · rw [List.getElem?_append_left (by simpa using hi), List.getElem?_map, List.getElem?_eq_getElem hi] at e ⊢
      cases e
      exact ⟨_, rfl, rfl⟩
    · rw [List.getElem?_append_right (by simpa using hi), List.getElem?_replicate] at e
      split at e <;> cases e
  have nc : ∀ (i : Nat) (o : O), ¬ Hs (begS N ds) i o := fun i o x => by
    rcases x with x | ⟨p, x⟩ <;> (obtain ⟨d, e, _⟩ := val i _ x; cases e)
  exact {
    len := by simp [begS, startD]
    le := by rw [hF]; exact Nat.le_refl _
    keep := fun j _ _ => by rw [hF]
    val := fun i d e => by obtain ⟨d', e1, e2⟩ := val i _ e; cases e1; exact e2
    cell := fun i o x => absurd x (nc i o)
    own := fun i o p x _ => absurd (.inl x) (nc i o)
    bor := fun i p o x => absurd (.inr ⟨p, x⟩) (nc i o)
    sep := fun i j o o' p _ x _ _ _ => nc i o x
    hid := fun i p o x => by obtain ⟨d, e, _⟩ := val i _ x; cases e
    hsep := fun i j p o o' _ x _ => by obtain ⟨d, e, _⟩ := val i _ x; cases e
    hcs := fun i j p o o' _ _ x => by obtain ⟨d, e, _⟩ := val j _ x; cases e }
theorem prefix_of {h h' : Hh} (h1 : h.length ≤ h'.length) (h2 : ∀ j, j < h.length → h'[j]? = h[j]?) : h' = h ++ h'.drop h.length := by
  have : h'.take h.length = h := by
    apply List.ext_getElem?
    intro j
    by_cases hj : j < h.length
    · rw [List.getElem?_take_of_lt hj]; exact h2 j hj
    · rw [List.getElem?_eq_none (by rw [List.length_take]; omega), List.getElem?_eq_none (by omega)]
  conv => lhs; rw [← List.take_append_drop h.length h', this]
/-- the first argument is a thing that may be changed -/
def begB (N : List Str) (p : Nat) (o : O) (ds : List D) : SEnv := some (Sl.bor p o) :: (ds.map (fun d => some (Sl.v d)) ++ List.replicate (N.length - (ds.length + 1)) none)
theorem begB_sat {F : Fr} {p : Nat} {o : O} (hN : ds.length + 1 ≤ N.length) (hF : F.h0 = h) (hB : p ∈ F.B) (hp : h[p]? = some o) : Sat F (begB N p o ds) (startD N (.ref p :: ds)) h := by
  have hl : p < h.length := (List.getElem?_eq_some_iff.mp hp).1
  have val : ∀ (i : Nat) (c : Sl), (begB N p o ds)[i]? = some (some c) → i = 0 ∧ c = .bor p o ∨ ∃ d, c = .v d ∧ (startD N (.ref p :: ds))[i]? = some (some d) := fun i c e => by
    cases i with
    | zero =>
      left
      have e : some (some (Sl.bor p o)) = some (some c) := e
      cases e
      exact ⟨rfl, rfl⟩
    | succ i =>
      right
      have e : (ds.map (fun d => some (Sl.v d)) ++ List.replicate (N.length - (ds.length + 1)) none)[i]? = some (some c) := e
      show ∃ d, c = .v d ∧ (ds.map some ++ List.replicate (N.length - (ds.length + 1)) none)[i]? = some (some d)
      by_cases hi : i < ds.length
      · rw [List.getElem?_append_left (by simpa using hi), List.getElem?_map, List.getElem?_eq_getElem hi] at e ⊢
        cases e
        exact ⟨_, rfl, rfl⟩
      · rw [List.getElem?_append_right (by simpa using hi), List.getElem?_replicate] at e
        split at e <;> cases e
  have nc : ∀ (i : Nat) (o' : O), Hs (begB N p o ds) i o' → i = 0 ∧ o' = o := fun i o' x => by
    rcases x with x | ⟨q, x⟩
    · rcases val i _ x with ⟨_, e⟩ | ⟨d, e, _⟩ <;> cases e
    · rcases val i _ x with ⟨h1, e⟩ | ⟨d, e, _⟩
      · cases e; exact ⟨h1, rfl⟩
      · cases e
  exact {
    len := by simp [begB, startD]
    le := by rw [hF]; exact Nat.le_refl _
    keep := fun j _ _ => by rw [hF]
    val := fun i d e => by
      rcases val i _ e with ⟨_, e1⟩ | ⟨d', e1, e2⟩
      · cases e1
      · cases e1; exact e2
    cell := fun i o' x => by
      obtain ⟨rfl, rfl⟩ := nc i o' x
      exact ⟨p, rfl, hp⟩
    own := fun i o' q x _ => by
      rcases val i _ x with ⟨_, e⟩ | ⟨d, e, _⟩ <;> cases e
    bor := fun i q o' x => by
      rcases val i _ x with ⟨h1, e⟩ | ⟨d, e, _⟩
      · cases e; subst h1; exact ⟨rfl, by rw [hF]; exact hl, hB⟩
      · cases e
    sep := fun i j o1 o2 q n x y _ _ => n ((nc i o1 x).1.trans (nc j o2 y).1.symm)
    hid := fun i q o' x => by rcases val i _ x with ⟨_, e⟩ | ⟨d, e, _⟩ <;> cases e
    hsep := fun i j q o' o'' _ x _ => by rcases val i _ x with ⟨_, e⟩ | ⟨d, e, _⟩ <;> cases e
    hcs := fun i j q o' o'' _ _ x => by rcases val j _ x with ⟨_, e⟩ | ⟨d, e, _⟩ <;> cases e }
theorem fn_bor {eR : R → D} {e : T → D} [NR eR] [NR e] [Inhabited R] [Inhabited T] {p : Nat} {l : List T} {c : Ctl Empty Empty (R × List T) Empty} (hp : h[p]? = some (oL e l)) (hq : QS (⟨⟨h, [p]⟩, ZB ⟨h, [p]⟩ eR p (oL e), fun x _ => x.elim, fun l => l.elim⟩ : Kf Empty (R × List T) Empty) (begB N p (oL e l) ds) b (fun x => x.elim) c) (hn : ds.length + 1 = n := by rfl) (hN : ds.length + 1 ≤ N.length := by decide) :
    dropF (runF n N b) (.ref p :: ds) h = .ok (eR c.get.1) (h.set p (oL e c.get.2)) := by
  have o := hq (startD N (.ref p :: ds)) h (begB_sat hN rfl (by simp) hp)
  have hl : p < h.length := (List.getElem?_eq_some_iff.mp hp).1
  cases c with
  | nx x => exact x.elim
  | bk x => exact x.elim
  | ct x => exact x.elim
  | er x => exact x.elim
  | rt r =>
    cases e1 : b (startD N (.ref p :: ds)) h with
    | rt d h' =>
      rw [e1] at o
      obtain ⟨e2, ⟨o1, o2⟩, o3⟩ := o
      have e3 : runF n N b (.ref p :: ds) h = .ok (eR r.1) h' := by
        rw [run_eq (ds := .ref p :: ds) hn, e1, ev_out_rt, e2]
      have e4 : h'.take h.length = h.set p (oL e r.2) := by
        apply List.ext_getElem?
        intro j
        by_cases hj : j < h.length
        · rw [List.getElem?_take_of_lt hj]
          by_cases hpj : p = j
          · subst hpj; rw [o3, List.getElem?_set_self hl]
          · rw [List.getElem?_set_ne hpj]; exact o2 j hj (by simpa using Ne.symm hpj)
        · rw [List.getElem?_eq_none (by rw [List.length_take]; omega), List.getElem?_eq_none (by rw [List.length_set]; omega)]
      show _ = Res.ok (eR r.1) (h.set p (oL e r.2))
      rw [← e4]
      refine dropF_of e3 (NR.nr _ _) o1 fun i ob hi e5 => ?_
      by_cases hpi : p = i
      · subst hpi
        rw [o3] at e5
        cases e5
        right
        show bels h.length (r.2.map e) = true
        exact bels_map _ _
      · left
        rw [← o2 i hi (by simpa using Ne.symm hpi)]; exact e5
    | nx d h' => rw [e1] at o; exact o.elim
    | bk d h' => rw [e1] at o; exact o.elim
    | ct d h' => rw [e1] at o; exact o.elim
    | er x d h' => rw [e1] at o; exact o.elim
    | stuck => rw [e1] at o; exact o.elim
end
end MR

namespace MR
open PySem PySem.Spec PyProof.Rows L2

mutual
/-- what was made stands still from now on -/
def frzD (n : Nat) (h : Hh) : D → Option D
  | .ref i => if i < n then some (D.ref i) else match h[i]? with
    | some (.lst xs) => if bels n xs = true then some (D.lst xs) else none
    | some (.dN kvs) => if (bels n (kvs.map (·.1)) && bels n (kvs.map (·.2))) = true then some (D.dct (kvs.map (·.1)) (kvs.map (·.2))) else none
    | _ => none
  | .tup ds => (frzDs n h ds).map D.tup
  | .wtp ds => (frzDs n h ds).map D.wtp
  | .lst ds => if bels n ds = true then some (D.lst ds) else none
  | .non => some .non
  | .bl b => some (.bl b)
  | .int b => some (.int b)
  | .str b => some (.str b)
  | .glb b => some (.glb b)
  | .scr b => some (.scr b)
  | .dct ks ds => if (bels n ks && bels n ds) = true then some (D.dct ks ds) else none
def frzDs (n : Nat) (h : Hh) : List D → Option (List D)
  | [] => some []
  | d :: ds => match frzD n h d, frzDs n h ds with
    | some x, some xs => some (x :: xs)
    | _, _ => none
end
mutual
theorem den_frz {G : Gm} {rho rho' : Rm} {H H' : Hp} {hh g : Hh} (R : Rep G rho hh H) (S : Step rho H rho' H') (R' : Rep G rho' (hh ++ g) H') : ∀ (d d' : D) (v : V), Den G rho' H' d v → frzD hh.length (hh ++ g) d = some d' → Den G rho H' d' v
  | .ref i, d', v, q, e => by
    rw [frzD] at e
    rw [Den] at q
    obtain ⟨a, e1, rfl⟩ := q
    obtain ⟨ex, ee, hex⟩ := S.ext
    split at e
    · rename_i hi
      cases e
      rw [Den]
      refine ⟨a, ?_, rfl⟩
      rw [ee, List.getElem?_append_left (by rw [R.len]; exact hi)] at e1
      exact e1
    · rename_i hi
      split at e
      · rename_i xs e2
        split at e
        · rename_i hb
          cases e
          obtain ⟨vs, e3, l, q⟩ := R'.ob i a _ e1 e2
          have hae : a ∈ ex := by
            rw [ee, List.getElem?_append_right (by rw [R.len]; omega)] at e1
            exact List.mem_of_getElem? e1
          have hn : H a = none := hex a hae
          rw [Den]
          refine ⟨a, vs, rfl, e3, fun hm => ?_, fun hm => ?_, l, ?_⟩
          · obtain ⟨u, e4, _⟩ := R.mut hm
            rw [hn] at e4; cases e4
          · obtain ⟨u, e4⟩ := R.hd a hm
            rw [hn] at e4; cases e4
          · exact Dens.res ⟨ex, ee⟩ (fun a _ n m => n (S.kept a m)) xs vs q (by rw [R.len]; exact hb)
        · cases e
      · rename_i kvs e2
        split at e
        · rename_i hb
          cases e
          rw [Bool.and_eq_true] at hb
          obtain ⟨xs, l0, l1, es, e3, q, k3, k4, k5⟩ := R'.ob i a _ e1 e2
          have hae : a ∈ ex := by
            rw [ee, List.getElem?_append_right (by rw [R.len]; omega)] at e1
            exact List.mem_of_getElem? e1
          have hn : H a = none := hex a hae
          obtain ⟨us, k1, k2, d1, d2⟩ := dn_split q
          rw [Den]
          refine ⟨a, xs, es, us, rfl, e3, fun hm => ?_, fun hm => ?_, l0, l1, k1, k2, k3, k4, k5, ?_, ?_⟩
          · obtain ⟨u, e4, _⟩ := R.mut hm
            rw [hn] at e4; cases e4
          · obtain ⟨u, e4⟩ := R.hd a hm
            rw [hn] at e4; cases e4
          · exact Dens.res ⟨ex, ee⟩ (fun a _ n m => n (S.kept a m)) _ _ d1 (by rw [R.len]; exact hb.1)
          · exact Dens.res ⟨ex, ee⟩ (fun a _ n m => n (S.kept a m)) _ us d2 (by rw [R.len]; exact hb.2)
        · cases e
      · cases e
  | .tup ds, d', v, q, e => by
    rw [frzD] at e
    obtain ⟨ds', e1, rfl⟩ := Option.map_eq_some_iff.mp e
    rw [Den] at q ⊢
    obtain ⟨a, vs, e2, q1, l, q2⟩ := q
    exact ⟨a, vs, e2, q1, l, dens_frz R S R' ds ds' vs q2 e1⟩
  | .wtp ds, d', v, q, e => by
    rw [frzD] at e
    obtain ⟨ds', e1, rfl⟩ := Option.map_eq_some_iff.mp e
    rw [Den] at q ⊢
    obtain ⟨a, vs, e2, q1, l, q2⟩ := q
    exact ⟨a, vs, e2, q1, l, dens_frz R S R' ds ds' vs q2 e1⟩
  | .lst ds, d', v, q, e => by
    rw [frzD] at e
    split at e
    · rename_i hb
      cases e
      obtain ⟨ex, ee, hex⟩ := S.ext
      exact Den.res ⟨ex, ee⟩ (fun a _ n m => n (S.kept a m)) _ v q (by rw [MR.bel, R.len]; exact hb)
    · cases e
  | .non, d', v, q, e => by rw [frzD] at e; cases e; exact q
  | .bl _, d', v, q, e => by rw [frzD] at e; cases e; exact q
  | .int _, d', v, q, e => by rw [frzD] at e; cases e; exact q
  | .str _, d', v, q, e => by rw [frzD] at e; cases e; exact q
  | .glb _, d', v, q, e => by rw [frzD] at e; cases e; exact q
  | .scr _, d', v, q, e => by rw [frzD] at e; cases e; rw [Den] at q ⊢; exact q
  | .dct ks ds, d', v, q, e => by
    rw [frzD] at e
    split at e
    · rename_i hb
      cases e
      obtain ⟨ex, ee, hex⟩ := S.ext
      exact Den.res ⟨ex, ee⟩ (fun a _ n m => n (S.kept a m)) _ v q (by rw [MR.bel, R.len]; exact hb)
    · cases e
theorem dens_frz {G : Gm} {rho rho' : Rm} {H H' : Hp} {hh g : Hh} (R : Rep G rho hh H) (S : Step rho H rho' H') (R' : Rep G rho' (hh ++ g) H') : ∀ (ds ds' : List D) (vs : List V), Dens G rho' H' ds vs → frzDs hh.length (hh ++ g) ds = some ds' → Dens G rho H' ds' vs
  | [], ds', vs, q, e => by rw [frzDs] at e; cases e; exact q
  | d :: ds, ds', vs, q, e => by
    rw [frzDs] at e
    rw [Dens] at q
    obtain ⟨v, r, rfl, q1, q2⟩ := q
    cases e1 : frzD hh.length (hh ++ g) d with
    | none => rw [e1] at e; cases e
    | some x =>
      cases e2 : frzDs hh.length (hh ++ g) ds with
      | none => rw [e1, e2] at e; cases e
      | some xs =>
        rw [e1, e2] at e
        cases e
        rw [Dens]
        exact ⟨v, r, rfl, den_frz R S R' d x v q1 e1, dens_frz R S R' ds xs r q2 e2⟩
end
/-- what a def has made for itself is forgotten, what it hands back stands still -/
noncomputable def frzF (F : MF) : MF := fun ds h => match F ds h with
  | .ok d h' => open Classical in if ∃ g, h' = h ++ g then (match frzD h.length h' d with | some d' => .ok d' h | none => .stuck) else .stuck
  | .err x h' => .err x h'
  | .stuck => .stuck
theorem frzF_of {F : MF} {ds : List D} {h g : Hh} {d d' : D} (e : F ds h = .ok d (h ++ g)) (b : frzD h.length (h ++ g) d = some d') : frzF F ds h = .ok d' h := by
  unfold frzF
  rw [e]
  show (open Classical in if ∃ g', h ++ g = h ++ g' then (match frzD h.length (h ++ g) d with | some d' => Res.ok d' h | none => .stuck) else .stuck) = _
  rw [if_pos ⟨g, rfl⟩, b]
theorem FnD.frz {P : Program} {w : World} {K : PySem.W.Frag} {mg : Str → Option Value} {base : Heap} {k : Nat} {f : Addr} {fd : FuncData} {ps : List Str} {F : MF} (h : FnD P w K mg base k f fd ps F) : FnD P w K mg base k f fd ps (frzF F) :=
  FnOk.imp h fun vs H Q E ⟨hl, rho, hh, ds, R, q, p⟩ => ⟨hl, rho, hh, ds, R, q, by
    unfold frzF at p
    cases e : F ds hh with
    | ok d hh' =>
      rw [e] at p
      simp only at p
      split at p
      · rename_i hc
        obtain ⟨g, rfl⟩ := hc
        cases e2 : frzD hh.length (hh ++ g) d with
        | none => rw [e2] at p; exact p.elim
        | some d' =>
          rw [e2] at p
          intro rho' H' v S R' q'
          obtain ⟨ex, ee, hex⟩ := S.ext
          have h2 : ∀ a, a ∉ rho'.at_ → a ∉ rho'.res → a ∉ rho.res := fun a _ n m => n (S.kept a m)
          exact p rho H' v S.drop (R.drop S ⟨ex, ee⟩ h2 R') (den_frz R S R' d d' v q' e2)
      · exact p.elim
    | err x hh' => rw [e] at p; exact p
    | stuck => rw [e] at p; exact p⟩
mutual
theorem frz_bel (n : Nat) (h : Hh) : ∀ d : D, bel 0 d = true → frzD n h d = some d
  | .ref i, e => by rw [bel] at e; simp at e
  | .tup ds, e => by rw [bel] at e; rw [frzD, frzs_bel n h ds e]; rfl
  | .wtp ds, e => by rw [bel] at e; rw [frzD, frzs_bel n h ds e]; rfl
  | .lst ds, e => by rw [bel] at e; rw [frzD, if_pos (bels_up ds e)]
  | .non, _ => rfl
  | .bl _, _ => rfl
  | .int _, _ => rfl
  | .str _, _ => rfl
  | .glb _, _ => rfl
  | .scr _, _ => rfl
  | .dct ks ds, e => by
    rw [bel, Bool.and_eq_true] at e
    rw [frzD, bels_up ks e.1, bels_up ds e.2]; rfl
theorem frzs_bel (n : Nat) (h : Hh) : ∀ ds : List D, bels 0 ds = true → frzDs n h ds = some ds
  | [], _ => rfl
  | d :: ds, e => by
    rw [bels, Bool.and_eq_true] at e
    rw [frzDs, frz_bel n h d e.1, frzs_bel n h ds e.2]
theorem bel_up {n : Nat} : ∀ d : D, bel 0 d = true → bel n d = true
  | .ref i, e => by rw [bel] at e; simp at e
  | .tup ds, e => by rw [bel] at e ⊢; exact bels_up ds e
  | .wtp ds, e => by rw [bel] at e ⊢; exact bels_up ds e
  | .lst ds, e => by rw [bel] at e ⊢; exact bels_up ds e
  | .non, _ => rfl
  | .bl _, _ => rfl
  | .int _, _ => rfl
  | .str _, _ => rfl
  | .glb _, _ => rfl
  | .scr _, _ => rfl
  | .dct ks ds, e => by
    rw [bel, Bool.and_eq_true] at e
    rw [bel, bels_up ks e.1, bels_up ds e.2]; rfl
theorem bels_up {n : Nat} : ∀ ds : List D, bels 0 ds = true → bels n ds = true
  | [], _ => rfl
  | d :: ds, e => by
    rw [bels, Bool.and_eq_true] at e ⊢
    exact ⟨bel_up d e.1, bels_up ds e.2⟩
end
instance : NR D.scr := ⟨fun _ _ => rfl⟩
theorem frz_e {α : Type} {e : α → D} [NR e] (n : Nat) (h : Hh) (x : α) : frzD n h (e x) = some (e x) := frz_bel n h _ (NR.nr x 0)

/-- a part of what is handed back: a value, or the thing in a slot -/
inductive Cp where
  | val (x : D)
  | slot (i : Nat)
def Cp.res (env : DEnv) : Cp → D
  | .val x => x
  | .slot i => (env[i]?.join).getD D.non
def ZF {R : Type} (F : Fr) (eR : R → D) : R → D → Hh → Prop := fun r d h => frzD F.h0.length h d = some (eR r) ∧ Agree F h
section
variable {S S' S1 S2 L R X α β γ δ : Type} {F : Fr} {s s1 s2 : SEnv} {A B : ME} {i : Nat} {E : S → SEnv} {EX : X → Exn → Prop} {EL : L → SEnv} {eR : R → D}
inductive Fzs (s : SEnv) : List Cp → List D → Prop where
  | nil : Fzs s [] []
  | v {α : Type} {e : α → D} {x : α} {cs ds} (nr : NR e := by infer_instance) : Fzs s cs ds → Fzs s (.val (e x) :: cs) (e x :: ds)
  | o {α : Type} {e : α → D} {l : List α} {i : Nat} {cs ds} (nr : NR e := by infer_instance) : s[i]? = some (some (Sl.own (oL e l))) → Fzs s cs ds → Fzs s (.slot i :: cs) (eL e l :: ds)
theorem qs_retF {v : R} [NR eR] (hA : QX F s A (eR v) s1) : QS (⟨F, ZF F eR, EX, EL⟩ : Kf L R X) s (sRet A) E (.rt v) := fun env h Sx => by
  obtain ⟨h1, e1, S1⟩ := hA env h Sx
  unfold sRet
  rw [e1]
  exact ⟨frz_e _ _ _, S1.agree⟩
theorem fn_frz {n : Nat} {N : List Str} {b : MS} {ds : List D} {h : Hh} [Inhabited R] {c : Ctl Empty Empty R Empty} (hq : QS (⟨⟨h, []⟩, ZF ⟨h, []⟩ eR, fun x _ => x.elim, fun l => l.elim⟩ : Kf Empty R Empty) (begS N ds) b (fun x => x.elim) c) (hn : ds.length = n := by rfl) (hN : ds.length ≤ N.length := by decide) : frzF (runF n N b) ds h = .ok (eR c.get) h := by
  have o := hq (startD N ds) h (beg_sat hN rfl)
  cases c with
  | nx x => exact x.elim
  | bk x => exact x.elim
  | ct x => exact x.elim
  | er x => exact x.elim
  | rt r =>
    cases e : b (startD N ds) h with
    | rt d h' =>
      rw [e] at o
      obtain ⟨o0, o1, o2⟩ := o
      have e0 := prefix_of o1 fun j hj => o2 j hj (by simp)
      have e1 : runF n N b ds h = .ok d (h ++ h'.drop h.length) := by
        rw [run_eq hn, e, ev_out_rt, ← e0]
      refine frzF_of e1 ?_
      rw [← e0]
      exact o0
    | nx d h' => rw [e] at o; exact o.elim
    | bk d h' => rw [e] at o; exact o.elim
    | ct d h' => rw [e] at o; exact o.elim
    | er x d h' => rw [e] at o; exact o.elim
    | stuck => rw [e] at o; exact o.elim

theorem q_some {e : α → D} {v : α} {m : ME} (h : QX F s m (e v) s1) : QX F s m (eO e (some v)) s1 := h
theorem q_none {e : α → D} : QX F s (eC .non) (eO e none) s := q_c
theorem q_unopt [Inhabited α] {e : α → D} {v : Option α} {m : ME} (hs : v.isSome = true) (h : QX F s m (eO e v) s1) : QX F s m (e (v.getD default)) s1 := by
  cases v with
  | none => cases hs
  | some x => exact h
variable {ea : α → D} {eb : β → D} {ec : γ → D} {ed : δ → D} {a : α} {b : β} {c : γ} {d : δ} {C D' : ME} {s3 s4 : SEnv}
theorem q_dask {w : Wd} {g : Int} {l : Option Int} (hA : QX F s A (eW w) s1) (hB : QX F s1 B (.int g) s2) (hC : QX F s2 C (eO D.int l) s3) : QX F s (eTup (aCons A (aCons B (aCons C aNil)))) (eDd (.ask w g l)) s3 := q_tup (qa_cons hA (qa_cons hB (qa_cons hC qa_nil)))
theorem q_dmov {w : Wd} {g : Int} (hA : QX F s A (eW w) s1) (hB : QX F s1 B (.int g) s2) : QX F s (eTup (aCons A (aCons B aNil))) (eDd (.mov w g)) s2 := q_tup (qa_cons hA (qa_cons hB qa_nil))
theorem q_dtick (hA : QX F s A (eW .tick) s1) : QX F s (eTup (aCons A aNil)) (eDd .tick) s1 := q_tup (qa_cons hA qa_nil)
def foldV (f : α → S → S) (xs : List α) (s : S) : S := xs.foldl (fun s x => f x s) s
@[simp] theorem foldV_nil (f : α → S → S) (s : S) : foldV f [] s = s := rfl
@[simp] theorem foldV_cons (f : α → S → S) (x : α) (xs : List α) (s : S) : foldV f (x :: xs) s = foldV f xs (f x s) := rfl
end
end MR

namespace MR
open PySem PySem.Spec PyProof.Rows L2

section
variable {S S' S1 S2 L R X α β γ δ ρ : Type} {F : Fr} {s s1 s2 : SEnv} {A B : ME} {i j : Nat} {E : S → SEnv} {k : Kf L R X} {b : MS}
/-- a call that changes the thing handed in first -/
theorem q_callB2 {G : MF} {ms : MA} {ds : List D} {o o0 o' : O} {d : D} (h0 : Hs s i o0) (hB : QA F s ms ds s1) (hx : Hs s1 i o) (ho : ∀ h p, h[p]? = some o → G (.ref p :: ds) h = .ok d (h.set p o')) : QX F s (eCall G (aCons (eSlot i) ms)) d (chS s1 i o') := fun env h S => by
  obtain ⟨p0, e0, _⟩ := S.cell i o0 h0
  obtain ⟨h1, e1, S1⟩ := hB env h S
  obtain ⟨p, e2, e3⟩ := S1.cell i o hx
  rw [e0] at e2
  cases e2
  refine ⟨h1.set p0 o', ?_, S1.change hx e0 o'⟩
  unfold eCall aCons eSlot
  rw [e0]
  show (((ms env h).bind fun xs h2 => Res.ok (D.ref p0 :: xs) h2).bind fun ds h1 => G ds h1) = _
  rw [e1, bind_ok, bind_ok, ho h1 p0 e3]
/-- a name is set, a thing is changed -/
theorem qs_letX {r : ρ} {ed : ρ → D} {Ev : ρ → SEnv} {c2 : ρ → Ctl S L R X} {ok : ρ → Prop} (hA : QX k.F s A (ed r) (Ev r)) (hok : ok r) (h2 : ∀ r, ok r → QS k ((Ev r).set i (some (.v (ed r)))) b E (c2 r)) : QS k s (sSeq (sAsg A (gName i)) b) E (letC r c2) := fun env h Sx => by
  obtain ⟨h1, e1, S1⟩ := hA env h Sx
  have := h2 r hok (env.set i (some (ed r))) h1 (S1.setV i (ed r))
  unfold sSeq sAsg
  rw [e1]
  exact this
end
end MR

namespace MR
open PySem PySem.Spec PyProof.Rows L2

section
variable {S S' S1 S2 L R X α β γ δ ρ : Type}
def mapD (e : α → D) (l : List (Wd × α)) : List (Key × D) := l.map fun p => (.inr p.1.val, e p.2)
def oD (e : α → D) (l : List (Wd × α)) : O := .dK (mapD e l)
theorem key_eq (a b : Wd) : ((Sum.inr a.val : Key) = Sum.inr b.val) ↔ a = b := ⟨fun h => Wd.val_inj (Sum.inr.inj h), fun h => by rw [h]⟩
theorem put_map (e : α → D) (l : List (Wd × α)) (k : Wd) (v : α) : putG (mapD e l) (.inr k.val) (e v) = mapD e (putG l k v) := by
  unfold putG mapD
  have h1 : ((l.map fun p : Wd × α => ((Sum.inr p.1.val : Key), e p.2)).any fun kv => decide (kv.1 = Sum.inr k.val)) = l.any fun kv => decide (kv.1 = k) := by
    rw [List.any_map]
    congr 1
    funext p
    show decide ((Sum.inr p.1.val : Key) = Sum.inr k.val) = decide (p.1 = k)
    by_cases h : p.1 = k
    · rw [decide_eq_true h, decide_eq_true ((key_eq _ _).mpr h)]
    · rw [decide_eq_false h, decide_eq_false fun z => h ((key_eq _ _).mp z)]
  rw [h1]
  split
  · rw [List.map_map, List.map_map]
    congr 1
    funext p
    show (if (Sum.inr p.1.val : Key) = Sum.inr k.val then ((Sum.inr p.1.val : Key), e v) else (Sum.inr p.1.val, e p.2)) = ((Sum.inr (if p.1 = k then (p.1, v) else p).1.val : Key), e (if p.1 = k then (p.1, v) else p).2)
    by_cases h : p.1 = k
    · rw [if_pos h, if_pos ((key_eq _ _).mpr h)]
    · rw [if_neg h, if_neg fun z => h ((key_eq _ _).mp z)]
  · rw [List.map_append]; rfl
theorem merge_map (e : α → D) : ∀ (m l : List (Wd × α)), mergeG (mapD e l) (mapD e m) = mapD e (mergeG l m)
  | [], l => rfl
  | p :: m, l => by
    show mergeG (putG (mapD e l) (.inr p.1.val) (e p.2)) (mapD e m) = mapD e (mergeG (putG l p.1 p.2) m)
    rw [put_map, merge_map e m]
theorem get_map (e : α → D) (k : Wd) : ∀ l : List (Wd × α), getG (mapD e l) (.inr k.val) = (getG l k).map e
  | [] => rfl
  | p :: l => by
    have ih := get_map e k l
    unfold getG mapD at ih ⊢
    rw [List.map_cons, List.find?_cons, List.find?_cons]
    by_cases h : p.1 = k
    · rw [show decide ((Sum.inr p.1.val : Key) = Sum.inr k.val) = true from decide_eq_true ((key_eq _ _).mpr h), show decide (p.1 = k) = true from decide_eq_true h]; rfl
    · rw [show decide ((Sum.inr p.1.val : Key) = Sum.inr k.val) = false from decide_eq_false fun z => h ((key_eq _ _).mp z), show decide (p.1 = k) = false from decide_eq_false h]; exact ih
variable {F : Fr} {s s1 s2 : SEnv} {A B : ME} {i : Nat} {E : S → SEnv} {k : Kf L R X} {b : MS}
/-- what a dict is written with -/
def QP (F : Fr) (s : SEnv) (m : List (ME × ME)) (e : α → D) (l : List (Wd × α)) : Prop := ∀ env h, Sat F s env h → ∃ h', aPairs m env h = .ok (l.map fun p => (eW p.1, e p.2)) h' ∧ Sat F s env h'
theorem qp_nil {e : α → D} : QP F s [] e [] := fun env h S => ⟨h, rfl, S⟩
theorem qp_cons {e : α → D} {w : Wd} {v : α} {m : List (ME × ME)} {l : List (Wd × α)} (hA : QX F s A (eW w) s) (hB : QX F s B (e v) s) (hm : QP F s m e l) : QP F s ((A, B) :: m) e ((w, v) :: l) := fun env h S => by
  obtain ⟨h1, e1, S1⟩ := hA env h S
  obtain ⟨h2, e2, S2⟩ := hB env h1 S1
  obtain ⟨h3, e3, S3⟩ := hm env h2 S2
  exact ⟨h3, by unfold aPairs; rw [e1, bind_ok, e2, bind_ok, e3, bind_ok]; rfl, S3⟩
theorem keyDs_map (e : α → D) : ∀ l : List (Wd × α), keyDs (l.map fun p => (eW p.1, e p.2)) = some (mapD e l)
  | [] => rfl
  | p :: l => by
    rw [List.map_cons, keyDs, keyDs_map e l]; rfl
theorem disp_run {e : α → D} {m : List (ME × ME)} {l : List (Wd × α)} (hm : QP F s m e l) (hl : l.length ≤ 15) : ∀ env h, Sat F s env h → ∃ h', eDisp m env h = .ok (.ref h'.length) (h' ++ [oD e (mergeG [] l)]) ∧ Sat F s env h' := fun env h S => by
  obtain ⟨h1, e1, S1⟩ := hm env h S
  refine ⟨h1, ?_, S1⟩
  unfold eDisp
  rw [e1, bind_ok, keyDs_map]
  show (if (mapD e l).length ≤ 15 then Res.ok (D.ref h1.length) (h1 ++ [O.dK (mergeG [] (mapD e l))]) else .stuck) = _
  rw [if_pos (by unfold mapD; rw [List.length_map]; exact hl)]
  have := merge_map e l []
  rw [show mapD e [] = [] from rfl] at this
  rw [this]; rfl
theorem qs_newD {e : α → D} {m : List (ME × ME)} {l : List (Wd × α)} {c2 : List (Wd × α) → Ctl S L R X} {ok : List (Wd × α) → Prop} (hm : QP k.F s m e l) (hok : ok (mergeG [] l)) (h2 : ∀ x, ok x → QS k (s.set i (some (.own (oD e x)))) b E (c2 x)) (hl : l.length ≤ 15 := by decide) : QS k s (sSeq (sAsg (eDisp m) (gName i)) b) E (letC (mergeG [] l) c2) := fun env h Sx => by
  obtain ⟨h1, e1, S1⟩ := disp_run hm hl env h Sx
  have := h2 _ hok _ _ (S1.setO i (oD e (mergeG [] l)))
  unfold sSeq sAsg
  rw [e1]
  exact this
theorem dictOf_ref {h : Hh} {p : Nat} {kvs : List (Key × D)} (hp : h[p]? = some (.dK kvs)) : dictOf (.ref p) h = some kvs := by
  show (match h[p]? with | some (O.dK kvs) => some kvs | _ => none) = _
  rw [hp]
end
end MR

namespace MR
open PySem PySem.Spec PyProof.Rows L2
section
variable {S S' S1 S2 L R X α β γ δ ρ : Type} {k : Kf L R X} {s s1 s2 : SEnv} {a b : MS} {E : S → SEnv} {E1 : S1 → SEnv} {A : ME} {i j : Nat}
end
end MR
namespace MR
open PySem PySem.Spec PyProof.Rows L2
section
variable {S S' S1 S2 L R X α β γ δ ρ : Type} {k : Kf L R X} {s s1 s2 : SEnv} {b : MS} {E : S → SEnv} {A B : ME} {i j : Nat} {F : Fr}
end
end MR

namespace MR
open PySem PySem.Spec PyProof.Rows L2

section
variable {S S' S1 S2 L R X α β γ δ ρ : Type}
@[simp] theorem ctl_ite_rt (c : Prop) [Decidable c] (a b : R) : (if c then (Ctl.rt a : Ctl S L R X) else .rt b) = .rt (if c then a else b) := by split <;> rfl
theorem mem_rngT {lo hi k : Int} : k ∈ rngT lo hi ↔ lo ≤ k ∧ k < hi := by
  unfold rngT
  rw [List.mem_map]
  constructor
  · rintro ⟨i, h, rfl⟩
    have := List.mem_range.mp h
    omega
  · rintro ⟨h1, h2⟩
    exact ⟨(k - lo).toNat, List.mem_range.mpr (by omega), by omega⟩
theorem rngT_len (lo hi : Int) : (rngT lo hi).length = (hi - lo).toNat := by unfold rngT; simp
theorem at_atZ [Inhabited α] {l : List α} {i : Int} (h0 : 0 ≤ i) (h1 : i < l.length) : l[i.toNat]? = some (atZ l i) := by
  unfold atZ
  rw [if_pos h0, List.getElem?_eq_getElem (by omega)]; rfl
theorem atZ_mem [Inhabited α] {l : List α} {i : Int} (h0 : 0 ≤ i) (h1 : i < l.length) : atZ l i ∈ l := List.mem_of_getElem? (at_atZ h0 h1)
theorem inR_of {l : List α} {i : Int} (h0 : 0 ≤ i) (h1 : i < l.length) : inR l i := ⟨by omega, h1⟩
@[simp] theorem atZ_zero [Inhabited α] (x : α) (l : List α) : atZ (x :: l) (0 : Int) = x := rfl
theorem cutFrom (l : List α) {k : Int} (h : 0 ≤ k) : cutG l (some k) none = l.drop k.toNat := cut_from l k h
theorem nodup_le : ∀ (n : Nat) (l : List Int), l.Nodup → (∀ x ∈ l, 0 ≤ x ∧ x < n) → l.length ≤ n := fun n l nd h => by
  have := nodup_len n (l.map Int.toNat) (by
    rw [List.Nodup, List.pairwise_map]
    refine List.Pairwise.imp_of_mem ?_ nd
    intro a b ha hb hne e
    have := h a ha; have := h b hb; omega) fun x m => by
    obtain ⟨y, hy, rfl⟩ := List.mem_map.mp m
    have := h y hy; omega
  simpa using this
end
end MR

namespace MR
open PySem PySem.Spec PyProof.Rows L2
abbrev TRule := Wd × Int × Int × Int
abbrev TEn := Int × Wd × Int × Option Int
abbrev TRoom := List Wd × List TEn
def PlW : List Wd := [.out, .reads, .rising, .writes, .raised]
structure RmOk (n : Nat) (m : TRoom) : Prop where
  len : m.1.length = n
  pl : ∀ w ∈ m.1, w ∈ PlW
  gs : ∀ e ∈ m.2, 0 ≤ e.1 ∧ e.1 < n
  out : ∀ e ∈ m.2, m.1[e.1.toNat]? = some Wd.out
  rw : ∀ e ∈ m.2, e.2.1 = Wd.read ∨ e.2.1 = Wd.write
  nd : (m.2.map (·.1)).Nodup
theorem RmOk.few {n : Nat} {m : TRoom} (R : RmOk n m) : m.2.length ≤ n := by
  have := nodup_le n (m.2.map (·.1)) R.nd fun x hx => by
    obtain ⟨e, he, rfl⟩ := List.mem_map.mp hx
    exact R.gs e he
  simpa using this
/-- the entry of a guest is the only one -/
theorem nodup_inj {α β : Type} {f : α → β} : ∀ {l : List α}, (l.map f).Nodup → ∀ {a b : α}, a ∈ l → b ∈ l → f a = f b → a = b
  | [], _, _, _, h, _, _ => by cases h
  | x :: xs, nd, a, b, ha, hb, h => by
    rw [List.map_cons, List.nodup_cons] at nd
    rcases List.mem_cons.mp ha with e1 | h1
    · rcases List.mem_cons.mp hb with e2 | h2
      · rw [e1, e2]
      · exact absurd (List.mem_map.mpr ⟨b, h2, by rw [← h, e1]⟩) nd.1
    · rcases List.mem_cons.mp hb with e2 | h2
      · exact absurd (List.mem_map.mpr ⟨a, h1, by rw [h, e2]⟩) nd.1
      · exact nodup_inj nd.2 h1 h2 h
theorem RmOk.one {n : Nat} {m : TRoom} (R : RmOk n m) {e f : TEn} (he : e ∈ m.2) (hf : f ∈ m.2) (h : e.1 = f.1) : e = f := nodup_inj (f := fun x : TEn => x.1) R.nd he hf h
structure DdOk (n : Nat) (d : Deed) : Prop where
  gs : d.isTick = false → 0 ≤ d.guest ∧ d.guest < n
  wd : match d with
    | .ask w _ l => (w = Wd.read ∨ w = Wd.write) ∧ (l = none ∨ ∃ k : Int, l = some k ∧ 0 ≤ k ∧ k ≤ 9)
    | .mov w _ => w = Wd.up ∨ w = Wd.down ∨ w = Wd.leave ∨ w = Wd.stop
    | .tick => True
/-- whether a guest stands in the waits -/
def stays (m : TRoom) (g : Int) : Bool := decide (g ∈ m.2.map (fun e : TEn => e.1))
def offT (g : Int) (es : List TEn) : List TEn := es.filter fun e => !decide (e.1 = g)
theorem RmOk.sub {n : Nat} {ws : List Wd} {es : List TEn} (R : RmOk n (ws, es)) (p : TEn → Bool) : RmOk n (ws, es.filter p) :=
  ⟨R.len, R.pl, fun e he => R.gs e (List.mem_filter.mp he).1, fun e he => R.out e (List.mem_filter.mp he).1, fun e he => R.rw e (List.mem_filter.mp he).1, List.Nodup.sublist (List.Sublist.map _ List.filter_sublist) R.nd⟩
theorem RmOk.put {n : Nat} {ws : List Wd} {es : List TEn} (R : RmOk n (ws, es)) {g : Int} (h0 : 0 ≤ g) {w : Wd} (hw : w ∈ PlW) : RmOk n (ws.set g.toNat w, offT g es) := by
  have R' := R.sub fun e => !decide (e.1 = g)
  refine ⟨by rw [List.length_set]; exact R.len, fun x hx => ?_, R'.gs, fun e he => ?_, R'.rw, R'.nd⟩
  · rcases List.mem_or_eq_of_mem_set hx with q | q
    · exact R.pl x q
    · rw [q]; exact hw
  · have h1 := List.mem_filter.mp he
    have h2 : e.1 ≠ g := by simpa using h1.2
    have h3 := (R.gs e h1.1).1
    rw [List.getElem?_set_ne (by omega)]
    exact R.out e h1.1
theorem RmOk.ask {n : Nat} {m : TRoom} (R : RmOk n m) {g : Int} (h0 : 0 ≤ g) (h1 : g < n) (ho : atZ m.1 g = Wd.out) (hs : stays m g = false) {w : Wd} (hw : w = Wd.read ∨ w = Wd.write) (mk : Int) (l : Option Int) : RmOk n (m.1, m.2 ++ [(g, w, mk, l)]) := by
  have len := R.len
  refine ⟨R.len, R.pl, fun e he => ?_, fun e he => ?_, fun e he => ?_, ?_⟩
  · rcases List.mem_append.mp he with h | h
    · exact R.gs e h
    · rw [List.mem_singleton.mp h]; exact ⟨h0, h1⟩
  · rcases List.mem_append.mp he with h | h
    · exact R.out e h
    · rw [List.mem_singleton.mp h]
      have := at_atZ (l := m.1) h0 (by omega)
      rw [ho] at this; exact this
  · rcases List.mem_append.mp he with h | h
    · exact R.rw e h
    · rw [List.mem_singleton.mp h]; exact hw
  · show ((m.2 ++ [(g, w, mk, l)]).map (fun e : TEn => e.1)).Nodup
    rw [List.map_append, List.nodup_append]
    refine ⟨R.nd, by simp, fun a ha b hb => ?_⟩
    have : b = g := by simpa using hb
    subst this
    intro z
    subst z
    exact absurd ha (of_decide_eq_false hs)
class FitE {α : Type} (e : α → D) where
  n : Nat
  f : ∀ a, fit n (e a) = true
section
variable {α β γ δ : Type}
instance : FitE D.int := ⟨1, fun _ => rfl⟩
instance : FitE D.bl := ⟨1, fun _ => rfl⟩
instance : FitE eW := ⟨1, fun w => w.ok⟩
instance {e : α → D} [i : FitE e] : FitE (eO e) := ⟨i.n + 1, fun a => by
  cases a with
  | none => rfl
  | some a => exact fit_le (Nat.le_succ _) (i.f a)⟩
theorem fit_list {e : α → D} [i : FitE e] (l : List α) : (l.map e).all (fit i.n) = true := List.all_eq_true.mpr fun d hd => by
  obtain ⟨a, _, rfl⟩ := List.mem_map.mp hd
  exact i.f a
instance {e : α → D} [i : FitE e] : FitE (eS e) := ⟨i.n + 1, fun l => fit_list l⟩
instance {e : α → D} [i : FitE e] : FitE (eL e) := ⟨i.n + 1, fun l => fit_list l⟩
instance {a : α → D} [i : FitE a] : FitE (eT1 a) := ⟨i.n + 1, fun p => fit_tup.mpr fun d hd => by
  rw [List.mem_singleton.mp hd]; exact i.f p⟩
instance {a : α → D} {b : β → D} [i : FitE a] [j : FitE b] : FitE (eT2 a b) := ⟨max i.n j.n + 1, fun p => fit_tup.mpr fun d hd => by
  simp only [List.mem_cons, List.not_mem_nil, or_false] at hd
  rcases hd with rfl | rfl
  · exact fit_le (Nat.le_max_left _ _) (i.f _)
  · exact fit_le (Nat.le_max_right _ _) (j.f _)⟩
instance {a : α → D} {b : β → D} {c : γ → D} [i : FitE a] [j : FitE b] [k : FitE c] : FitE (eT3 a b c) := ⟨max i.n (max j.n k.n) + 1, fun p => fit_tup.mpr fun d hd => by
  simp only [List.mem_cons, List.not_mem_nil, or_false] at hd
  rcases hd with rfl | rfl | rfl
  · exact fit_le (by omega) (i.f _)
  · exact fit_le (by omega) (j.f _)
  · exact fit_le (by omega) (k.f _)⟩
instance {a : α → D} {b : β → D} {c : γ → D} {d : δ → D} [i : FitE a] [j : FitE b] [k : FitE c] [l : FitE d] : FitE (eT4 a b c d) := ⟨max i.n (max j.n (max k.n l.n)) + 1, fun p => fit_tup.mpr fun d hd => by
  simp only [List.mem_cons, List.not_mem_nil, or_false] at hd
  rcases hd with rfl | rfl | rfl | rfl
  · exact fit_le (by omega) (i.f _)
  · exact fit_le (by omega) (j.f _)
  · exact fit_le (by omega) (k.f _)
  · exact fit_le (by omega) (l.f _)⟩
instance : FitE eDd := ⟨3, fun d => by
  cases d with
  | ask w g l =>
    refine fit_tup.mpr fun d hd => ?_
    simp only [List.mem_cons, List.not_mem_nil, or_false] at hd
    rcases hd with rfl | rfl | rfl
    · exact w.ok
    · rfl
    · cases l <;> rfl
  | mov w g =>
    refine fit_tup.mpr fun d hd => ?_
    simp only [List.mem_cons, List.not_mem_nil, or_false] at hd
    rcases hd with rfl | rfl
    · exact w.ok
    · rfl
  | tick =>
    refine fit_tup.mpr fun d hd => ?_
    simp only [List.mem_cons, List.not_mem_nil, or_false] at hd
    rw [hd]
    exact Wd.ok _⟩
end
end MR

namespace MR
open PySem PySem.Spec PyProof.Rows L2
section
variable {α β γ : Type} {F : Fr} {s s1 s2 s3 : SEnv} {d d2 : D}
end
end MR

namespace MR
open PySem PySem.Spec PyProof.Rows L2
section
variable {S L R X α : Type} {k : Kf L R X} {s s1 s2 : SEnv} {E : S → SEnv} {c : Ctl S L R X} {m : MS}
theorem o_isiDT (d : Deed) (h : Hh) : isiO [eDd d, .glb (.ty "tuple")] h = some (.bl true) := by
  have : ∃ xs, eDd d = .tup xs := by cases d <;> exact ⟨_, rfl⟩
  obtain ⟨xs, e⟩ := this
  rw [e, ev_isi, ev_tyT]; show (kitB "tuple" "tuple").map D.bl = _; rw [kit_tuple.2.2.1]; rfl
theorem o_isiWS (w : Wd) (h : Hh) : isiO [eW w, .glb (.ty "str")] h = some (.bl true) := by
  show isiO [.str w.val, .glb (.ty "str")] h = _
  rw [ev_isi, ev_tyS]; show (kitB "str" "str").map D.bl = _; rw [kit_str.2.2.2.1]; rfl
theorem o_isiII (i : Int) (h : Hh) : isiO [.int i, .glb (.ty "int")] h = some (.bl true) := by
  rw [ev_isi, ev_tyI]; show (kitB "int" "int").map D.bl = _; rw [kit_int.2.2.2.2.2]; rfl
theorem o_isiIB (i : Int) (h : Hh) : isiO [.int i, .glb (.ty "bool")] h = some (.bl false) := by
  rw [ev_isi, ev_tyI]; show (kitB "int" "bool").map D.bl = _; rw [kit_int.2.2.2.2.1]; rfl
end
end MR

namespace MR
open PySem PySem.Spec PyProof.Rows L2
section
variable {F : Fr} {s s' s0 s1 s2 s3 : SEnv} {env env' : DEnv} {h h' : Hh} {i j p q : Nat} {o o' : O} {d d2 d3 : D} {A B : ME} {ms : MA} {ds : List D}
def CellsAt (h : Hh) (cs : List (Nat × O)) : Prop := (cs.map (·.1)).Nodup ∧ ∀ c ∈ cs, h[c.1]? = some c.2
/-- these slots tell these places -/
inductive Hid (s : SEnv) : List (Nat × Nat × O) → Prop where
  | nil : Hid s []
  | cons {j q : Nat} {o : O} {xs : List (Nat × Nat × O)} : s[j]? = some (some (Sl.hid q o)) → Hid s xs → Hid s ((j, q, o) :: xs)
theorem Hid.all : ∀ {xs : List (Nat × Nat × O)}, Hid s xs → ∀ x ∈ xs, s[x.1]? = some (some (Sl.hid x.2.1 x.2.2))
  | _, .nil, _, m => nomatch m
  | _, .cons e t, x, m => by
    rcases List.mem_cons.mp m with rfl | m
    · exact e
    · exact t.all x m
theorem Sat.cells (S : Sat F s env h) : ∀ {xs : List (Nat × Nat × O)}, Hid s xs → (xs.map (·.1)).Nodup → CellsAt h (xs.map (·.2))
  | _, .nil, _ => ⟨List.nodup_nil, fun _ m => nomatch m⟩
  | _, .cons (j := j) (q := q) (o := o) (xs := xs) e t, n => by
    rw [List.map_cons, List.nodup_cons] at n
    obtain ⟨a, b⟩ := S.cells t n.2
    refine ⟨?_, fun c m => ?_⟩
    · rw [List.map_cons, List.map_cons, List.nodup_cons]
      refine ⟨fun m => ?_, a⟩
      rw [List.map_map] at m
      obtain ⟨x, mx, ex⟩ := List.mem_map.mp m
      have ex : x.2.1 = q := ex
      have := t.all x mx
      rw [ex] at this
      exact S.hsep j x.1 q o x.2.2 (fun z => n.1 (by subst z; exact List.mem_map.mpr ⟨x, mx, rfl⟩)) e this
    · rcases List.mem_cons.mp m with rfl | m
      · exact S.hid j q o e
      · exact b c m
/-- the same places hold something else -/
inductive Chg (s : SEnv) (F : Fr) : List (Nat × Nat × O) → Prop where
  | nil : Chg s F []
  | cons {j q : Nat} {o o' : O} {xs : List (Nat × Nat × O)} : s[j]? = some (some (Sl.hid q o)) → (F.h0.length ≤ q ∨ q ∈ F.B) → Chg s F xs → Chg s F ((j, q, o') :: xs)
theorem Chg.set {xs : List (Nat × Nat × O)} {j q : Nat} {o : O} (c : Chg s F xs) (n : j ∉ xs.map (·.1)) : Chg (s.set j (some (.hid q o))) F xs := by
  induction c with
  | nil => exact .nil
  | cons e b t ih =>
    rw [List.map_cons, List.mem_cons, not_or] at n
    exact .cons (by rw [List.getElem?_set_ne n.1]; exact e) b (ih n.2)
variable {α β γ : Type}
variable {S S' S1 L R X T : Type} {k : Kf L R X} {E : S → SEnv} {b : MS} {c : Ctl S L R X}
end
end MR
namespace MR
open PySem PySem.Spec PyProof.Rows L2
section
variable {S L R X ρ : Type} {k : Kf L R X} {s s1 : SEnv} {E : S → SEnv} {a b m : MS} {c : Ctl S L R X} {A : ME} {i : Nat}
end
end MR
namespace MR
open PySem PySem.Spec PyProof.Rows L2
section
variable {S L R X ρ : Type} {k : Kf L R X} {s s1 : SEnv} {E : S → SEnv} {a b m : MS} {c : Ctl S L R X} {A : ME} {i j p : Nat}
end
end MR

namespace MR
open PySem PySem.Spec PyProof.Rows L2

section
variable {S S' S1 S2 L R X α β γ δ ρ : Type}
variable {F : Fr} {s s1 s2 : SEnv} {A B C : ME} {i : Nat} {E : S → SEnv} {k : Kf L R X} {b : MS}
end
end MR

namespace MR
open PySem PySem.Spec PyProof.Rows L2
section
variable {F : Fr} {s s1 : SEnv} {A : ME}
end
end MR

namespace MR
open PySem PySem.Spec PyProof.Rows L2
end MR

namespace MR
open PySem PySem.Spec PyProof.Rows L2

/-- texts of signs that there are -/
structure Tx where
  val : Str
  ok : PyData.strOk val = true
theorem Tx.ext {a b : Tx} (h : a.1 = b.1) : a = b := by
  cases a; cases b
  cases h; rfl
instance : DecidableEq Tx := fun a b => if h : a.1 = b.1 then isTrue (Tx.ext h) else isFalse fun z => h (by rw [z])
def eX : Tx → D := fun t => .str t.1
theorem ok_iff {x : Str} : PyData.strOk x = true ↔ ∀ c ∈ x.cps.toList, c < 0x110000 := by
  unfold PyData.strOk
  rw [← Array.all_toList, List.all_eq_true]
  constructor
  · intro h c hc; exact of_decide_eq_true (h c hc)
  · intro h c hc; exact decide_eq_true (h c hc)
theorem cps_app (a b : Str) : (a ++ b).cps = a.cps ++ b.cps := rfl
theorem str_ext {a b : Str} (h : a.cps.toList = b.cps.toList) : a = b := by
  cases a; cases b
  exact congrArg Str.mk (Array.toList_inj.mp h)
theorem str_assoc (a b c : Str) : a ++ b ++ c = a ++ (b ++ c) := str_ext (by rw [cps_app, cps_app, cps_app, cps_app, Array.append_assoc])
theorem ok_app {a b : Str} (ha : PyData.strOk a = true) (hb : PyData.strOk b = true) : PyData.strOk (a ++ b) = true := by
  rw [ok_iff] at *
  intro c hc
  rw [cps_app, Array.toList_append] at hc
  rcases List.mem_append.mp hc with h | h
  · exact ha c h
  · exact hb c h
theorem ok_of (s : String) : PyData.strOk (Str.ofString s) = true := by
  rw [ok_iff]
  intro c hc
  have e : (Str.ofString s).cps.toList = s.toList.map Char.toNat := by
    show (cpsOfBytes 0 0 s.toByteArray.data.toList).toArray.toList = _
    rw [cpsOfBytes_string]
  rw [e] at hc
  obtain ⟨x, _, rfl⟩ := List.mem_map.mp hc
  have h := x.valid
  simp only [UInt32.isValidChar, Nat.isValidChar] at h
  show x.val.toNat < _
  omega
theorem ok_empty : PyData.strOk Str.empty = true := by decide +kernel
theorem ok_join {s : Str} (hs : PyData.strOk s = true) : ∀ ys : List Str, (∀ y ∈ ys, PyData.strOk y = true) → PyData.strOk (Str.join s ys) = true
  | [], _ => ok_empty
  | [x], h => h x List.mem_cons_self
  | x :: y :: r, h => ok_app (ok_app (h x List.mem_cons_self) hs) (ok_join hs (y :: r) fun z m => h z (List.mem_cons_of_mem _ m))
def Tx.len (t : Tx) : Nat := t.1.length
def tW (w : Wd) : Tx := ⟨w.val, w.ok⟩
def tS (s : String) : Tx := ⟨Str.ofString s, ok_of s⟩
def tZ : Tx := ⟨Str.empty, ok_empty⟩
instance : Inhabited Tx := ⟨tZ⟩
def tI (i : Int) : Tx := ⟨Str.ofString (toString i), ok_of _⟩
def tApp (a b : Tx) : Tx := ⟨a.1 ++ b.1, ok_app a.2 b.2⟩
def tJoin (s : Tx) (ys : List Tx) : Tx := ⟨Str.join s.1 (ys.map (·.1)), ok_join s.2 _ fun y m => by
  obtain ⟨t, _, rfl⟩ := List.mem_map.mp m
  exact t.2⟩
theorem len_app (a b : Tx) : (tApp a b).len = a.len + b.len := Str.length_append _ _
instance : NR eX := ⟨fun _ _ => rfl⟩
instance : NN eX := ⟨fun _ _ _ => rfl⟩
instance : FitE eX := ⟨1, fun t => t.2⟩
instance pyE_x : PyE eX := ⟨0, fun t => PyData.str t.1, fun _ => rfl, fun t => t.2, fun _ => Nat.le_refl _, fun a b => by
  show (a.1 == b.1) = _
  rw [deq]
  by_cases h : a = b
  · subst h; simp
  · rw [decide_eq_false h, decide_eq_false fun z => h (Tx.ext z)], fun a => ⟨rfl, rfl⟩⟩
section
variable {F : Fr} {s s1 s2 : SEnv} {A B : ME} {α : Type} {i : Nat}
theorem q_w2t {w : Wd} (h : QX F s A (eW w) s1) : QX F s A (eX (tW w)) s1 := h
theorem o_addX (a b : Tx) (k : a.len + b.len ≤ 16777216) (h : Hh) : addO (eX a) (eX b) h = some (eX (tApp a b)) := by
  show (if a.1.length + b.1.length ≤ sizeLine then some (D.str (a.1 ++ b.1)) else none) = _
  exact if_pos k
theorem o_str (n : Int) (k : n.natAbs.log2 < 1920) (h : Hh) : str1O [.int n] h = some (eX (tI n)) := if_pos k
theorem strs_map (ys : List Tx) : strsOf (ys.map eX) = some (ys.map (·.1)) := by
  induction ys with
  | nil => rfl
  | cons y ys ih =>
    show (strsOf (ys.map eX)).map (y.1 :: ·) = _
    rw [ih]; rfl
def JoinB (a : Tx) (ys : List Tx) : Prop := (ys.map Tx.len).sum + ys.length * a.len ≤ 16777216
theorem join_of {a : Tx} {ys : List Tx} {x : D} {h : Hh} {ds : List D} (e1 : seqD x h = some ds) (e2 : strsOf ds = some (ys.map (·.1))) (k : JoinB a ys) : joinO a.1 x h = some (eX (tJoin a ys)) := by
  unfold joinO
  rw [e1, Option.bind_some, e2, Option.bind_some]
  have e : ((ys.map (·.1)).map (·.length)).sum + (ys.map (·.1)).length * a.1.length = (ys.map Tx.len).sum + ys.length * a.len := by
    rw [List.map_map, List.length_map]; rfl
  rw [if_pos (by rw [e]; exact k)]
  unfold Txt.join
  rw [StrLaws.glued_eq_join]; rfl
theorem q_join {a : Tx} {ys : List Tx} {x : D} (hA : QX F s A (eX a) s1) (hB : QX F s1 B x s2) (hx : ∀ h, ∃ ds, seqD x h = some ds ∧ strsOf ds = some (ys.map (·.1))) (k : JoinB a ys) : QX F s (eJoin A B) (eX (tJoin a ys)) s2 := fun env h S => by
  obtain ⟨h1, e1, S1⟩ := hA env h S
  obtain ⟨h2, e2, S2⟩ := hB env h1 S1
  refine ⟨h2, ?_, S2⟩
  unfold eJoin
  rw [e1, bind_ok]
  show ((B env h1).bind fun x h2 => lift (joinO a.1 x h2) h2) = _
  rw [e2, bind_ok]
  obtain ⟨ds, z1, z2⟩ := hx h2
  rw [join_of z1 z2 k]; rfl
theorem sx_L (ys : List Tx) (h : Hh) : ∃ ds, seqD (eL eX ys) h = some ds ∧ strsOf ds = some (ys.map (·.1)) := ⟨_, rfl, strs_map ys⟩
theorem getO_D {e : α → D} {l : List (Wd × α)} {h : Hh} {p : Nat} (hp : h[p]? = some (oD e l)) (j : Wd) : getO (.ref p) (eW j) h = some ((getG l j).map e) := by
  have f := dictOf_ref (kvs := mapD e l) hp
  unfold getO
  rw [f]
  show some (getG (mapD e l) (.inr j.val)) = _
  rw [get_map]
theorem q_dget2D {C : ME} {e : α → D} {l : List (Wd × α)} {j : Wd} {x : α} (hx : Hs s i (oD e l)) (hB : QX F s B (eW j) s) (hC : QX F s C (e x) s) : QX F s (eDGet2 (eSlot i) B C) (e ((getG l j).getD x)) s := fun env h S => by
  obtain ⟨p, e0, e00⟩ := S.cell i _ hx
  obtain ⟨h1, e1, S1⟩ := hB env h S
  obtain ⟨h2, e2, S2⟩ := hC env h1 S1
  obtain ⟨p', e3, e4⟩ := S2.cell i _ hx
  rw [e0] at e3
  cases e3
  refine ⟨h2, ?_, S2⟩
  have f1 := dictOf_ref (kvs := mapD e l) e00
  unfold eDGet2 eSlot
  rw [e0]
  show (if (dictOf (.ref p) h).isSome = true then _ else _) = _
  rw [f1, if_pos (show (some (mapD e l)).isSome = true from rfl), e1, bind_ok, e2, bind_ok, getO_D e4]
  cases getG l j <;> rfl
/-- what stands behind a deed's guest -/
def _root_.MR.Deed.tail : Deed → List (Option Int)
  | .ask _ _ l => [l]
  | _ => []
theorem o_tail (d : Deed) (h : Hh) : sliceO (eDd d) (some 2) none h = some (eS (eO D.int) d.tail) := by
  cases d <;> rfl
/-- str(None or a number) -/
def tO (o : Option Int) : Tx := match o with
  | none => tS "None"
  | some i => tI i
theorem o_strO (o : Option Int) (k : o.isSome = true → (o.getD default).natAbs.log2 < 1920) (h : Hh) : str1O [eO D.int o] h = some (eX (tO o)) := by
  cases o with
  | none => rfl
  | some i => exact if_pos (k rfl)
/-- a stroke for None -/
def eDash : Option Int → D := fun o => match o with
  | none => .str "-"
  | some i => .int i
instance : NR eDash := ⟨fun a n => by cases a <;> rfl⟩
section
variable {S L R X : Type} {k : Kf L R X} {E : S → SEnv} {b : MS} {c : Ctl S L R X}
end
end
end MR

namespace MR
open PySem PySem.Spec PyProof.Rows L2
/-- a truth handed back stays as it is -/
theorem frz_bl {F : MF} {ds : List D} {h : Hh} {b : Bool} (e : F ds h = .ok (.bl b) h) : frzF F ds h = .ok (.bl b) h := frzF_of (g := []) (by rw [e, List.append_nil]) rfl
/-- what is raised goes through -/
theorem frz_err {F : MF} {ds : List D} {h h' : Hh} {x : Exn} (e : F ds h = .err x h') : frzF F ds h = .err x h' := by
  unfold frzF; rw [e]
end MR

namespace MR
open PySem PySem.Spec PyProof.Rows L2
section
variable {S L R : Type} {k : Kf L R Exn} {s s1 : SEnv} {E : S → SEnv}
abbrev xI (x f : Str) (i : Int) : Exn := ⟨x, some (f, .int i)⟩
end
end MR

namespace MR
open PySem PySem.Spec PyProof.Rows L2
/-- five parts -/
def eT5 {α β γ δ ε : Type} (a : α → D) (b : β → D) (c : γ → D) (d : δ → D) (e : ε → D) : α × β × γ × δ × ε → D := fun p => .tup [a p.1, b p.2.1, c p.2.2.1, d p.2.2.2.1, e p.2.2.2.2]
instance {α β γ δ ε : Type} {a : α → D} {b : β → D} {c : γ → D} {d : δ → D} {e : ε → D} [NR a] [NR b] [NR c] [NR d] [NR e] : NR (eT5 a b c d e) := ⟨fun p n => by show bels n [_, _, _, _, _] = true; simp [bels, NR.nr (e := a), NR.nr (e := b), NR.nr (e := c), NR.nr (e := d), NR.nr (e := e)]⟩
instance {α β γ δ ε : Type} {a : α → D} {b : β → D} {c : γ → D} {d : δ → D} {e : ε → D} : NN (eT5 a b c d e) := ⟨fun _ _ _ => rfl⟩
mutual
theorem den_fd {G : Gm} {rho rho' : Rm} {H H' : Hp} {hh hh' : Hh} (R : Rep G rho hh H) (S : Step rho H rho' H') (R' : Rep G rho' hh' H') : ∀ (d d' : D) (v : V), Den G rho' H' d v → frzD hh.length hh' d = some d' → Den G rho H' d' v
  | .ref i, d', v, q, e => by
    rw [frzD] at e
    rw [Den] at q
    obtain ⟨a, e1, rfl⟩ := q
    obtain ⟨ex, ee, hex⟩ := S.ext
    split at e
    · rename_i hi
      cases e
      rw [Den]
      refine ⟨a, ?_, rfl⟩
      rw [ee, List.getElem?_append_left (by rw [R.len]; exact hi)] at e1
      exact e1
    · rename_i hi
      split at e
      · rename_i xs e2
        split at e
        · rename_i hb
          cases e
          obtain ⟨vs, e3, l, q⟩ := R'.ob i a _ e1 e2
          have hae : a ∈ ex := by
            rw [ee, List.getElem?_append_right (by rw [R.len]; omega)] at e1
            exact List.mem_of_getElem? e1
          have hn : H a = none := hex a hae
          rw [Den]
          refine ⟨a, vs, rfl, e3, fun hm => ?_, fun hm => ?_, l, ?_⟩
          · obtain ⟨u, e4, _⟩ := R.mut hm
            rw [hn] at e4; cases e4
          · obtain ⟨u, e4⟩ := R.hd a hm
            rw [hn] at e4; cases e4
          · exact Dens.res ⟨ex, ee⟩ (fun a _ n m => n (S.kept a m)) xs vs q (by rw [R.len]; exact hb)
        · cases e
      · rename_i kvs e2
        split at e
        · rename_i hb
          cases e
          rw [Bool.and_eq_true] at hb
          obtain ⟨xs, l0, l1, es, e3, q, k3, k4, k5⟩ := R'.ob i a _ e1 e2
          have hae : a ∈ ex := by
            rw [ee, List.getElem?_append_right (by rw [R.len]; omega)] at e1
            exact List.mem_of_getElem? e1
          have hn : H a = none := hex a hae
          obtain ⟨us, k1, k2, d1, d2⟩ := dn_split q
          rw [Den]
          refine ⟨a, xs, es, us, rfl, e3, fun hm => ?_, fun hm => ?_, l0, l1, k1, k2, k3, k4, k5, ?_, ?_⟩
          · obtain ⟨u, e4, _⟩ := R.mut hm
            rw [hn] at e4; cases e4
          · obtain ⟨u, e4⟩ := R.hd a hm
            rw [hn] at e4; cases e4
          · exact Dens.res ⟨ex, ee⟩ (fun a _ n m => n (S.kept a m)) _ _ d1 (by rw [R.len]; exact hb.1)
          · exact Dens.res ⟨ex, ee⟩ (fun a _ n m => n (S.kept a m)) _ us d2 (by rw [R.len]; exact hb.2)
        · cases e
      · cases e
  | .tup ds, d', v, q, e => by
    rw [frzD] at e
    obtain ⟨ds', e1, rfl⟩ := Option.map_eq_some_iff.mp e
    rw [Den] at q ⊢
    obtain ⟨a, vs, e2, q1, l, q2⟩ := q
    exact ⟨a, vs, e2, q1, l, dens_fd R S R' ds ds' vs q2 e1⟩
  | .wtp ds, d', v, q, e => by
    rw [frzD] at e
    obtain ⟨ds', e1, rfl⟩ := Option.map_eq_some_iff.mp e
    rw [Den] at q ⊢
    obtain ⟨a, vs, e2, q1, l, q2⟩ := q
    exact ⟨a, vs, e2, q1, l, dens_fd R S R' ds ds' vs q2 e1⟩
  | .lst ds, d', v, q, e => by
    rw [frzD] at e
    split at e
    · rename_i hb
      cases e
      obtain ⟨ex, ee, hex⟩ := S.ext
      exact Den.res ⟨ex, ee⟩ (fun a _ n m => n (S.kept a m)) _ v q (by rw [MR.bel, R.len]; exact hb)
    · cases e
  | .non, d', v, q, e => by rw [frzD] at e; cases e; exact q
  | .bl _, d', v, q, e => by rw [frzD] at e; cases e; exact q
  | .int _, d', v, q, e => by rw [frzD] at e; cases e; exact q
  | .str _, d', v, q, e => by rw [frzD] at e; cases e; exact q
  | .glb _, d', v, q, e => by rw [frzD] at e; cases e; exact q
  | .scr _, d', v, q, e => by rw [frzD] at e; cases e; rw [Den] at q ⊢; exact q
  | .dct ks ds, d', v, q, e => by
    rw [frzD] at e
    split at e
    · rename_i hb
      cases e
      obtain ⟨ex, ee, hex⟩ := S.ext
      exact Den.res ⟨ex, ee⟩ (fun a _ n m => n (S.kept a m)) _ v q (by rw [MR.bel, R.len]; exact hb)
    · cases e
theorem dens_fd {G : Gm} {rho rho' : Rm} {H H' : Hp} {hh hh' : Hh} (R : Rep G rho hh H) (S : Step rho H rho' H') (R' : Rep G rho' hh' H') : ∀ (ds ds' : List D) (vs : List V), Dens G rho' H' ds vs → frzDs hh.length hh' ds = some ds' → Dens G rho H' ds' vs
  | [], ds', vs, q, e => by rw [frzDs] at e; cases e; exact q
  | d :: ds, ds', vs, q, e => by
    rw [frzDs] at e
    rw [Dens] at q
    obtain ⟨v, r, rfl, q1, q2⟩ := q
    cases e1 : frzD hh.length hh' d with
    | none => rw [e1] at e; cases e
    | some x =>
      cases e2 : frzDs hh.length hh' ds with
      | none => rw [e1, e2] at e; cases e
      | some xs =>
        rw [e1, e2] at e
        cases e
        rw [Dens]
        exact ⟨v, r, rfl, den_fd R S R' d x v q1 e1, dens_fd R S R' ds xs r q2 e2⟩
end
/-- what was there may be changed, what a def has made is forgotten, what it hands back stands still -/
noncomputable def fdF (F : MF) : MF := fun ds h => match F ds h with
  | .ok d h' => open Classical in if h.length ≤ h'.length ∧ ∀ (i : Nat) o, i < h.length → h'[i]? = some o → h[i]? = some o ∨ O.bel h.length o then (match frzD h.length h' d with | some d' => .ok d' (h'.take h.length) | none => .stuck) else .stuck
  | .err x h' => .err x h'
  | .stuck => .stuck
theorem FnD.fd {P : Program} {w : World} {K : PySem.W.Frag} {mg : Str → Option Value} {base : Heap} {k : Nat} {f : Addr} {fd : FuncData} {ps : List Str} {F : MF} (h : FnD P w K mg base k f fd ps F) : FnD P w K mg base k f fd ps (fdF F) :=
  FnOk.imp h fun vs H Q E ⟨hl, rho, hh, ds, R, q, p⟩ => ⟨hl, rho, hh, ds, R, q, by
    unfold fdF at p
    cases e : F ds hh with
    | ok d hh' =>
      rw [e] at p
      simp only at p
      split at p
      · rename_i hc
        obtain ⟨hle, ho⟩ := hc
        cases e2 : frzD hh.length hh' d with
        | none => rw [e2] at p; exact p.elim
        | some d' =>
          rw [e2] at p
          intro rho' H' v S R' q'
          obtain ⟨ex, ee, hex⟩ := S.ext
          have h2 : ∀ a, a ∉ rho'.at_ → a ∉ rho'.res → a ∉ rho.res := fun a _ n m => n (S.kept a m)
          refine p rho H' v S.drop ⟨R.nd, fun a m => let ⟨o', e⟩ := R.hd a m; S.there a o' e, by rw [List.length_take, R.len]; omega, fun i a o e1 e2 => ?_⟩ (den_fd R S R' d d' v q' e2)
          have hi : i < hh.length := by rw [← R.len]; exact (List.getElem?_eq_some_iff.mp e1).1
          have e3 : hh'[i]? = some o := by
            rw [List.getElem?_take] at e2
            simpa [hi] using e2
          refine (R'.ob i a o (S.get e1) e3).res ⟨ex, ee⟩ h2 ?_
          rcases ho i o hi e3 with z | z
          · exact (R.ob i a o e1 z).bel
          · rw [R.len]; exact z
      · exact p.elim
    | err x hh' => rw [e] at p; exact p
    | stuck => rw [e] at p; exact p⟩
section
variable {S L R X T : Type} {F : Fr} {s s1 s2 : SEnv} {A : ME} {E : S → SEnv} {EX : X → Exn → Prop} {EL : L → SEnv} {eR : R → D}
end
end MR

namespace MR
open PySem PySem.Spec PyProof.Rows L2
/-- what may be a part of a key -/
class NkE {α : Type} (e : α → D) where
  key : α → NestedKey
  n : Nat
  nk : ∀ a, MR.nk (e a) = some (key a)
  inj : ∀ a b, key a = key b → a = b
  dep : ∀ a, (key a).depth ≤ n
theorem nks_map {α : Type} {e : α → D} [i : NkE e] : ∀ l : List α, nks (l.map e) = some (l.map i.key)
  | [] => rfl
  | a :: l => by rw [List.map_cons, nks, i.nk, nks_map l]; rfl
theorem ndep_map {α : Type} {e : α → D} [i : NkE e] : ∀ l : List α, NestedKey.depthAll (l.map i.key) ≤ i.n
  | [] => Nat.zero_le _
  | a :: l => by rw [List.map_cons, NestedKey.depthAll]; exact Nat.max_le.mpr ⟨i.dep a, ndep_map l⟩
theorem ninj_map {α : Type} {e : α → D} [i : NkE e] : ∀ l m : List α, l.map i.key = m.map i.key → l = m
  | [], [], _ => rfl
  | [], _ :: _, h => by simp at h
  | _ :: _, [], h => by simp at h
  | a :: l, b :: m, h => by
    simp only [List.map_cons, List.cons.injEq] at h
    rw [i.inj a b h.1, ninj_map l m h.2]
instance : NkE D.int := ⟨NestedKey.num, 0, fun _ => rfl, fun a b h => NestedKey.num.inj h, fun _ => Nat.le_refl _⟩
instance : NkE eW := ⟨fun w => NestedKey.text w.val, 0, fun _ => rfl, fun a b h => Wd.val_inj (NestedKey.text.inj h), fun _ => Nat.le_refl _⟩
def nkOpt {α : Type} (f : α → NestedKey) : Option α → NestedKey
  | none => .none
  | some a => f a
/-- a key part that is not None -/
class NkN {α : Type} (e : α → D) [i : NkE e] : Prop where
  nn : ∀ a, i.key a ≠ .none
instance : NkN D.int := ⟨fun _ h => nomatch h⟩
instance : NkN eW := ⟨fun _ h => nomatch h⟩
instance nkE_opt {α : Type} {e : α → D} [i : NkE e] [j : NkN e] : NkE (eO e) := ⟨nkOpt i.key, i.n, fun a => by cases a with | none => rfl | some a => exact i.nk a, fun a b h => by
  cases a with
  | none => cases b with
    | none => rfl
    | some b => exact absurd h.symm (j.nn b)
  | some a => cases b with
    | none => exact absurd h (j.nn a)
    | some b => rw [i.inj a b h], fun a => by cases a with | none => exact Nat.zero_le _ | some a => exact i.dep a⟩
instance nkE_seq {α : Type} {e : α → D} [i : NkE e] : NkE (eS e) := ⟨fun l => .tup (l.map i.key), i.n + 1, fun l => by show (nks (l.map e)).map NestedKey.tup = _; rw [nks_map]; rfl, fun a b h => ninj_map a b (NestedKey.tup.inj h), fun l => by
  rw [NestedKey.depth]; exact Nat.succ_le_succ (ndep_map l)⟩
instance nkE_t2 {α β : Type} {a : α → D} {b : β → D} [i : NkE a] [j : NkE b] : NkE (eT2 a b) := ⟨fun p => .tup [i.key p.1, j.key p.2], max i.n j.n + 1, fun p => by show (nks [_, _]).map _ = _; simp [nks, i.nk, j.nk], fun p q h => by
  have := NestedKey.tup.inj h
  simp only [List.cons.injEq, and_true] at this
  exact Prod.ext (i.inj _ _ this.1) (j.inj _ _ this.2), fun p => by
  have h1 := i.dep p.1
  have h2 := j.dep p.2
  simp only [NestedKey.depth, NestedKey.depthAll]; omega⟩
instance nkE_t3 {α β γ : Type} {a : α → D} {b : β → D} {c : γ → D} [i : NkE a] [j : NkE b] [k : NkE c] : NkE (eT3 a b c) := ⟨fun p => .tup [i.key p.1, j.key p.2.1, k.key p.2.2], max i.n (max j.n k.n) + 1, fun p => by show (nks [_, _, _]).map _ = _; simp [nks, i.nk, j.nk, k.nk], fun p q h => by
  have := NestedKey.tup.inj h
  simp only [List.cons.injEq, and_true] at this
  exact Prod.ext (i.inj _ _ this.1) (Prod.ext (j.inj _ _ this.2.1) (k.inj _ _ this.2.2)), fun p => by
  have h1 := i.dep p.1
  have h2 := j.dep p.2.1
  have h3 := k.dep p.2.2
  simp only [NestedKey.depth, NestedKey.depthAll]; omega⟩
instance nkE_t4 {α β γ δ : Type} {a : α → D} {b : β → D} {c : γ → D} {d : δ → D} [i : NkE a] [j : NkE b] [k : NkE c] [l : NkE d] : NkE (eT4 a b c d) := ⟨fun p => .tup [i.key p.1, j.key p.2.1, k.key p.2.2.1, l.key p.2.2.2], max i.n (max j.n (max k.n l.n)) + 1, fun p => by show (nks [_, _, _, _]).map _ = _; simp [nks, i.nk, j.nk, k.nk, l.nk], fun p q h => by
  have := NestedKey.tup.inj h
  simp only [List.cons.injEq, and_true] at this
  exact Prod.ext (i.inj _ _ this.1) (Prod.ext (j.inj _ _ this.2.1) (Prod.ext (k.inj _ _ this.2.2.1) (l.inj _ _ this.2.2.2))), fun p => by
  have h1 := i.dep p.1
  have h2 := j.dep p.2.1
  have h3 := k.dep p.2.2.1
  have h4 := l.dep p.2.2.2
  simp only [NestedKey.depth, NestedKey.depthAll]; omega⟩
/-- what may be a key: a tuple, not too deep -/
class NkT {α : Type} (e : α → D) [i : NkE e] : Prop where
  tup : ∀ a, ∃ ds, e a = .tup ds
  few : i.n ≤ 8
/-- one that stands still -/
def eDic {κ α : Type} (eK : κ → D) (e : α → D) (l : List (κ × α)) : D := .dct (l.map fun p => eK p.1) (l.map fun p => e p.2)
section
variable {κ α : Type} [DecidableEq κ] {eK : κ → D} {e : α → D} [i : NkE eK]
theorem any_get (k : κ) (l : List (κ × α)) : (l.any fun kv => decide (kv.1 = k)) = (getG l k).isSome := by
  induction l with
  | nil => rfl
  | cons p l ih =>
    unfold getG at ih ⊢
    rw [List.any_cons, List.find?_cons]
    by_cases h : p.1 = k
    · rw [decide_eq_true h]; rfl
    · rw [decide_eq_false h]; exact ih
variable [j : NkT eK]
end
section
variable {S S' S1 S2 L R X α β γ δ ρ κ : Type} {k : Kf L R X} {s s0 s1 s2 s3 : SEnv} {b : MS} {E : S → SEnv} {A B V I : ME} {i j q : Nat} {F : Fr} {eK : κ → D} {e : α → D}
end
instance {κ α : Type} {eK : κ → D} {e : α → D} [NR eK] [NR e] : NR (eDic eK e) := ⟨fun l n => by
  show (bels n _ && bels n _) = true
  rw [show (l.map fun p => eK p.1) = (l.map (·.1)).map eK by rw [List.map_map]; rfl, show (l.map fun p => e p.2) = (l.map (·.2)).map e by rw [List.map_map]; rfl, bels_map, bels_map]; rfl⟩
instance {κ α : Type} {eK : κ → D} {e : α → D} : NN (eDic eK e) := ⟨fun _ _ _ => rfl⟩
end MR

namespace MR
open PySem PySem.Spec PyProof.Rows L2
section
variable {κ α : Type} [DecidableEq κ] {eK : κ → D} {e : α → D} [i : NkE eK] [j : NkT eK]
end
end MR

namespace MR
open PySem PySem.Spec PyProof.Rows L2
section
variable {F : Fr} {s : SEnv} {env : DEnv} {h : Hh} {i j q : Nat} {o : O}
end
section
variable {S S' S1 S2 L R X α β : Type} {k : Kf L R X} {s s1 : SEnv} {b : MS} {E : S → SEnv} {c : Ctl S L R X}
end
end MR

namespace MR
open PySem PySem.Spec PyProof.Rows L2
section
variable {F : Fr} {s s1 : SEnv} {κ α : Type} {eK : κ → D} {e : α → D} {A : ME} {i j : Nat}
end
section
variable {α β L : Type} {F : Fr} {s s0 : SEnv} {i : Nat}
end
section
variable {S S' S1 S2 L R X ρ α : Type} {k : Kf L R X} {s : SEnv} {b : MS} {E : S → SEnv}
end
end MR

namespace MR
open PySem PySem.Spec PyProof.Rows L2
section
variable {α β : Type}
instance inh_sum [Inhabited α] : Inhabited (α ⊕ β) := ⟨.inl default⟩
def eHR (a : α → D) (b : β → D) : α ⊕ β → D
  | .inl x => .tup [.str "alike", a x]
  | .inr y => .tup [.str "parts", b y]
variable {a : α → D} {b : β → D}
instance [NR a] [NR b] : NR (eHR a b) := ⟨fun p n => by
  cases p with
  | inl x => show bels n [_, _] = true; simp [bels, NR.nr (e := a), bel]
  | inr x => show bels n [_, _] = true; simp [bels, NR.nr (e := b), bel]⟩
instance : NN (eHR a b) := ⟨fun p _ _ => by cases p <;> rfl⟩
theorem fit_two {x y : D} {n : Nat} (h1 : fit n x = true) (h2 : fit n y = true) : fit (n + 1) (.tup [x, y]) = true := fit_tup.mpr fun d hd => by
  simp only [List.mem_cons, List.not_mem_nil, or_false] at hd
  rcases hd with rfl | rfl
  · exact h1
  · exact h2
theorem fit_w {n : Nat} (h : 1 ≤ n) : fit n (.str "alike") = true ∧ fit n (.str "parts") = true := ⟨fit_le h (by decide +kernel), fit_le h (by decide +kernel)⟩
instance [i : FitE a] [j : FitE b] : FitE (eHR a b) := ⟨max (max i.n j.n) 1 + 1, fun p => by
  cases p with
  | inl x => exact fit_two (fit_w (by omega)).1 (fit_le (by omega) (i.f x))
  | inr x => exact fit_two (fit_w (by omega)).2 (fit_le (by omega) (j.f x))⟩
def pyHR (f : α → PyData) (g : β → PyData) : α ⊕ β → PyData
  | .inl x => .tuple [.str "alike", f x]
  | .inr y => .tuple [.str "parts", g y]
variable [DecidableEq α] [DecidableEq β]
instance [i : PyEO a] [j : PyEO b] : PyE (eHR a b) := ⟨i.n + j.n + 1, pyHR i.py j.py, fun p => by
  cases p with
  | inl x => show (toPys [_, _]).map _ = _; simp [toPys, i.to, toPy, pyHR]
  | inr x => show (toPys [_, _]).map _ = _; simp [toPys, j.to, toPy, pyHR], fun p => by
  cases p with
  | inl x =>
    simp only [pyHR, PyData.canLay0, PyData.canLayAll0, i.lay]
    decide +kernel
  | inr x =>
    simp only [pyHR, PyData.canLay0, PyData.canLayAll0, j.lay]
    decide +kernel, fun p => by
  cases p with
  | inl x => simp only [pyHR, PyData.depth, PyData.depthAll]; have := i.dep x; omega
  | inr x => simp only [pyHR, PyData.depth, PyData.depthAll]; have := j.dep x; omega, fun p q => by
  have n1 : (("alike" : Str) == ("parts" : Str)) = false := by decide
  have n2 : (("parts" : Str) == ("alike" : Str)) = false := by decide
  cases p with
  | inl x => cases q with
    | inl y => simp only [pyHR, PyData.eqv, PyData.eqvAll, i.eqv, Bool.and_true, beq_self_eq_true, Bool.true_and]; exact decide_eq_decide.mpr (by simp)
    | inr y => simp [pyHR, PyData.eqv, PyData.eqvAll, n1]
  | inr x => cases q with
    | inl y => simp [pyHR, PyData.eqv, PyData.eqvAll, n2]
    | inr y => simp only [pyHR, PyData.eqv, PyData.eqvAll, j.eqv, Bool.and_true, beq_self_eq_true, Bool.true_and]; exact decide_eq_decide.mpr (by simp), fun p => by cases p <;> exact ⟨rfl, rfl⟩⟩
end
section
variable {α β : Type} {F : Fr} {s s1 : SEnv} {A : ME} {a : α → D} {b : β → D}
end
end MR

namespace MR
open PySem PySem.Spec PyProof.Rows L2
section
variable {α β : Type} {a : α → D} {b : β → D}
end
end MR

namespace MR
open PySem PySem.Spec PyProof.Rows L2
def tOf (s : Str) : Tx := if h : PyData.strOk s = true then ⟨s, h⟩ else tZ
theorem tOf_val {s : Str} (h : PyData.strOk s = true) : (tOf s).1 = s := by unfold tOf; rw [dif_pos h]
theorem tOf_self (t : Tx) : tOf t.1 = t := Tx.ext (tOf_val t.2)
def tSplit (a b : Tx) : List Tx := (Txt.split a.1 b.1).map tOf
def SplB (a b : Tx) : Prop := (b.len == 0) = false ∧ a.len + 2 ≤ 16777216 ∧ ∀ s ∈ Txt.split a.1 b.1, PyData.strOk s = true
theorem split_D {a b : Tx} (k : SplB a b) : splO (eX a) (eX b) = some ((tSplit a b).map eX) := by
  show (if (b.1.length == 0) = false ∧ a.1.length + 2 ≤ sizeLine then some ((Txt.split a.1 b.1).map D.str) else none) = _
  rw [if_pos ⟨k.1, by rw [sizeLine_eq]; exact k.2.1⟩]
  unfold tSplit
  rw [List.map_map]
  congr 1
  exact List.map_congr_left fun s m => by show D.str s = D.str (tOf s).1; rw [tOf_val (k.2.2 s m)]
theorem ev_split {a b : Tx} {ma mb : ME} {env : DEnv} {h h1 h2 : Hh} (ea : ma env h = .ok (eX a) h1) (eb : mb env h1 = .ok (eX b) h2) (k : SplB a b) : aSplit ma mb env h = .ok ((tSplit a b).map eX) h2 := by
  unfold aSplit
  rw [ea, bind_ok, if_pos (show isS (eX a) = true from rfl), eb, bind_ok, split_D k]
  rfl
section
variable {F : Fr} {s s1 s2 : SEnv} {A B : ME}
end
def sgOk (t : Tx) : Bool := t.1.cps.toList.all fun c => decide (c ∈ (("0123456789" : Str)).cps.toList)
def numT (w : Tx) (m : Int) : Option Int := if (decide ((1 : Int) ≤ w.len) && decide ((w.len : Int) ≤ m)) && sgOk w then PySem.intText? w.1 else none
def NumB (w : Tx) (m : Int) : Prop := w.len ≤ 640 ∧ (((decide ((1 : Int) ≤ w.len) && decide ((w.len : Int) ≤ m)) && sgOk w) = true → (PySem.intText? w.1).isSome = true)
def sgL (l : List Nat) : List D := l.map fun c => D.bl (decide (c ∈ (("0123456789" : Str)).cps.toList))
def sgB (l : List Nat) : List Bool := l.map fun c => decide (c ∈ (("0123456789" : Str)).cps.toList)
theorem signs_all (l : List Nat) : truths (sgL l) = some (sgB l) := by
  induction l with
  | nil => rfl
  | cons c cs ih =>
    show (truths (sgL cs)).map (_ :: ·) = _
    rw [ih]; rfl
theorem all_signs (t : Tx) : (sgB t.1.cps.toList).all id = sgOk t := by
  unfold sgB sgOk
  rw [List.all_map]
  rfl
end MR

namespace MR
open PySem PySem.Spec PyProof.Rows L2
section
variable {S L R X α : Type} {k : Kf L R X} {s s1 s2 : SEnv} {b : MS} {E : S → SEnv} {A B : ME} {c : Ctl S L R X} {F : Fr}
end
end MR

namespace MR
open PySem PySem.Spec PyProof.Rows L2
/-- what stands for a guest -/
inductive Od where
  | int (i : Int) | bl (b : Bool) | non | str (t : Tx)
def eOd : Od → D
  | .int i => .int i
  | .bl b => .bl b
  | .non => .non
  | .str t => .str t.1
/-- what stands for a row of deeds -/
inductive Rw where
  | row (l : List Deed) | lst (l : List Deed) | non
def eRw : Rw → D
  | .row l => eS eDd l
  | .lst l => eL eDd l
  | .non => .non
/-- what is shown -/
inductive Th where
  | four (w : Wd) (o : Od) (a b : Rw) | five (w : Wd) (o : Od) (a b : Rw) | three (w : Wd) (o : Od) (a : Rw) | lst4 (w : Wd) (o : Od) (a b : Rw)
  | non | bl (b : Bool) | int (i : Int) | str (w : Wd) | nil | one (w : Wd) | lnil | dct
def eTh : Th → D
  | .four w o a b => .tup [eW w, eOd o, eRw a, eRw b]
  | .five w o a b => .tup [eW w, eOd o, eRw a, eRw b, .int 0]
  | .three w o a => .tup [eW w, eOd o, eRw a]
  | .lst4 w o a b => .lst [eW w, eOd o, eRw a, eRw b]
  | .non => .non
  | .bl b => .bl b
  | .int i => .int i
  | .str w => eW w
  | .nil => .tup []
  | .one w => .tup [eW w]
  | .lnil => .lst []
  | .dct => .dct [] []
instance : Inhabited Od := ⟨.non⟩
instance : Inhabited Rw := ⟨.non⟩
instance : Inhabited Th := ⟨.non⟩
instance : NR eOd := ⟨fun a n => by cases a <;> rfl⟩
instance : NR eRw := ⟨fun a n => by
  cases a with
  | row l => exact NR.nr (e := eS eDd) l n
  | lst l => exact NR.nr (e := eL eDd) l n
  | non => rfl⟩
instance : NR eTh := ⟨fun a n => by
  cases a <;> first | rfl | (show bels n _ = true; simp [bels, NR.nr (e := eW), NR.nr (e := eOd), NR.nr (e := eRw), bel])⟩
section
variable {F : Fr} {s s1 s2 : SEnv} {A B : ME}
end
end MR

namespace MR
open PySem PySem.Spec PyProof.Rows L2
section
variable {S L R X : Type} {k : Kf L R X} {s s1 s2 : SEnv} {E : S → SEnv}
end
end MR

namespace MR
open PySem PySem.Spec PyProof.Rows L2
section
variable {S L R X ρ : Type} {k : Kf L R X} {s s1 s2 : SEnv} {E : S → SEnv} {b sm : MS} {F0 : MF} {ms : MA} {as : List D} {cond : Bool} {r : ρ} {e : ρ → D} {psf : ρ → List D} {c2 : ρ → Ctl S L R X} {ok : ρ → Prop} {cs : List Str} {cl : Str} {x : Exn} {v : R}
end
section
variable {F : Fr} {s s1 s2 : SEnv} {A B : ME}
end
end MR

namespace MR
open PySem PySem.Spec PyProof.Rows L2
section
variable {κ α : Type} [DecidableEq κ] {eK : κ → D} {e : α → D} [i : NkE eK] [j : NkT eK]
end
end MR

namespace MR
open PySem PySem.Spec PyProof.Rows L2
section
variable {S L R X α β : Type} {k : Kf L R X} {s : SEnv} {E : S → SEnv} {ea : α → D} {eb : β → D}
end
section
variable {S L R X α β : Type} {k : Kf L R X} {s : SEnv} {E : S → SEnv} {ea : α → D} {eb : β → D}
end
section
variable {F : Fr} {s : SEnv} {d : D}
end
end MR

namespace MR
open PySem PySem.Spec PyProof.Rows L2
section
variable {F : DEnv → Prop} {s s1 : SEnv} {A : ME} {i : Nat}
section
variable {S L R X : Type} {k : Kf L R X} {E : S → SEnv} {b : MS} {c : Ctl S L R X}
end
end
end MR

namespace MR
open PySem PySem.Spec PyProof.Rows L2
section
variable {P : Program} {w : World} {K : PySem.W.Frag} {mg : Str → Option Value} {base : Heap}
theorem FnDN.frz {k : Nat} {f : Addr} {fd : FuncData} {ps : List Str} {F : MF} (h : FnDN P w K mg base k f fd ps F) : FnDN P w K mg base k f fd ps (frzF F) :=
  FnOk.imp h fun vs H Q E ⟨hl, rho, hh, ds, R, q, p⟩ => ⟨hl, rho, hh, ds, R, q, by
    unfold frzF at p
    cases e : F ds hh with
    | ok d hh' =>
      rw [e] at p
      simp only at p
      split at p
      · rename_i hc
        obtain ⟨g, rfl⟩ := hc
        cases e2 : frzD hh.length (hh ++ g) d with
        | none => rw [e2] at p; exact p.elim
        | some d' =>
          rw [e2] at p
          intro rho' H' v S R' q'
          obtain ⟨ex, ee, hex⟩ := S.ext
          have h2 : ∀ a, a ∉ rho'.at_ → a ∉ rho'.res → a ∉ rho.res := fun a _ n m => n (S.kept a m)
          exact p rho H' v S.drop (R.drop S ⟨ex, ee⟩ h2 R') (den_frz R S R' d d' v q' e2)
      · exact p.elim
    | err x hh' => rw [e] at p; exact p
    | stuck => rw [e] at p; exact p⟩
end
end MR

section
set_option maxHeartbeats 4000000
namespace LK
open MR PySem PySem.Spec PyProof.Rows L2
def topS (i : Nat) : Stmt := PySem.Challenge.pw_manyreaders_k50_rows_refused_by_their_li.main.body.getD i (.Pass ⟨0, 0, 0, 0⟩)
abbrev c_ASKS : D := .tup [.str "read", .str "write"]
abbrev c_MOVES : D := .tup [.str "up", .str "down", .str "leave", .str "stop"]
abbrev c_LONGEST_LEFT : D := .int 9
abbrev c_FIGURES : D := .str "0123456789"
abbrev s_is_between : Stmt := topS 1
abbrev N_is_between : List Str := ["thing", "low", "high"]
theorem sc_is_between : FnScope N_is_between ["thing", "low", "high"] (defScope s_is_between) := ⟨rfl, rfl, rfl, by decide +kernel, rfl, by decide +kernel, by decide +kernel⟩
noncomputable def b_is_between : MS :=
 (sRet (eAnd (eOpN isiO (aCons (eSlot 0) (aCons (eC (.glb (.ty "int"))) aNil))) (eAnd (eNot (eOpN isiO (aCons (eSlot 0) (aCons (eC (.glb (.ty "bool"))) aNil)))) (eChain leO leO (eSlot 1) (eSlot 0) (eSlot 2)))))
noncomputable def F_is_between : MF := frzF (runF 3 N_is_between b_is_between)
abbrev s_is_deed : Stmt := topS 12
abbrev N_is_deed : List Str := ["n", "thing"]
theorem sc_is_deed : FnScope N_is_deed ["n", "thing"] (defScope s_is_deed) := ⟨rfl, rfl, rfl, by decide +kernel, rfl, by decide +kernel, by decide +kernel⟩
noncomputable def b_is_deed : MS :=
 (sSeq (sIf (tOr (tNot (tE (eOpN isiO (aCons (eSlot 1) (aCons (eC (.glb (.ty "tuple"))) aNil))))) (tOr (tE (eOp2 eqO (eOpN lenO (aCons (eSlot 1) aNil)) (eC (.int 0)))) (tNot (tE (eOpN isiO (aCons (eOp2 ixA (eSlot 1) (eC (.int 0))) (aCons (eC (.glb (.ty "str"))) aNil))))))) (sRet (eC (.bl false))) sNext)
 (sSeq (sIf (tE (eOp2 eqO (eOp2 ixA (eSlot 1) (eC (.int 0))) (eC (.str "tick")))) (sRet (eOp2 eqO (eOpN lenO (aCons (eSlot 1) aNil)) (eC (.int 1)))) sNext)
 (sSeq (sIf (tOr (tE (eOp2 ltO (eOpN lenO (aCons (eSlot 1) aNil)) (eC (.int 2)))) (tNot (tE (eCall F_is_between (aCons (eOp2 ixA (eSlot 1) (eC (.int 1))) (aCons (eC (.int 0)) (aCons (eOp2 subO (eSlot 0) (eC (.int 1))) aNil))))))) (sRet (eC (.bl false))) sNext)
 (sSeq (sIf (tE (eOp2 (inO false) (eOp2 ixA (eSlot 1) (eC (.int 0))) (eC c_ASKS))) (sRet (eAnd (eOp2 eqO (eOpN lenO (aCons (eSlot 1) aNil)) (eC (.int 3))) (eOr (eOp2 (isNO false) (eOp2 ixA (eSlot 1) (eC (.int 2))) (eC .non)) (eCall F_is_between (aCons (eOp2 ixA (eSlot 1) (eC (.int 2))) (aCons (eC (.int 0)) (aCons (eC c_LONGEST_LEFT) aNil))))))) sNext)
 (sRet (eAnd (eOp2 (inO false) (eOp2 ixA (eSlot 1) (eC (.int 0))) (eC c_MOVES)) (eOp2 eqO (eOpN lenO (aCons (eSlot 1) aNil)) (eC (.int 2)))))))))
noncomputable def F_is_deed : MF := frzF (runF 2 N_is_deed b_is_deed)
abbrev s_number_in : Stmt := topS 16
abbrev N_number_in : List Str := ["word", "most", "sign"]
theorem sc_number_in : FnScope N_number_in ["word", "most"] (defScope s_number_in) := ⟨rfl, rfl, rfl, by decide +kernel, rfl, by decide +kernel, by decide +kernel⟩
noncomputable def b_number_in : MS :=
 (sSeq (sIf (tOr (tNot (tE (eChain leO leO (eC (.int 1)) (eOpN lenO (aCons (eSlot 0) aNil)) (eSlot 1)))) (tNot (tE (eOpN allO (aCons (eFrz (aComp (iOf (eSlot 0)) (.name 2) (fun _ h => .ok true h) (eOp2 inSgO (eSlot 2) (eC c_FIGURES)) [2])) aNil))))) (sRet (eC .non)) sNext)
 (sRet (eIntT (eSlot 0))))
noncomputable def F_number_in : MF := frzF (runF 2 N_number_in b_number_in)
abbrev s_ask_in : Stmt := topS 17
abbrev N_ask_in : List Str := ["word", "guest", "words", "left"]
theorem sc_ask_in : FnScope N_ask_in ["word", "guest", "words"] (defScope s_ask_in) := ⟨rfl, rfl, rfl, by decide +kernel, rfl, by decide +kernel, by decide +kernel⟩
noncomputable def b_ask_in : MS :=
 (sSeq (sIf (tE (eOp2 eqO (eOpN lenO (aCons (eSlot 2) aNil)) (eC (.int 0)))) (sRet (eTup (aCons (eSlot 0) (aCons (eSlot 1) (aCons (eC .non) aNil))))) sNext)
 (sSeq (sIf (tE (eOp2 gtO (eOpN lenO (aCons (eSlot 2) aNil)) (eC (.int 1)))) (sRet (eC .non)) sNext)
 (sSeq (sAsg (eCall F_number_in (aCons (eOp2 ixA (eSlot 2) (eC (.int 0))) (aCons (eC (.int 1)) aNil))) (gName 3))
 (sSeq (sIf (tE (eOp2 (isNO false) (eSlot 3) (eC .non))) (sRet (eC .non)) sNext)
 (sRet (eTup (aCons (eSlot 0) (aCons (eSlot 1) (aCons (eSlot 3) aNil)))))))))
noncomputable def F_ask_in : MF := runF 3 N_ask_in b_ask_in
abbrev s_deed_in : Stmt := topS 18
abbrev N_deed_in : List Str := ["n", "line", "words", "verbs", "word", "guest", "deed", "verb"]
theorem sc_deed_in : FnScope N_deed_in ["n", "line"] (defScope s_deed_in) := ⟨rfl, rfl, rfl, by decide +kernel, rfl, by decide +kernel, by decide +kernel⟩
noncomputable def b_deed_in : MS :=
 (sSeq (sIf (tE (eOp2 eqO (eSlot 1) (eC (.str "tick")))) (sRet (eTup (aCons (eC (.str "tick")) aNil))) sNext)
 (sSeq (sAsg (eFrz (aSplit (eSlot 1) (eC (.str " ")))) (gName 2))
 (sSeq (sAsg (eDictOf (eFrz (aComp (iItm [("read", "reads"), ("write", "writes"), ("up", "up"), ("down", "down"), ("leave", "leaves"), ("stop", "stops")]) (.tup [4, 7]) (fun _ h => .ok true h) (eTup (aCons (eSlot 7) (aCons (eSlot 4) aNil))) [4, 7]))) (gName 3))
 (sSeq (sIf (tOr (tE (eOp2 ltO (eOpN lenO (aCons (eSlot 2) aNil)) (eC (.int 2)))) (tE (eOp2 (inKO true) (eOp2 ixA (eSlot 2) (eC (.int 1))) (eSlot 3)))) (sRet (eC .non)) sNext)
 (sSeq (sAsg (eOp2 ixA (eSlot 3) (eOp2 ixA (eSlot 2) (eC (.int 1)))) (gName 4))
 (sSeq (sAsg (eCall F_number_in (aCons (eOp2 ixA (eSlot 2) (eC (.int 0))) (aCons (eC (.int 1)) aNil))) (gName 5))
 (sSeq (sAsg (eTup (aCons (eSlot 4) (aCons (eSlot 5) aNil))) (gName 6))
 (sSeq (sIf (tE (eOp2 (inO false) (eSlot 4) (eTup (aCons (eC (.str "read")) (aCons (eC (.str "write")) aNil))))) (sAsg (eCall F_ask_in (aCons (eSlot 4) (aCons (eSlot 5) (aCons (eSlice (eSlot 2) (oSome (eC (.int 2))) oNone) aNil)))) (gName 6)) (sIf (tE (eOp2 gtO (eOpN lenO (aCons (eSlot 2) aNil)) (eC (.int 2)))) (sRet (eC .non)) sNext))
 (sSeq (sIf (tNot (tE (eCall F_is_deed (aCons (eSlot 0) (aCons (eSlot 6) aNil))))) (sRet (eC .non)) sNext)
 (sRet (eSlot 6)))))))))))
noncomputable def F_deed_in : MF := frzF (runF 2 N_deed_in b_deed_in)
abbrev s_read_row : Stmt := topS 19
abbrev N_read_row : List Str := ["n", "text", "found", "number", "line", "deed"]
theorem sc_read_row : FnScope N_read_row ["n", "text"] (defScope s_read_row) := ⟨rfl, rfl, rfl, by decide +kernel, rfl, by decide +kernel, by decide +kernel⟩
noncomputable def L_read_row_0 : MS :=
 (sSeq (sAsg (eCall F_deed_in (aCons (eSlot 0) (aCons (eSlot 4) aNil))) (gName 5))
 (sSeq (sIf (tE (eOp2 (isNO false) (eSlot 5) (eC .non))) (sRaise (mkI "NoText" "row" "nothing is written in row " (eSlot 3))) sNext)
 (sDrop (eMeth isL appendO (eSlot 2) (aCons (eSlot 5) aNil)))))
noncomputable def b_read_row : MS :=
 (sSeq (sIf (tNot (tE (eOpN isiO (aCons (eSlot 1) (aCons (eC (.glb (.ty "str"))) aNil))))) (sRaise (mkI "NoText" "row" "nothing is written in row " (eC .non))) sNext)
 (sSeq (sIf (tE (eOp2 eqO (eSlot 1) (eC (.str "")))) (sRet (eTup aNil)) sNext)
 (sSeq (sAsg (eNew aNil) (gName 2))
 (sSeq (sFor (iA enm (aCons (eFrz (aSplit (eSlot 1) (eC (.str "\n")))) aNil)) (.tup [3, 4]) L_read_row_0)
 (sRet (eOpN tupleO (aCons (eSlot 2) aNil)))))))
noncomputable def F_read_row : MF := frzF (runF 2 N_read_row b_read_row)
abbrev s__law_cell_at : Stmt := topS 21
abbrev N__law_cell_at : List Str := ["_law_script", "_law_k"]
theorem sc__law_cell_at : FnScope N__law_cell_at ["_law_script", "_law_k"] (defScope s__law_cell_at) := ⟨rfl, rfl, rfl, by decide +kernel, rfl, by decide +kernel, by decide +kernel⟩
noncomputable def b__law_cell_at : MS :=
 (sSeq (sIf (tE (eOp2 ltO (eSlot 1) (eOpN lenO (aCons (eSlot 0) aNil)))) (sRet (eOp2 ixA (eSlot 0) (eSlot 1))) sNext)
 (sRet (eC (.int 0))))
noncomputable def F__law_cell_at : MF := runF 2 N__law_cell_at b__law_cell_at
abbrev s__law_far : Stmt := topS 23
abbrev N__law_far : List Str := ["_law_far_here", "_law_k"]
theorem sc__law_far : FnScope N__law_far [] (defScope s__law_far) := ⟨rfl, rfl, rfl, by decide +kernel, rfl, by decide +kernel, by decide +kernel⟩
noncomputable def L__law_far_0 : MS :=
 (sAsg (eOp2 mulC (eSlot 0) (eOp2 powO (eC (.int 10)) (eC (.int 60)))) (gName 0))
noncomputable def b__law_far : MS :=
 (sSeq (sAsg (eC (.int 1)) (gName 0))
 (sSeq (sFor (iA rng1 (aCons (eC (.int 10)) aNil)) (.name 1) L__law_far_0)
 (sRet (eSlot 0))))
noncomputable def F__law_far : MF := runF 0 N__law_far b__law_far
abbrev s__law_left : Stmt := topS 22
abbrev N__law_left : List Str := ["_law_script", "_law_k", "_law_cell", "_law_seed"]
theorem sc__law_left : FnScope N__law_left ["_law_script", "_law_k"] (defScope s__law_left) := ⟨rfl, rfl, rfl, by decide +kernel, rfl, by decide +kernel, by decide +kernel⟩
noncomputable def b__law_left : MS :=
 (sSeq (sAsg (eCall F__law_cell_at (aCons (eSlot 0) (aCons (eOp2 modO (eSlot 1) (eOpN max2O (aCons (eC (.int 1)) (aCons (eOpN lenO (aCons (eSlot 0) aNil)) aNil)))) aNil))) (gName 2))
 (sSeq (sAsg (eOp2 modO (eOp2 mulC (eOp2 addO (eOp2 addO (eOp2 modO (eSlot 2) (eC (.int 2147483629))) (eOp2 mulC (eOp2 mulC (eC (.int 7919)) (eSlot 1)) (eSlot 1))) (eC (.int 11))) (eC (.int 48271))) (eC (.int 2147483647))) (gName 3))
 (sSeq (sAsg (eOp2 modO (eOp2 addO (eOp2 addO (eOp2 mulC (eSlot 3) (eC (.int 39373))) (eOp2 mulC (eC (.int 7)) (eSlot 1))) (eC (.int 1))) (eC (.int 2147483629))) (gName 3))
 (sSeq (sIf (tE (eOp2 ltO (eSlot 2) (eOp2 powO (eC (.int 10)) (eC (.int 18))))) (sAsg (eC (.int 0)) (gName 2)) sNext)
 (sRet (eNew (aCons (eOp2 modO (eSlot 2) (eCall F__law_far aNil)) (aCons (eSlot 3) (aCons (eC (.int 0)) aNil)))))))))
noncomputable def F__law_left : MF := runF 2 N__law_left b__law_left
abbrev s__law_pick : Stmt := topS 24
abbrev N__law_pick : List Str := ["_law_left_here", "_law_many", "_law_digit"]
theorem sc__law_pick : FnScope N__law_pick ["_law_left_here", "_law_many"] (defScope s__law_pick) := ⟨rfl, rfl, rfl, by decide +kernel, rfl, by decide +kernel, by decide +kernel⟩
noncomputable def b__law_pick : MS :=
 (sSeq (sIf (tE (eOp2 gtO (eOp2 ixA (eSlot 0) (eC (.int 0))) (eC (.int 0)))) (sSeq (sAsg (eOp2 modO (eOp2 ixA (eSlot 0) (eC (.int 0))) (eSlot 1)) (gName 2))
 (sSeq (sAsg (eOp2 fdivO (eOp2 ixA (eSlot 0) (eC (.int 0))) (eSlot 1)) (gSubD (eSlot 0) (eC (.int 0)) setO))
 (sRet (eSlot 2)))) sNext)
 (sSeq (sAsg (eOp2 addO (eOp2 ixA (eSlot 0) (eC (.int 2))) (eC (.int 1))) (gSubD (eSlot 0) (eC (.int 2)) setO))
 (sSeq (sAsg (eOp2 modO (eOp2 addO (eOp2 addO (eOp2 mulC (eOp2 ixA (eSlot 0) (eC (.int 1))) (eC (.int 48271))) (eC (.int 12345))) (eOp2 mulC (eC (.int 7)) (eOp2 ixA (eSlot 0) (eC (.int 2))))) (eC (.int 2147483647))) (gSubD (eSlot 0) (eC (.int 1)) setO))
 (sRet (eOp2 modO (eOp2 fdivO (eOp2 modO (eOp2 mulC (eOp2 ixA (eSlot 0) (eC (.int 1))) (eOp2 ixA (eSlot 0) (eC (.int 1)))) (eC (.int 1999999973))) (eC (.int 64))) (eSlot 1))))))
noncomputable def F__law_pick : MF := runF 2 N__law_pick b__law_pick
abbrev s__law_deed : Stmt := topS 25
abbrev N__law_deed : List Str := ["_law_left_here", "_law_n", "_law_guest", "_law_way"]
theorem sc__law_deed : FnScope N__law_deed ["_law_left_here", "_law_n"] (defScope s__law_deed) := ⟨rfl, rfl, rfl, by decide +kernel, rfl, by decide +kernel, by decide +kernel⟩
noncomputable def b__law_deed : MS :=
 (sSeq (sAsg (eCall F__law_pick (aCons (eSlot 0) (aCons (eSlot 1) aNil))) (gName 2))
 (sSeq (sAsg (eCall F__law_pick (aCons (eSlot 0) (aCons (eC (.int 12)) aNil))) (gName 3))
 (sSeq (sIf (tE (eOp2 ltO (eSlot 3) (eC (.int 6)))) (sRet (eTup (aCons (eOp2 ixA (eFrz (aCons (eC (.str "read")) (aCons (eC (.str "write")) aNil))) (eOp2 modO (eSlot 3) (eC (.int 2)))) (aCons (eSlot 2) (aCons (eOp2 ixA (eFrz (aCons (eC .non) (aCons (eC .non) (aCons (eC .non) (aCons (eC (.int 0)) (aCons (eC (.int 1)) (aCons (eC (.int 9)) aNil))))))) (eCall F__law_pick (aCons (eSlot 0) (aCons (eC (.int 6)) aNil)))) aNil))))) sNext)
 (sSeq (sIf (tE (eOp2 eqO (eSlot 3) (eC (.int 11)))) (sRet (eTup (aCons (eC (.str "tick")) aNil))) sNext)
 (sRet (eTup (aCons (eOp2 ixA (eFrz (aCons (eC (.str "up")) (aCons (eC (.str "down")) (aCons (eC (.str "leave")) (aCons (eC (.str "leave")) (aCons (eC (.str "stop")) aNil)))))) (eOp2 subO (eSlot 3) (eC (.int 6)))) (aCons (eSlot 2) aNil))))))))
noncomputable def F__law_deed : MF := dropF (runF 2 N__law_deed b__law_deed)
abbrev s__law_same : Stmt := topS 26
abbrev N__law_same : List Str := ["_law_found", "_law_due", "_law_keys", "_law_key", "_law_one", "_law_other"]
theorem sc__law_same : FnScope N__law_same ["_law_found", "_law_due"] (defScope s__law_same) := ⟨rfl, rfl, rfl, by decide +kernel, rfl, by decide +kernel, by decide +kernel⟩
noncomputable def b__law_same (F__law_same : MF) : MS :=
 (sSeq (sIf (tE (eOpN isiO (aCons (eSlot 1) (aCons (eC (.glb (.ty "dict"))) aNil)))) (sSeq (sIf (tOr (tNot (tE (eOpN isiO (aCons (eSlot 0) (aCons (eC (.glb (.ty "dict"))) aNil))))) (tE (eOp2 neO (eOpN lenO (aCons (eSlot 0) aNil)) (eOpN lenO (aCons (eSlot 1) aNil))))) (sRet (eC (.bl false))) sNext)
 (sSeq (sAsg (eDictOf (eFrz (aComp (iOf (eSlot 0)) (.name 3) (fun _ h => .ok true h) (eTup (aCons (eSlot 3) (aCons (eSlot 3) aNil))) [3]))) (gName 2))
 (sRet (eOpN allO (aCons (eFrz (aComp (iOf (eSlot 1)) (.name 3) (fun _ h => .ok true h) (eAnd (eOp2 (inO false) (eSlot 3) (eSlot 0)) (eAnd (eCall F__law_same (aCons (eOp2 ixA (eSlot 2) (eSlot 3)) (aCons (eSlot 3) aNil))) (eCall F__law_same (aCons (eOp2 ixA (eSlot 0) (eSlot 3)) (aCons (eOp2 ixA (eSlot 1) (eSlot 3)) aNil))))) [3])) aNil))))) sNext)
 (sSeq (sIf (tOr (tE (eOpN isiO (aCons (eSlot 1) (aCons (eC (.glb (.ty "list"))) aNil)))) (tE (eOpN isiO (aCons (eSlot 1) (aCons (eC (.glb (.ty "tuple"))) aNil))))) (sSeq (sIf (tOr (tE (eOp2 neO (eOpN isiO (aCons (eSlot 0) (aCons (eC (.glb (.ty "list"))) aNil))) (eOpN isiO (aCons (eSlot 1) (aCons (eC (.glb (.ty "list"))) aNil))))) (tE (eOp2 neO (eOpN isiO (aCons (eSlot 0) (aCons (eC (.glb (.ty "tuple"))) aNil))) (eOpN isiO (aCons (eSlot 1) (aCons (eC (.glb (.ty "tuple"))) aNil)))))) (sRet (eC (.bl false))) sNext)
 (sRet (eAnd (eOp2 eqO (eOpN lenO (aCons (eSlot 0) aNil)) (eOpN lenO (aCons (eSlot 1) aNil))) (eOpN allO (aCons (eFrz (aComp (iA zp (aCons (eSlot 0) (aCons (eSlot 1) aNil))) (.tup [4, 5]) (fun _ h => .ok true h) (eCall F__law_same (aCons (eSlot 4) (aCons (eSlot 5) aNil))) [4, 5])) aNil))))) sNext)
 (sSeq (sIf (tE (eOp2 (isNO false) (eSlot 1) (eC .non))) (sRet (eOp2 (isNO false) (eSlot 0) (eC .non))) sNext)
 (sSeq (sIf (tE (eOpN isiO (aCons (eSlot 1) (aCons (eC (.glb (.ty "str"))) aNil)))) (sRet (eAnd (eOpN isiO (aCons (eSlot 0) (aCons (eC (.glb (.ty "str"))) aNil))) (eOp2 eqO (eSlot 0) (eSlot 1)))) sNext)
 (sSeq (sIf (tOr (tE (eOpN isiO (aCons (eSlot 1) (aCons (eC (.glb (.ty "bool"))) aNil)))) (tE (eOpN isiO (aCons (eSlot 0) (aCons (eC (.glb (.ty "bool"))) aNil))))) (sRet (eAnd (eOpN isiO (aCons (eSlot 0) (aCons (eC (.glb (.ty "bool"))) aNil))) (eAnd (eOpN isiO (aCons (eSlot 1) (aCons (eC (.glb (.ty "bool"))) aNil))) (eOp2 eqO (eSlot 0) (eSlot 1))))) sNext)
 (sRet (eAnd (eOpN isiO (aCons (eSlot 0) (aCons (eC (.glb (.ty "int"))) aNil))) (eOp2 eqO (eSlot 0) (eSlot 1)))))))))
noncomputable def R__law_same : Nat → MF
  | 0 => fun _ _ => .stuck
  | n + 1 => runF 2 N__law_same (b__law_same (R__law_same n))
noncomputable def F__law_same : MF := R__law_same 10
abbrev s__law_deed_text : Stmt := topS 27
abbrev N__law_deed_text : List Str := ["_law_deed_here", "_law_words", "_law_text", "_law_rest"]
theorem sc__law_deed_text : FnScope N__law_deed_text ["_law_deed_here"] (defScope s__law_deed_text) := ⟨rfl, rfl, rfl, by decide +kernel, rfl, by decide +kernel, by decide +kernel⟩
noncomputable def b__law_deed_text : MS :=
 (sSeq (sIf (tE (eOp2 eqO (eSlot 0) (eTup (aCons (eC (.str "tick")) aNil)))) (sRet (eC (.str "tick"))) sNext)
 (sSeq (sAsg (eDisp (((eC (.str "read")), (eC (.str "reads"))) :: (((eC (.str "write")), (eC (.str "writes"))) :: (((eC (.str "leave")), (eC (.str "leaves"))) :: (((eC (.str "stop")), (eC (.str "stops"))) :: []))))) (gName 1))
 (sSeq (sAsg (eOp2 addO (eOp2 addO (eOpN str1O (aCons (eOp2 ixA (eSlot 0) (eC (.int 1))) aNil)) (eC (.str " "))) (eDGet2 (eSlot 1) (eOp2 ixA (eSlot 0) (eC (.int 0))) (eOp2 ixA (eSlot 0) (eC (.int 0))))) (gName 2))
 (sRet (eOp2 addO (eSlot 2) (eJoin (eC (.str "")) (eFrz (aComp (iOf (eSlice (eSlot 0) (oSome (eC (.int 2))) oNone)) (.name 3) (tE (eOp2 (isNO true) (eSlot 3) (eC .non))) (eOp2 addO (eC (.str " ")) (eOpN str1O (aCons (eSlot 3) aNil))) [3]))))))))
noncomputable def F__law_deed_text : MF := frzF (runF 1 N__law_deed_text b__law_deed_text)
abbrev s__law_deeds : Stmt := topS 28
abbrev N__law_deeds : List Str := ["_law_n", "_law_found", "_law_guest", "_law_word", "_law_rest"]
theorem sc__law_deeds : FnScope N__law_deeds ["_law_n"] (defScope s__law_deeds) := ⟨rfl, rfl, rfl, by decide +kernel, rfl, by decide +kernel, by decide +kernel⟩
noncomputable def L__law_deeds_0 : MS :=
 (sAsg (eTup (aCons (eSlot 3) (aCons (eSlot 2) aNil))) (gSubD (eSlot 1) (eCall F__law_deed_text (aCons (eTup (aCons (eSlot 3) (aCons (eSlot 2) aNil))) aNil)) setDO))
noncomputable def L__law_deeds_1 : MS :=
 (sAsg (eTup (aCons (eSlot 3) (aCons (eSlot 2) (aCons (eSlot 4) aNil)))) (gSubD (eSlot 1) (eCall F__law_deed_text (aCons (eTup (aCons (eSlot 3) (aCons (eSlot 2) (aCons (eSlot 4) aNil)))) aNil)) setDO))
noncomputable def L__law_deeds_2 : MS :=
 (sFor (iOf (eTup (aCons (eC (.str "read")) (aCons (eC (.str "write")) aNil)))) (.name 3) L__law_deeds_1)
noncomputable def L__law_deeds_3 : MS :=
 (sSeq (sFor (iOf (eTup (aCons (eC (.str "up")) (aCons (eC (.str "down")) (aCons (eC (.str "leave")) (aCons (eC (.str "stop")) aNil)))))) (.name 3) L__law_deeds_0)
 (sFor (iOf (eOp2 addO (eFrz (aCons (eC .non) aNil)) (eFrz (aRg (eC (.int 10)))))) (.name 4) L__law_deeds_2))
noncomputable def b__law_deeds : MS :=
 (sSeq (sAsg (eDisp (((eC (.str "tick")), (eTup (aCons (eC (.str "tick")) aNil))) :: [])) (gName 1))
 (sSeq (sFor (iA rng1 (aCons (eSlot 0) aNil)) (.name 2) L__law_deeds_3)
 (sRet (eSlot 1))))
noncomputable def F__law_deeds : MF := runF 1 N__law_deeds b__law_deeds
abbrev s__law_read : Stmt := topS 29
abbrev N__law_read : List Str := ["_law_n", "_law_thing", "_law_caught", "_law_found", "e"]
theorem sc__law_read : FnScope N__law_read ["_law_n", "_law_thing"] (defScope s__law_read) := ⟨rfl, rfl, rfl, by decide +kernel, rfl, by decide +kernel, by decide +kernel⟩
noncomputable def b__law_read : MS :=
 (sSeq (sAsg (eC .non) (gName 2))
 (sSeq (sAsg (eC .non) (gName 3))
 (sSeq (sNote ["GuestError", "NoDeed", "NoText", "TooMany", "NoLine"] "GuestError" 4 2 (sAsg (eCall F_read_row (aCons (eSlot 0) (aCons (eSlot 1) aNil))) (gName 3)))
 (sSeq (sIf (tE (eOp2 (isNO false) (eSlot 2) (eC .non))) (sRet (eSlot 3)) sNext)
 (sSeq (sIf (tOr (tNot (tE (eXis ["GuestError", "NoDeed", "NoText", "TooMany", "NoLine"] ["NoText"] (eSlot 2)))) (tE (eXis ["GuestError", "NoDeed", "NoText", "TooMany", "NoLine"] ["NoDeed", "NoLine", "TooMany"] (eSlot 2)))) (sRet (eTup (aCons (eC (.str "*")) (aCons (eC (.str "other")) aNil)))) sNext)
 (sRet (eIf (tE (eXis ["GuestError", "NoDeed", "NoText", "TooMany", "NoLine"] ["ValueError"] (eSlot 2))) (eTup (aCons (eC (.str "*")) (aCons (eXfld "row" ["NoText"] (eSlot 2)) aNil))) (eTup (aCons (eC (.str "*")) (aCons (eC (.str "other")) aNil))))))))))
noncomputable def F__law_read : MF := frzF (runF 2 N__law_read b__law_read)
abbrev s__law_spoilt : Stmt := topS 30
abbrev N__law_spoilt : List Str := ["_law_left_here", "_law_line", "_law_words", "_law_at", "_law_spot", "_law_sign", "_law_other", "_law_some"]
theorem sc__law_spoilt : FnScope N__law_spoilt ["_law_left_here", "_law_line"] (defScope s__law_spoilt) := ⟨rfl, rfl, rfl, by decide +kernel, rfl, by decide +kernel, by decide +kernel⟩
noncomputable def b__law_spoilt : MS :=
 (sSeq (sAsg (eFrz (aSplit (eSlot 1) (eC (.str " ")))) (gName 2))
 (sSeq (sPar 3 4 (aCons (eCall F__law_pick (aCons (eSlot 0) (aCons (eOp2 addO (eOpN lenO (aCons (eSlot 1) aNil)) (eC (.int 1))) aNil))) (aCons (eCall F__law_pick (aCons (eSlot 0) (aCons (eOpN lenO (aCons (eSlot 2) aNil)) aNil))) aNil)))
 (sSeq (sAsg (eOp2 ixA (eFrz (aChs (eC (.str "0123459 -aks")))) (eCall F__law_pick (aCons (eSlot 0) (aCons (eC (.int 12)) aNil)))) (gName 5))
 (sSeq (sAsg (eFrz (aCons (eC (.str "tick")) (aCons (eC (.str "0")) (aCons (eC (.str "5")) (aCons (eC (.str "9")) (aCons (eC (.str "10")) (aCons (eC (.str "-1")) (aCons (eC (.str "00")) (aCons (eC (.str "reads")) (aCons (eC (.str "writes")) (aCons (eC (.str "up")) (aCons (eC (.str "stops")) (aCons (eC (.str "leave")) (aCons (eC (.str "")) aNil)))))))))))))) (gName 6))
 (sSeq (sAsg (eOp2 ixA (eSlot 6) (eCall F__law_pick (aCons (eSlot 0) (aCons (eC (.int 13)) aNil)))) (gName 6))
 (sSeq (sAsg (eFrz (aCons (eOp2 addO (eSlice (eSlot 1) oNone (oSome (eSlot 3))) (eSlice (eSlot 1) (oSome (eOp2 addO (eSlot 3) (eC (.int 1)))) oNone)) (aCons (eOp2 addO (eOp2 addO (eSlice (eSlot 1) oNone (oSome (eSlot 3))) (eSlot 5)) (eSlice (eSlot 1) (oSome (eSlot 3)) oNone)) (aCons (eOp2 addO (eOp2 addO (eSlice (eSlot 1) oNone (oSome (eSlot 3))) (eSlot 5)) (eSlice (eSlot 1) (oSome (eOp2 addO (eSlot 3) (eC (.int 1)))) oNone)) (aCons (eC (.str "")) aNil))))) (gName 7))
 (sSeq (sAsg (eOp2 addO (eSlot 7) (eFrz (aCons (eJoin (eC (.str " ")) (eOp2 addO (eOp2 addO (eSlice (eSlot 2) oNone (oSome (eSlot 4))) (eFrz (aCons (eSlot 6) aNil))) (eSlice (eSlot 2) (oSome (eOp2 addO (eSlot 4) (eC (.int 1)))) oNone))) (aCons (eOp2 addO (eOp2 addO (eSlot 1) (eC (.str " "))) (eSlot 6)) (aCons (eOp2 addO (eC (.str " ")) (eSlot 1)) (aCons (eOp2 addO (eSlot 1) (eC (.str " "))) aNil)))))) (gName 7))
 (sRet (eOp2 ixA (eOp2 addO (eSlot 7) (eFrz (aCons (eUpper (eSlot 1)) (aCons (eJoin (eC (.str " ")) (eRev (eSlot 2))) (aCons (eSlot 6) aNil))))) (eCall F__law_pick (aCons (eSlot 0) (aCons (eC (.int 11)) aNil))))))))))))
noncomputable def F__law_spoilt : MF := runF 2 N__law_spoilt b__law_spoilt
abbrev s_law : Stmt := topS 31
abbrev N_law : List Str := ["_law_script", "_law_k", "_law_left_here", "_law_n", "_law_texts", "_law_lines", "_law_turn", "_law_made", "_law_change", "_law_at", "_law_bad", "_law_due", "_law_thing", "_law_line"]
theorem sc_law : FnScope N_law ["_law_script"] (defScope s_law) := ⟨rfl, rfl, rfl, by decide +kernel, rfl, by decide +kernel, by decide +kernel⟩
noncomputable def L_law_0 : MS :=
 (sSeq (sAsg (eCall F__law_pick (aCons (eSlot 2) (aCons (eOpN lenO (aCons (eSlot 7) aNil)) aNil))) (gName 9))
 (sAsg (eCall F__law_spoilt (aCons (eSlot 2) (aCons (eOp2 ixA (eSlot 7) (eSlot 9)) aNil))) (gSubD (eSlot 7) (eSlot 9) setO)))
noncomputable def L_law_1 : MS :=
 (sSeq (sAsg (eNew (aSeq (eSlot 5))) (gName 7))
 (sSeq (sFor (iA rng1 (aCons (eOp2 addO (eC (.int 1)) (eCall F__law_pick (aCons (eSlot 2) (aCons (eC (.int 3)) aNil)))) aNil)) (.name 8) L_law_0)
 (sSeq (sAsg (eFrz (aComp (iA enm (aCons (eSlot 7) aNil)) (.tup [9, 13]) (tE (eOp2 (inKO true) (eSlot 13) (eSlot 4))) (eSlot 9) [9, 13])) (gName 10))
 (sSeq (sAsg (eOpN tupleO (aCons (eFrz (aComp (iOf (eSlot 7)) (.name 13) (fun _ h => .ok true h) (eDGet1 (eSlot 4) (eSlot 13)) [13])) aNil)) (gName 11))
 (sSeq (sIf (tE (eOp2 neO (eSlot 10) (eFrz aNil))) (sAsg (eTup (aCons (eC (.str "*")) (aCons (eOp2 ixA (eSlot 10) (eC (.int 0))) aNil))) (gName 11)) sNext)
 (sSeq (sIf (tE (eOp2 eqO (eSlot 7) (eFrz (aCons (eC (.str "")) aNil)))) (sAsg (eTup aNil) (gName 11)) sNext)
 (sIf (tNot (tE (eCall F__law_same (aCons (eCall F__law_read (aCons (eSlot 3) (aCons (eJoin (eC (.str "\n")) (eSlot 7)) aNil))) (aCons (eSlot 11) aNil))))) (sRet (eC (.bl false))) sNext)))))))
noncomputable def L_law_2 : MS :=
 (sSeq (sAsg (eCall F__law_left (aCons (eSlot 0) (aCons (eSlot 1) aNil))) (gName 2))
 (sSeq (sAsg (eOp2 addO (eC (.int 1)) (eCall F__law_pick (aCons (eSlot 2) (aCons (eC (.int 5)) aNil)))) (gName 3))
 (sSeq (sAsg (eCall F__law_deeds (aCons (eSlot 3) aNil)) (gName 4))
 (sSeq (sAsg (eFrz (aComp (iA rng1 (aCons (eOp2 addO (eC (.int 1)) (eCall F__law_pick (aCons (eSlot 2) (aCons (eC (.int 12)) aNil)))) aNil)) (.name 6) (fun _ h => .ok true h) (eCall F__law_deed_text (aCons (eCall F__law_deed (aCons (eSlot 2) (aCons (eSlot 3) aNil))) aNil)) [6])) (gName 5))
 (sFor (iA rng1 (aCons (eC (.int 4)) aNil)) (.name 6) L_law_1)))))
noncomputable def L_law_3 : MS :=
 (sIf (tE (eOp2 neO (eCall F__law_read (aCons (eC (.int 2)) (aCons (eSlot 12) aNil))) (eTup (aCons (eC (.str "*")) (aCons (eC .non) aNil))))) (sRet (eC (.bl false))) sNext)
noncomputable def b_law : MS :=
 (sSeq (sFor (iA rng1 (aCons (eOp2 addO (eC (.int 2)) (eOpN min2O (aCons (eC (.int 8)) (aCons (eOpN lenO (aCons (eSlot 0) aNil)) aNil)))) aNil)) (.name 1) L_law_2)
 (sSeq (sFor (iOf (eTup (aCons (eC .non) (aCons (eC (.int 7)) (aCons (eC (.bl false)) (aCons (eTup aNil) (aCons (eFrz (aCons (eC (.str "tick")) aNil)) (aCons (eTup (aCons (eC (.str "tick")) aNil)) (aCons (eDict0) aNil))))))))) (.name 12) L_law_3)
 (sRet (eC (.bl true)))))
noncomputable def F_law : MF := runF 1 N_law b_law
abbrev s_NoDeed___init__ : Stmt := inClass (topS 4) 0
abbrev s_NoText___init__ : Stmt := inClass (topS 5) 0
theorem sc_NoText___init__ : FnScope ["self", "row"] ["self", "row"] (defScope s_NoText___init__) := ⟨rfl, rfl, rfl, by decide +kernel, rfl, by decide +kernel, by decide +kernel⟩
structure Txt (P : Program) (w : World) (K : PySem.W.Frag) (mg : Str → Option Value) where
  e_GuestError : Xc K mg "GuestError"
  e_NoDeed : Xc K mg "NoDeed"
  e_NoText : Xc K mg "NoText"
  e_TooMany : Xc K mg "TooMany"
  e_NoLine : Xc K mg "NoLine"
  i_NoDeed : Xi K e_NoDeed.C "self" "place" "NoDeed.__init__" s_NoDeed___init__
  i_NoText : Xi K e_NoText.C "self" "row" "NoText.__init__" s_NoText___init__
  q_GuestError : Xp K e_GuestError.C
  q_TooMany : Xp K e_TooMany.C
  q_NoLine : Xp K e_NoLine.C
  b_GuestError : Xb K e_GuestError.C
  s_GuestError_GuestError : PySem.W.subIn K (.ref e_GuestError.C) (.ref e_GuestError.C) = some true
  s_GuestError_NoDeed : PySem.W.subIn K (.ref e_GuestError.C) (.ref e_NoDeed.C) = some false
  d_GuestError_NoDeed : e_GuestError.C ≠ e_NoDeed.C
  s_GuestError_NoLine : PySem.W.subIn K (.ref e_GuestError.C) (.ref e_NoLine.C) = some false
  d_GuestError_NoLine : e_GuestError.C ≠ e_NoLine.C
  s_GuestError_NoText : PySem.W.subIn K (.ref e_GuestError.C) (.ref e_NoText.C) = some false
  d_GuestError_NoText : e_GuestError.C ≠ e_NoText.C
  s_GuestError_TooMany : PySem.W.subIn K (.ref e_GuestError.C) (.ref e_TooMany.C) = some false
  d_GuestError_TooMany : e_GuestError.C ≠ e_TooMany.C
  s_GuestError_ValueError : PySem.W.subIn K (.ref e_GuestError.C) (.type "ValueError") = some true
  s_NoDeed_GuestError : PySem.W.subIn K (.ref e_NoDeed.C) (.ref e_GuestError.C) = some true
  s_NoDeed_NoDeed : PySem.W.subIn K (.ref e_NoDeed.C) (.ref e_NoDeed.C) = some true
  s_NoDeed_NoLine : PySem.W.subIn K (.ref e_NoDeed.C) (.ref e_NoLine.C) = some false
  d_NoDeed_NoLine : e_NoDeed.C ≠ e_NoLine.C
  s_NoDeed_NoText : PySem.W.subIn K (.ref e_NoDeed.C) (.ref e_NoText.C) = some false
  d_NoDeed_NoText : e_NoDeed.C ≠ e_NoText.C
  s_NoDeed_TooMany : PySem.W.subIn K (.ref e_NoDeed.C) (.ref e_TooMany.C) = some false
  d_NoDeed_TooMany : e_NoDeed.C ≠ e_TooMany.C
  s_NoDeed_ValueError : PySem.W.subIn K (.ref e_NoDeed.C) (.type "ValueError") = some true
  s_NoLine_GuestError : PySem.W.subIn K (.ref e_NoLine.C) (.ref e_GuestError.C) = some true
  s_NoLine_NoDeed : PySem.W.subIn K (.ref e_NoLine.C) (.ref e_NoDeed.C) = some false
  d_NoLine_NoDeed : e_NoLine.C ≠ e_NoDeed.C
  s_NoLine_NoLine : PySem.W.subIn K (.ref e_NoLine.C) (.ref e_NoLine.C) = some true
  s_NoLine_NoText : PySem.W.subIn K (.ref e_NoLine.C) (.ref e_NoText.C) = some false
  d_NoLine_NoText : e_NoLine.C ≠ e_NoText.C
  s_NoLine_TooMany : PySem.W.subIn K (.ref e_NoLine.C) (.ref e_TooMany.C) = some false
  d_NoLine_TooMany : e_NoLine.C ≠ e_TooMany.C
  s_NoLine_ValueError : PySem.W.subIn K (.ref e_NoLine.C) (.type "ValueError") = some true
  s_NoText_GuestError : PySem.W.subIn K (.ref e_NoText.C) (.ref e_GuestError.C) = some true
  s_NoText_NoDeed : PySem.W.subIn K (.ref e_NoText.C) (.ref e_NoDeed.C) = some false
  d_NoText_NoDeed : e_NoText.C ≠ e_NoDeed.C
  s_NoText_NoLine : PySem.W.subIn K (.ref e_NoText.C) (.ref e_NoLine.C) = some false
  d_NoText_NoLine : e_NoText.C ≠ e_NoLine.C
  s_NoText_NoText : PySem.W.subIn K (.ref e_NoText.C) (.ref e_NoText.C) = some true
  s_NoText_TooMany : PySem.W.subIn K (.ref e_NoText.C) (.ref e_TooMany.C) = some false
  d_NoText_TooMany : e_NoText.C ≠ e_TooMany.C
  s_NoText_ValueError : PySem.W.subIn K (.ref e_NoText.C) (.type "ValueError") = some true
  s_TooMany_GuestError : PySem.W.subIn K (.ref e_TooMany.C) (.ref e_GuestError.C) = some true
  s_TooMany_NoDeed : PySem.W.subIn K (.ref e_TooMany.C) (.ref e_NoDeed.C) = some false
  d_TooMany_NoDeed : e_TooMany.C ≠ e_NoDeed.C
  s_TooMany_NoLine : PySem.W.subIn K (.ref e_TooMany.C) (.ref e_NoLine.C) = some false
  d_TooMany_NoLine : e_TooMany.C ≠ e_NoLine.C
  s_TooMany_NoText : PySem.W.subIn K (.ref e_TooMany.C) (.ref e_NoText.C) = some false
  d_TooMany_NoText : e_TooMany.C ≠ e_NoText.C
  s_TooMany_TooMany : PySem.W.subIn K (.ref e_TooMany.C) (.ref e_TooMany.C) = some true
  s_TooMany_ValueError : PySem.W.subIn K (.ref e_TooMany.C) (.type "ValueError") = some true
  p_is_between : Fd K mg "is_between" s_is_between ["thing", "low", "high"]
  p_is_deed : Fd K mg "is_deed" s_is_deed ["n", "thing"]
  p_number_in : Fd K mg "number_in" s_number_in ["word", "most"]
  p_ask_in : Fd K mg "ask_in" s_ask_in ["word", "guest", "words"]
  p_deed_in : Fd K mg "deed_in" s_deed_in ["n", "line"]
  p_read_row : Fd K mg "read_row" s_read_row ["n", "text"]
  p__law_cell_at : Fd K mg "_law_cell_at" s__law_cell_at ["_law_script", "_law_k"]
  p__law_far : Fd K mg "_law_far" s__law_far []
  p__law_left : Fd K mg "_law_left" s__law_left ["_law_script", "_law_k"]
  p__law_pick : Fd K mg "_law_pick" s__law_pick ["_law_left_here", "_law_many"]
  p__law_deed : Fd K mg "_law_deed" s__law_deed ["_law_left_here", "_law_n"]
  p__law_same : Fd K mg "_law_same" s__law_same ["_law_found", "_law_due"]
  p__law_deed_text : Fd K mg "_law_deed_text" s__law_deed_text ["_law_deed_here"]
  p__law_deeds : Fd K mg "_law_deeds" s__law_deeds ["_law_n"]
  p__law_read : Fd K mg "_law_read" s__law_read ["_law_n", "_law_thing"]
  p__law_spoilt : Fd K mg "_law_spoilt" s__law_spoilt ["_law_left_here", "_law_line"]
  p_law : Fd K mg "law" s_law ["_law_script"]
  c_ASKS : Cn P w K mg "ASKS" c_ASKS
  c_MOVES : Cn P w K mg "MOVES" c_MOVES
  c_LONGEST_LEFT : Cn P w K mg "LONGEST_LEFT" c_LONGEST_LEFT
  c_FIGURES : Cn P w K mg "FIGURES" c_FIGURES
  a_VERBS : Addr
  c_VERBS : Cn P w K mg "VERBS" (.glb (.ref a_VERBS))
  m_VERBS : KItm K w a_VERBS [("read", "reads"), ("write", "writes"), ("up", "up"), ("down", "down"), ("leave", "leaves"), ("stop", "stops")]
  n_ValueError : mg "ValueError" = none
  n_all : mg "all" = none
  n_bool : mg "bool" = none
  n_dict : mg "dict" = none
  n_enumerate : mg "enumerate" = none
  n_int : mg "int" = none
  n_isinstance : mg "isinstance" = none
  n_len : mg "len" = none
  n_list : mg "list" = none
  n_max : mg "max" = none
  n_min : mg "min" = none
  n_range : mg "range" = none
  n_str : mg "str" = none
  n_tuple : mg "tuple" = none
  n_zip : mg "zip" = none
section
variable {P : Program} {w : World} {K : PySem.W.Frag} {mg : Str → Option Value}
theorem okx_NoText {base : Heap} (T : Txt P w K mg) : FnOk P w K mg base (L2.CX P w) 1 T.i_NoText.fI T.i_NoText.fd ["self", "row"] (spI K "nothing is written in row " "row") :=
  init_ok T.i_NoText.F sc_NoText___init__ fun cdv A outer s H E => pss_cons (ps_expr (pe_ownVe (by rfl) T.e_GuestError.g T.b_GuestError.r T.b_GuestError.k (pa_cons (pe_var rfl (Or.inl rfl)) (pa_cons (pe_joined (.cons pe_str (.cons (pe_fmtN (pe_var rfl (Or.inl rfl))) .nil))) pa_nil)))) (pss_one (ps_ost (pe_var rfl (Or.inl rfl)) (pe_var rfl (Or.inl rfl))))
theorem ok_is_between {base : Heap} (T : Txt P w K mg) : FnD P w K mg base 1 T.p_is_between.f T.p_is_between.fd ["thing", "low", "high"] F_is_between := by
  refine (fn_ok T.p_is_between.F sc_is_between fun cdv A outer s H E hr => ?_).frz
  have nd := sc_is_between.nd
  have hu1 := hu_of hr
  have hu := hr.units
  have hu65 := hu65 hr
  have hp : PassesOwn _ _ _ (cxOf (L2.CX P w) P w K mg base N_is_between "is_between" (defScope s_is_between) T.p_is_between.f cdv A outer s H E).xe := passes_of rfl
  exact (ss_one (ds_ret (de_and (de_callB call_isiA rz_isi (by rfl) T.n_isinstance (by decide +kernel) (dan_cons (de_slot 0) (dan_cons (de_tyN (T := "int") (by rfl) T.n_int (by decide +kernel)) dan_nil)).da) (de_and (de_not (de_callB call_isiA rz_isi (by rfl) T.n_isinstance (by decide +kernel) (dan_cons (de_slot 0) (dan_cons (de_tyN (T := "bool") (by rfl) T.n_bool (by decide +kernel)) dan_nil)).da)) (de_one (de_chain op_le op_le rz_le rz_le (de_slot 1) (de_slot 0) (de_slot 2)))))))
theorem ok_is_deed {base : Heap} (T : Txt P w K mg) : FnD P w K mg base 2 T.p_is_deed.f T.p_is_deed.fd ["n", "thing"] F_is_deed := by
  refine (fn_ok T.p_is_deed.F sc_is_deed fun cdv A outer s H E hr => ?_).frz
  have nd := sc_is_deed.nd
  have hu1 := hu_of hr
  have hu := hr.units
  have hu65 := hu65 hr
  have hp : PassesOwn _ _ _ (cxOf (L2.CX P w) P w K mg base N_is_deed "is_deed" (defScope s_is_deed) T.p_is_deed.f cdv A outer s H E).xe := passes_of rfl
  exact (ss_cons (ds_if (dt_w (dw_or (dt_not (dt_val (de_callB call_isiA rz_isi (by rfl) T.n_isinstance (by decide +kernel) (dan_cons (de_slot 1) (dan_cons (de_tyN (T := "tuple") (by rfl) T.n_tuple (by decide +kernel)) dan_nil)).da))) (dw_or (dt_cmp (op_eqD hu) rz_eq (de_callB call_lenA rz_len (by rfl) T.n_len PySem.boot_len (dan_cons (de_slot 1) dan_nil).da) de_int (nomark _)) (dw_or1 (dt_not (dt_val (de_callB call_isiA rz_isi (by rfl) T.n_isinstance (by decide +kernel) (dan_cons (de_ixA hu1 (de_slot 1) de_int) (dan_cons (de_tyN (T := "str") (by rfl) T.n_str (by decide +kernel)) dan_nil)).da))))))) (ss_one (ds_ret de_bl)) ss_nil)
 (ss_cons (ds_if (dt_cmp (op_eqD hu) rz_eq (de_ixA hu1 (de_slot 1) de_int) de_str (nomark _)) (ss_one (ds_ret (de_cmp (op_eqD hu) rz_eq (de_callB call_lenA rz_len (by rfl) T.n_len PySem.boot_len (dan_cons (de_slot 1) dan_nil).da) de_int (nomark _)))) ss_nil)
 (ss_cons (ds_if (dt_w (dw_or (dt_cmp op_lt rz_lt (de_callB call_lenA rz_len (by rfl) T.n_len PySem.boot_len (dan_cons (de_slot 1) dan_nil).da) de_int (nomark _)) (dw_or1 (dt_not (dt_val (de_call (ok_is_between T) (hr.mono (by decide)) (by rfl) T.p_is_between.g T.p_is_between.F.kp T.p_is_between.b (dan_cons (de_ixA hu1 (de_slot 1) de_int) (dan_cons de_int (dan_cons (de_op op_sub rz_sub (de_slot 0) de_int) dan_nil))))))))) (ss_one (ds_ret de_bl)) ss_nil)
 (ss_cons (ds_if (dt_cmp (op_inDT hu65) (rz_in false) (de_ixA hu1 (de_slot 1) de_int) (de_cn (by rfl) T.c_ASKS) (by rfl)) (ss_one (ds_ret (de_and (de_cmp (op_eqD hu) rz_eq (de_callB call_lenA rz_len (by rfl) T.n_len PySem.boot_len (dan_cons (de_slot 1) dan_nil).da) de_int (nomark _)) (de_one (de_or (de_cmp op_isN rz_isN (de_ixA hu1 (de_slot 1) de_int) de_non (nomark _)) (de_one (de_call (ok_is_between T) (hr.mono (by decide)) (by rfl) T.p_is_between.g T.p_is_between.F.kp T.p_is_between.b (dan_cons (de_ixA hu1 (de_slot 1) de_int) (dan_cons de_int (dan_cons (de_cn (by rfl) T.c_LONGEST_LEFT) dan_nil)))))))))) ss_nil)
 (ss_one (ds_ret (de_and (de_cmp (op_inDT hu65) (rz_in false) (de_ixA hu1 (de_slot 1) de_int) (de_cn (by rfl) T.c_MOVES) (by rfl)) (de_one (de_cmp (op_eqD hu) rz_eq (de_callB call_lenA rz_len (by rfl) T.n_len PySem.boot_len (dan_cons (de_slot 1) dan_nil).da) de_int (nomark _))))))))))
theorem ok_number_in {base : Heap} (T : Txt P w K mg) : FnD P w K mg base 1 T.p_number_in.f T.p_number_in.fd ["word", "most"] F_number_in := by
  refine (fn_ok T.p_number_in.F sc_number_in fun cdv A outer s H E hr => ?_).frz
  have nd := sc_number_in.nd
  have hu1 := hu_of hr
  have hu := hr.units
  have hu65 := hu65 hr
  have hp : PassesOwn _ _ _ (cxOf (L2.CX P w) P w K mg base N_number_in "number_in" (defScope s_number_in) T.p_number_in.f cdv A outer s H E).xe := passes_of rfl
  exact (ss_cons (ds_if (dt_w (dw_or (dt_not (dt_chain op_le op_le rz_le rz_le de_int (de_callB call_lenA rz_len (by rfl) T.n_len PySem.boot_len (dan_cons (de_slot 0) dan_nil).da) (de_slot 1))) (dw_or1 (dt_not (dt_val (de_callB (cr_all rfl) rz_all (by rfl) T.n_all (by decide +kernel) (dan_cons (de_frz (dl_comp (own := [("sign", 2)]) rfl nd (di_seq (de_slot 0)) (blkOk_by (N := N_number_in) (sc := defScope s_number_in) (by decide +kernel)) (fun _ _ _ _ _ => (dtg_name nd)) (fun _ _ _ _ _ => dts_nil) (fun _ _ _ _ _ => (de_cmp op_in_sign rz_inSg (de_slot 2) (de_cn (by rfl) T.c_FIGURES) (by rfl))))) dan_nil).da)))))) (ss_one (ds_ret de_non)) ss_nil)
 (ss_one (ds_ret (de_intT (by rfl) T.n_int (by decide +kernel) (de_slot 0)))))
theorem ok_ask_in {base : Heap} (T : Txt P w K mg) : FnD P w K mg base 2 T.p_ask_in.f T.p_ask_in.fd ["word", "guest", "words"] F_ask_in := by
  refine (fn_ok T.p_ask_in.F sc_ask_in fun cdv A outer s H E hr => ?_)
  have nd := sc_ask_in.nd
  have hu1 := hu_of hr
  have hu := hr.units
  have hu65 := hu65 hr
  have hp : PassesOwn _ _ _ (cxOf (L2.CX P w) P w K mg base N_ask_in "ask_in" (defScope s_ask_in) T.p_ask_in.f cdv A outer s H E).xe := passes_of rfl
  exact (ss_cons (ds_if (dt_cmp (op_eqD hu) rz_eq (de_callB call_lenA rz_len (by rfl) T.n_len PySem.boot_len (dan_cons (de_slot 2) dan_nil).da) de_int (nomark _)) (ss_one (ds_ret (de_tup (dan_cons (de_slot 0) (dan_cons (de_slot 1) (dan_cons de_non dan_nil)))))) ss_nil)
 (ss_cons (ds_if (dt_cmp op_gt rz_gt (de_callB call_lenA rz_len (by rfl) T.n_len PySem.boot_len (dan_cons (de_slot 2) dan_nil).da) de_int (nomark _)) (ss_one (ds_ret de_non)) ss_nil)
 (ss_cons (ds_set nd (de_call (ok_number_in T) (hr.mono (by decide)) (by rfl) T.p_number_in.g T.p_number_in.F.kp T.p_number_in.b (dan_cons (de_ixA hu1 (de_slot 2) de_int) (dan_cons de_int dan_nil))))
 (ss_cons (ds_if (dt_cmp op_isN rz_isN (de_slot 3) de_non (nomark _)) (ss_one (ds_ret de_non)) ss_nil)
 (ss_one (ds_ret (de_tup (dan_cons (de_slot 0) (dan_cons (de_slot 1) (dan_cons (de_slot 3) dan_nil))))))))))
theorem ok_deed_in {base : Heap} (T : Txt P w K mg) : FnD P w K mg base 3 T.p_deed_in.f T.p_deed_in.fd ["n", "line"] F_deed_in := by
  refine (fn_ok T.p_deed_in.F sc_deed_in fun cdv A outer s H E hr => ?_).frz
  have nd := sc_deed_in.nd
  have hu1 := hu_of hr
  have hu := hr.units
  have hu65 := hu65 hr
  have hp : PassesOwn _ _ _ (cxOf (L2.CX P w) P w K mg base N_deed_in "deed_in" (defScope s_deed_in) T.p_deed_in.f cdv A outer s H E).xe := passes_of rfl
  exact (ss_cons (ds_if (dt_cmp (op_eqD hu) rz_eq (de_slot 1) de_str (nomark _)) (ss_one (ds_ret (de_tup (dan_cons de_str dan_nil)))) ss_nil)
 (ss_cons (ds_set nd (de_frz (dl_split (de_slot 1) de_str)))
 (ss_cons (ds_set nd (de_dictOf rfl (by rfl) T.n_dict (by decide +kernel) (de_frz (dl_comp (own := [("word", 4), ("verb", 7)]) rfl nd (di_itm (de_cn (by rfl) T.c_VERBS) T.m_VERBS (by decide)) (blkOk_by (N := N_deed_in) (sc := defScope s_deed_in) (by decide +kernel)) (fun _ _ _ _ _ => (dtg_tup rfl (dtgs_cons nd (dtgs_cons nd dtgs_nil)))) (fun _ _ _ _ _ => dts_nil) (fun _ _ _ _ _ => (de_tup (dan_cons (de_slot 7) (dan_cons (de_slot 4) dan_nil))))))))
 (ss_cons (ds_if (dt_w (dw_or (dt_cmp op_lt rz_lt (de_callB call_lenA rz_len (by rfl) T.n_len PySem.boot_len (dan_cons (de_slot 2) dan_nil).da) de_int (nomark _)) (dw_or1 (dt_cmp (op_notInK hu65) (rz_inK true) (de_ixA hu1 (de_slot 2) de_int) (de_slot 3) (by rfl))))) (ss_one (ds_ret de_non)) ss_nil)
 (ss_cons (ds_set nd (de_ixA hu1 (de_slot 3) (de_ixA hu1 (de_slot 2) de_int)))
 (ss_cons (ds_set nd (de_call (ok_number_in T) (hr.mono (by decide)) (by rfl) T.p_number_in.g T.p_number_in.F.kp T.p_number_in.b (dan_cons (de_ixA hu1 (de_slot 2) de_int) (dan_cons de_int dan_nil))))
 (ss_cons (ds_set nd (de_tup (dan_cons (de_slot 4) (dan_cons (de_slot 5) dan_nil))))
 (ss_cons (ds_if (dt_cmp (op_inDT hu65) (rz_in false) (de_slot 4) (de_tup (dan_cons de_str (dan_cons de_str dan_nil))) (by rfl)) (ss_one (ds_set nd (de_call (ok_ask_in T) (hr.mono (by decide)) (by rfl) T.p_ask_in.g T.p_ask_in.F.kp T.p_ask_in.b (dan_cons (de_slot 4) (dan_cons (de_slot 5) (dan_cons (de_slice (de_slot 2) (do_some de_int) do_none) dan_nil)))))) (ss_one (ds_if (dt_cmp op_gt rz_gt (de_callB call_lenA rz_len (by rfl) T.n_len PySem.boot_len (dan_cons (de_slot 2) dan_nil).da) de_int (nomark _)) (ss_one (ds_ret de_non)) ss_nil)))
 (ss_cons (ds_if (dt_not (dt_val (de_call (ok_is_deed T) (hr.mono (by decide)) (by rfl) T.p_is_deed.g T.p_is_deed.F.kp T.p_is_deed.b (dan_cons (de_slot 0) (dan_cons (de_slot 6) dan_nil))))) (ss_one (ds_ret de_non)) ss_nil)
 (ss_one (ds_ret (de_slot 6))))))))))))
theorem ok_read_row {base : Heap} (T : Txt P w K mg) : FnD P w K mg base 4 T.p_read_row.f T.p_read_row.fd ["n", "text"] F_read_row := by
  refine (fn_ok T.p_read_row.F sc_read_row fun cdv A outer s H E hr => ?_).frz
  have nd := sc_read_row.nd
  have hu1 := hu_of hr
  have hu := hr.units
  have hu65 := hu65 hr
  have hp : PassesOwn _ _ _ (cxOf (L2.CX P w) P w K mg base N_read_row "read_row" (defScope s_read_row) T.p_read_row.f cdv A outer s H E).xe := passes_of rfl
  exact (ss_cons (ds_if (dt_not (dt_val (de_callB call_isiA rz_isi (by rfl) T.n_isinstance (by decide +kernel) (dan_cons (de_slot 1) (dan_cons (de_tyN (T := "str") (by rfl) T.n_str (by decide +kernel)) dan_nil)).da))) (ss_one (ds_raise rfl (dx_mkI T.e_NoText T.i_NoText (okx_NoText T) (hr.mono (by decide)) (by rfl) de_non))) ss_nil)
 (ss_cons (ds_if (dt_cmp (op_eqD hu) rz_eq (de_slot 1) de_str (nomark _)) (ss_one (ds_ret (de_tup dan_nil))) ss_nil)
 (ss_cons (ds_set nd (de_new (dl_lst dan_nil)))
 (ss_cons (ds_for hp rfl (di_enum (by rfl) T.n_enumerate (dan_cons (de_frz (dl_split (de_slot 1) de_str)) dan_nil).da) (dtg_tup rfl (dtgs_cons nd (dtgs_cons nd dtgs_nil))) (ss_cons (ds_set nd (de_call (ok_deed_in T) (hr.mono (by decide)) (by rfl) T.p_deed_in.g T.p_deed_in.F.kp T.p_deed_in.b (dan_cons (de_slot 0) (dan_cons (de_slot 4) dan_nil))))
 (ss_cons (ds_if (dt_cmp op_isN rz_isN (de_slot 5) de_non (nomark _)) (ss_one (ds_raise rfl (dx_mkI T.e_NoText T.i_NoText (okx_NoText T) (hr.mono (by decide)) (by rfl) (de_slot 3)))) ss_nil)
 (ss_one (ds_expr (de_meth PySem.F.plainAttrs_list PySem.F.slot_list_append PySem.F.type_list_append mt_append rz_append (de_slot 2) (dan_cons (de_slot 5) dan_nil).da))))))
 (ss_one (ds_ret (de_callTy call_tupF rz_tuple (by rfl) T.n_tuple (by decide +kernel) (dan_cons (de_slot 2) dan_nil).da)))))))
theorem ok__law_cell_at {base : Heap} (T : Txt P w K mg) : FnD P w K mg base 1 T.p__law_cell_at.f T.p__law_cell_at.fd ["_law_script", "_law_k"] F__law_cell_at := by
  refine (fn_ok T.p__law_cell_at.F sc__law_cell_at fun cdv A outer s H E hr => ?_)
  have nd := sc__law_cell_at.nd
  have hu1 := hu_of hr
  have hu := hr.units
  have hu65 := hu65 hr
  have hp : PassesOwn _ _ _ (cxOf (L2.CX P w) P w K mg base N__law_cell_at "_law_cell_at" (defScope s__law_cell_at) T.p__law_cell_at.f cdv A outer s H E).xe := passes_of rfl
  exact (ss_cons (ds_if (dt_cmp op_lt rz_lt (de_slot 1) (de_callB call_lenA rz_len (by rfl) T.n_len PySem.boot_len (dan_cons (de_slot 0) dan_nil).da) (nomark _)) (ss_one (ds_ret (de_ixA hu1 (de_slot 0) (de_slot 1)))) ss_nil)
 (ss_one (ds_ret de_int)))
theorem ok__law_far {base : Heap} (T : Txt P w K mg) : FnD P w K mg base 1 T.p__law_far.f T.p__law_far.fd [] F__law_far := by
  refine (fn_ok T.p__law_far.F sc__law_far fun cdv A outer s H E hr => ?_)
  have nd := sc__law_far.nd
  have hu1 := hu_of hr
  have hu := hr.units
  have hu65 := hu65 hr
  have hp : PassesOwn _ _ _ (cxOf (L2.CX P w) P w K mg base N__law_far "_law_far" (defScope s__law_far) T.p__law_far.f cdv A outer s H E).xe := passes_of rfl
  exact (ss_cons (ds_set nd de_int)
 (ss_cons (ds_for hp rfl (di_range1 (by rfl) T.n_range (dan_cons de_int dan_nil).da) (dtg_name nd) (ss_one (ds_set nd (de_op op_mulC rz_mulC (de_slot 0) (de_op op_pow rz_pow de_int de_int)))))
 (ss_one (ds_ret (de_slot 0)))))
theorem ok__law_left {base : Heap} (T : Txt P w K mg) : FnD P w K mg base 2 T.p__law_left.f T.p__law_left.fd ["_law_script", "_law_k"] F__law_left := by
  refine (fn_ok T.p__law_left.F sc__law_left fun cdv A outer s H E hr => ?_)
  have nd := sc__law_left.nd
  have hu1 := hu_of hr
  have hu := hr.units
  have hu65 := hu65 hr
  have hp : PassesOwn _ _ _ (cxOf (L2.CX P w) P w K mg base N__law_left "_law_left" (defScope s__law_left) T.p__law_left.f cdv A outer s H E).xe := passes_of rfl
  exact (ss_cons (ds_set nd (de_call (ok__law_cell_at T) (hr.mono (by decide)) (by rfl) T.p__law_cell_at.g T.p__law_cell_at.F.kp T.p__law_cell_at.b (dan_cons (de_slot 0) (dan_cons (de_op op_mod rz_mod (de_slot 1) (de_callB (call_max2 rfl) rz_max2 (by rfl) T.n_max (by decide +kernel) (dan_cons de_int (dan_cons (de_callB call_lenA rz_len (by rfl) T.n_len PySem.boot_len (dan_cons (de_slot 0) dan_nil).da) dan_nil)).da)) dan_nil))))
 (ss_cons (ds_set nd (de_op op_mod rz_mod (de_op op_mulC rz_mulC (de_op op_addA rz_add (de_op op_addA rz_add (de_op op_mod rz_mod (de_slot 2) de_int) (de_op op_mulC rz_mulC (de_op op_mulC rz_mulC de_int (de_slot 1)) (de_slot 1))) de_int) de_int) de_int))
 (ss_cons (ds_set nd (de_op op_mod rz_mod (de_op op_addA rz_add (de_op op_addA rz_add (de_op op_mulC rz_mulC (de_slot 3) de_int) (de_op op_mulC rz_mulC de_int (de_slot 1))) de_int) de_int))
 (ss_cons (ds_if (dt_cmp op_lt rz_lt (de_slot 2) (de_op op_pow rz_pow de_int de_int) (nomark _)) (ss_one (ds_set nd de_int)) ss_nil)
 (ss_one (ds_ret (de_new (dl_lst (dan_cons (de_op op_mod rz_mod (de_slot 2) (de_call0 (ok__law_far T) (hr.mono (by decide)) (by rfl) T.p__law_far.g T.p__law_far.F.kp T.p__law_far.b)) (dan_cons (de_slot 3) (dan_cons de_int dan_nil)))))))))))
theorem ok__law_pick {base : Heap} (T : Txt P w K mg) : FnD P w K mg base 1 T.p__law_pick.f T.p__law_pick.fd ["_law_left_here", "_law_many"] F__law_pick := by
  refine (fn_ok T.p__law_pick.F sc__law_pick fun cdv A outer s H E hr => ?_)
  have nd := sc__law_pick.nd
  have hu1 := hu_of hr
  have hu := hr.units
  have hu65 := hu65 hr
  have hp : PassesOwn _ _ _ (cxOf (L2.CX P w) P w K mg base N__law_pick "_law_pick" (defScope s__law_pick) T.p__law_pick.f cdv A outer s H E).xe := passes_of rfl
  exact (ss_cons (ds_if (dt_cmp op_gt rz_gt (de_ixA hu1 (de_slot 0) de_int) de_int (nomark _)) (ss_cons (ds_set nd (de_op op_mod rz_mod (de_ixA hu1 (de_slot 0) de_int) (de_slot 1)))
 (ss_cons (ds_asg (de_op op_fdiv rz_fdiv (de_ixA hu1 (de_slot 0) de_int) (de_slot 1)) (dg_sub (de_slot 0) de_int set_list rz_set))
 (ss_one (ds_ret (de_slot 2))))) ss_nil)
 (ss_cons (ds_asg (de_op op_addA rz_add (de_ixA hu1 (de_slot 0) de_int) de_int) (dg_sub (de_slot 0) de_int set_list rz_set))
 (ss_cons (ds_asg (de_op op_mod rz_mod (de_op op_addA rz_add (de_op op_addA rz_add (de_op op_mulC rz_mulC (de_ixA hu1 (de_slot 0) de_int) de_int) de_int) (de_op op_mulC rz_mulC de_int (de_ixA hu1 (de_slot 0) de_int))) de_int) (dg_sub (de_slot 0) de_int set_list rz_set))
 (ss_one (ds_ret (de_op op_mod rz_mod (de_op op_fdiv rz_fdiv (de_op op_mod rz_mod (de_op op_mulC rz_mulC (de_ixA hu1 (de_slot 0) de_int) (de_ixA hu1 (de_slot 0) de_int)) de_int) de_int) (de_slot 1)))))))
theorem ok__law_deed {base : Heap} (T : Txt P w K mg) : FnD P w K mg base 2 T.p__law_deed.f T.p__law_deed.fd ["_law_left_here", "_law_n"] F__law_deed := by
  refine (fn_ok T.p__law_deed.F sc__law_deed fun cdv A outer s H E hr => ?_).drop
  have nd := sc__law_deed.nd
  have hu1 := hu_of hr
  have hu := hr.units
  have hu65 := hu65 hr
  have hp : PassesOwn _ _ _ (cxOf (L2.CX P w) P w K mg base N__law_deed "_law_deed" (defScope s__law_deed) T.p__law_deed.f cdv A outer s H E).xe := passes_of rfl
  exact (ss_cons (ds_set nd (de_call (ok__law_pick T) (hr.mono (by decide)) (by rfl) T.p__law_pick.g T.p__law_pick.F.kp T.p__law_pick.b (dan_cons (de_slot 0) (dan_cons (de_slot 1) dan_nil))))
 (ss_cons (ds_set nd (de_call (ok__law_pick T) (hr.mono (by decide)) (by rfl) T.p__law_pick.g T.p__law_pick.F.kp T.p__law_pick.b (dan_cons (de_slot 0) (dan_cons de_int dan_nil))))
 (ss_cons (ds_if (dt_cmp op_lt rz_lt (de_slot 3) de_int (nomark _)) (ss_one (ds_ret (de_tup (dan_cons (de_ixA hu1 (de_frz (dl_lst (dan_cons de_str (dan_cons de_str dan_nil)))) (de_op op_mod rz_mod (de_slot 3) de_int)) (dan_cons (de_slot 2) (dan_cons (de_ixA hu1 (de_frz (dl_lst (dan_cons de_non (dan_cons de_non (dan_cons de_non (dan_cons de_int (dan_cons de_int (dan_cons de_int dan_nil)))))))) (de_call (ok__law_pick T) (hr.mono (by decide)) (by rfl) T.p__law_pick.g T.p__law_pick.F.kp T.p__law_pick.b (dan_cons (de_slot 0) (dan_cons de_int dan_nil)))) dan_nil)))))) ss_nil)
 (ss_cons (ds_if (dt_cmp (op_eqD hu) rz_eq (de_slot 3) de_int (nomark _)) (ss_one (ds_ret (de_tup (dan_cons de_str dan_nil)))) ss_nil)
 (ss_one (ds_ret (de_tup (dan_cons (de_ixA hu1 (de_frz (dl_lst (dan_cons de_str (dan_cons de_str (dan_cons de_str (dan_cons de_str (dan_cons de_str dan_nil))))))) (de_op op_sub rz_sub (de_slot 3) de_int)) (dan_cons (de_slot 2) dan_nil)))))))))
theorem okR__law_same {base : Heap} (T : Txt P w K mg) : ∀ n : Nat, FnD P w K mg base (0 + n) T.p__law_same.f T.p__law_same.fd ["_law_found", "_law_due"] (R__law_same n)
  | 0 => fn_stuck
  | n + 1 => by
    have ih := okR__law_same (base := base) T n
    refine (fn_ok (k := 0 + n) T.p__law_same.F sc__law_same fun cdv A outer s H E hr => ?_)
    have nd := sc__law_same.nd
    have hu1 := hu_of hr
    have hu := hr.units
    have hu65 := hu65 hr
    have hp : PassesOwn _ _ _ (cxOf (L2.CX P w) P w K mg base N__law_same "_law_same" (defScope s__law_same) T.p__law_same.f cdv A outer s H E).xe := passes_of rfl
    exact (ss_cons (ds_if (dt_val (de_callB call_isiA rz_isi (by rfl) T.n_isinstance (by decide +kernel) (dan_cons (de_slot 1) (dan_cons (de_tyN (T := "dict") (by rfl) T.n_dict (by decide +kernel)) dan_nil)).da)) (ss_cons (ds_if (dt_w (dw_or (dt_not (dt_val (de_callB call_isiA rz_isi (by rfl) T.n_isinstance (by decide +kernel) (dan_cons (de_slot 0) (dan_cons (de_tyN (T := "dict") (by rfl) T.n_dict (by decide +kernel)) dan_nil)).da))) (dw_or1 (dt_cmp (op_neD hu) rz_ne (de_callB call_lenA rz_len (by rfl) T.n_len PySem.boot_len (dan_cons (de_slot 0) dan_nil).da) (de_callB call_lenA rz_len (by rfl) T.n_len PySem.boot_len (dan_cons (de_slot 1) dan_nil).da) (nomark _))))) (ss_one (ds_ret de_bl)) ss_nil)
 (ss_cons (ds_set nd (de_dictOf rfl (by rfl) T.n_dict (by decide +kernel) (de_frz (dl_comp (own := [("_law_key", 3)]) rfl nd (di_seq (de_slot 0)) (blkOk_by (N := N__law_same) (sc := defScope s__law_same) (by decide +kernel)) (fun _ _ _ _ _ => (dtg_name nd)) (fun _ _ _ _ _ => dts_nil) (fun _ _ _ _ _ => (de_tup (dan_cons (de_slot 3) (dan_cons (de_slot 3) dan_nil))))))))
 (ss_one (ds_ret (de_callB (cr_all rfl) rz_all (by rfl) T.n_all (by decide +kernel) (dan_cons (de_frz (dl_comp (own := [("_law_key", 3)]) rfl nd (di_seq (de_slot 1)) (blkOk_by (N := N__law_same) (sc := defScope s__law_same) (by decide +kernel)) (fun _ _ _ _ _ => (dtg_name nd)) (fun _ _ _ _ _ => dts_nil) (fun _ _ _ _ _ => (de_and (de_cmp (op_inDT hu65) (rz_in false) (de_slot 3) (de_slot 0) (by rfl)) (de_and (de_call ih (hr.mono (by omega)) (by rfl) T.p__law_same.g T.p__law_same.F.kp T.p__law_same.b (dan_cons (de_ixA hu1 (de_slot 2) (de_slot 3)) (dan_cons (de_slot 3) dan_nil))) (de_one (de_call ih (hr.mono (by omega)) (by rfl) T.p__law_same.g T.p__law_same.F.kp T.p__law_same.b (dan_cons (de_ixA hu1 (de_slot 0) (de_slot 3)) (dan_cons (de_ixA hu1 (de_slot 1) (de_slot 3)) dan_nil))))))))) dan_nil).da))))) ss_nil)
 (ss_cons (ds_if (dt_w (dw_or (dt_val (de_callB call_isiA rz_isi (by rfl) T.n_isinstance (by decide +kernel) (dan_cons (de_slot 1) (dan_cons (de_tyN (T := "list") (by rfl) T.n_list (by decide +kernel)) dan_nil)).da)) (dw_or1 (dt_val (de_callB call_isiA rz_isi (by rfl) T.n_isinstance (by decide +kernel) (dan_cons (de_slot 1) (dan_cons (de_tyN (T := "tuple") (by rfl) T.n_tuple (by decide +kernel)) dan_nil)).da))))) (ss_cons (ds_if (dt_w (dw_or (dt_cmp (op_neD hu) rz_ne (de_callB call_isiA rz_isi (by rfl) T.n_isinstance (by decide +kernel) (dan_cons (de_slot 0) (dan_cons (de_tyN (T := "list") (by rfl) T.n_list (by decide +kernel)) dan_nil)).da) (de_callB call_isiA rz_isi (by rfl) T.n_isinstance (by decide +kernel) (dan_cons (de_slot 1) (dan_cons (de_tyN (T := "list") (by rfl) T.n_list (by decide +kernel)) dan_nil)).da) (nomark _)) (dw_or1 (dt_cmp (op_neD hu) rz_ne (de_callB call_isiA rz_isi (by rfl) T.n_isinstance (by decide +kernel) (dan_cons (de_slot 0) (dan_cons (de_tyN (T := "tuple") (by rfl) T.n_tuple (by decide +kernel)) dan_nil)).da) (de_callB call_isiA rz_isi (by rfl) T.n_isinstance (by decide +kernel) (dan_cons (de_slot 1) (dan_cons (de_tyN (T := "tuple") (by rfl) T.n_tuple (by decide +kernel)) dan_nil)).da) (nomark _))))) (ss_one (ds_ret de_bl)) ss_nil)
 (ss_one (ds_ret (de_and (de_cmp (op_eqD hu) rz_eq (de_callB call_lenA rz_len (by rfl) T.n_len PySem.boot_len (dan_cons (de_slot 0) dan_nil).da) (de_callB call_lenA rz_len (by rfl) T.n_len PySem.boot_len (dan_cons (de_slot 1) dan_nil).da) (nomark _)) (de_one (de_callB (cr_all rfl) rz_all (by rfl) T.n_all (by decide +kernel) (dan_cons (de_frz (dl_comp (own := [("_law_one", 4), ("_law_other", 5)]) rfl nd (di_zip (by rfl) T.n_zip (dan_cons (de_slot 0) (dan_cons (de_slot 1) dan_nil)).da) (blkOk_by (N := N__law_same) (sc := defScope s__law_same) (by decide +kernel)) (fun _ _ _ _ _ => (dtg_tup rfl (dtgs_cons nd (dtgs_cons nd dtgs_nil)))) (fun _ _ _ _ _ => dts_nil) (fun _ _ _ _ _ => (de_call ih (hr.mono (by omega)) (by rfl) T.p__law_same.g T.p__law_same.F.kp T.p__law_same.b (dan_cons (de_slot 4) (dan_cons (de_slot 5) dan_nil)))))) dan_nil).da)))))) ss_nil)
 (ss_cons (ds_if (dt_cmp op_isN rz_isN (de_slot 1) de_non (nomark _)) (ss_one (ds_ret (de_cmp op_isN rz_isN (de_slot 0) de_non (nomark _)))) ss_nil)
 (ss_cons (ds_if (dt_val (de_callB call_isiA rz_isi (by rfl) T.n_isinstance (by decide +kernel) (dan_cons (de_slot 1) (dan_cons (de_tyN (T := "str") (by rfl) T.n_str (by decide +kernel)) dan_nil)).da)) (ss_one (ds_ret (de_and (de_callB call_isiA rz_isi (by rfl) T.n_isinstance (by decide +kernel) (dan_cons (de_slot 0) (dan_cons (de_tyN (T := "str") (by rfl) T.n_str (by decide +kernel)) dan_nil)).da) (de_one (de_cmp (op_eqD hu) rz_eq (de_slot 0) (de_slot 1) (nomark _)))))) ss_nil)
 (ss_cons (ds_if (dt_w (dw_or (dt_val (de_callB call_isiA rz_isi (by rfl) T.n_isinstance (by decide +kernel) (dan_cons (de_slot 1) (dan_cons (de_tyN (T := "bool") (by rfl) T.n_bool (by decide +kernel)) dan_nil)).da)) (dw_or1 (dt_val (de_callB call_isiA rz_isi (by rfl) T.n_isinstance (by decide +kernel) (dan_cons (de_slot 0) (dan_cons (de_tyN (T := "bool") (by rfl) T.n_bool (by decide +kernel)) dan_nil)).da))))) (ss_one (ds_ret (de_and (de_callB call_isiA rz_isi (by rfl) T.n_isinstance (by decide +kernel) (dan_cons (de_slot 0) (dan_cons (de_tyN (T := "bool") (by rfl) T.n_bool (by decide +kernel)) dan_nil)).da) (de_and (de_callB call_isiA rz_isi (by rfl) T.n_isinstance (by decide +kernel) (dan_cons (de_slot 1) (dan_cons (de_tyN (T := "bool") (by rfl) T.n_bool (by decide +kernel)) dan_nil)).da) (de_one (de_cmp (op_eqD hu) rz_eq (de_slot 0) (de_slot 1) (nomark _))))))) ss_nil)
 (ss_one (ds_ret (de_and (de_callB call_isiA rz_isi (by rfl) T.n_isinstance (by decide +kernel) (dan_cons (de_slot 0) (dan_cons (de_tyN (T := "int") (by rfl) T.n_int (by decide +kernel)) dan_nil)).da) (de_one (de_cmp (op_eqD hu) rz_eq (de_slot 0) (de_slot 1) (nomark _)))))))))))
theorem ok__law_same {base : Heap} (T : Txt P w K mg) : FnD P w K mg base 10 T.p__law_same.f T.p__law_same.fd ["_law_found", "_law_due"] F__law_same := okR__law_same T 10
theorem ok__law_deed_text {base : Heap} (T : Txt P w K mg) : FnD P w K mg base 1 T.p__law_deed_text.f T.p__law_deed_text.fd ["_law_deed_here"] F__law_deed_text := by
  refine (fn_ok T.p__law_deed_text.F sc__law_deed_text fun cdv A outer s H E hr => ?_).frz
  have nd := sc__law_deed_text.nd
  have hu1 := hu_of hr
  have hu := hr.units
  have hu65 := hu65 hr
  have hp : PassesOwn _ _ _ (cxOf (L2.CX P w) P w K mg base N__law_deed_text "_law_deed_text" (defScope s__law_deed_text) T.p__law_deed_text.f cdv A outer s H E).xe := passes_of rfl
  exact (ss_cons (ds_if (dt_cmp (op_eqD hu) rz_eq (de_slot 0) (de_tup (dan_cons de_str dan_nil)) (nomark _)) (ss_one (ds_ret de_str)) ss_nil)
 (ss_cons (ds_set nd (de_disp (dps_cons de_str de_str (dps_cons de_str de_str (dps_cons de_str de_str (dps_cons de_str de_str dps_nil))))))
 (ss_cons (ds_set nd (de_op op_addA rz_add (de_op op_addA rz_add (de_callTy call_strA rz_str1 (by rfl) T.n_str (by decide +kernel) (dan_cons (de_ixA hu1 (de_slot 0) de_int) dan_nil).da) de_str) (de_dget2 hu1 (de_slot 1) (de_ixA hu1 (de_slot 0) de_int) (de_ixA hu1 (de_slot 0) de_int) ⟨by rfl, by rfl, by rfl, by rfl⟩)))
 (ss_one (ds_ret (de_op op_addA rz_add (de_slot 2) (de_join de_str (de_frz (dl_comp (own := [("_law_rest", 3)]) rfl nd (di_seq (de_slice (de_slot 0) (do_some de_int) do_none)) (blkOk_by (N := N__law_deed_text) (sc := defScope s__law_deed_text) (by decide +kernel)) (fun _ _ _ _ _ => (dtg_name nd)) (fun _ _ _ _ _ => (dts_one (dt_cmp op_notN rz_notN (de_slot 3) de_non (nomark _)))) (fun _ _ _ _ _ => (de_op op_addA rz_add de_str (de_callTy call_strA rz_str1 (by rfl) T.n_str (by decide +kernel) (dan_cons (de_slot 3) dan_nil).da))))))))))))
theorem ok__law_deeds {base : Heap} (T : Txt P w K mg) : FnD P w K mg base 2 T.p__law_deeds.f T.p__law_deeds.fd ["_law_n"] F__law_deeds := by
  refine (fn_ok T.p__law_deeds.F sc__law_deeds fun cdv A outer s H E hr => ?_)
  have nd := sc__law_deeds.nd
  have hu1 := hu_of hr
  have hu := hr.units
  have hu65 := hu65 hr
  have hp : PassesOwn _ _ _ (cxOf (L2.CX P w) P w K mg base N__law_deeds "_law_deeds" (defScope s__law_deeds) T.p__law_deeds.f cdv A outer s H E).xe := passes_of rfl
  exact (ss_cons (ds_set nd (de_disp (dps_cons de_str (de_tup (dan_cons de_str dan_nil)) dps_nil)))
 (ss_cons (ds_for hp rfl (di_range1 (by rfl) T.n_range (dan_cons (de_slot 0) dan_nil).da) (dtg_name nd) (ss_cons (ds_for hp rfl (di_seq (de_tup (dan_cons de_str (dan_cons de_str (dan_cons de_str (dan_cons de_str dan_nil)))))) (dtg_name nd) (ss_one (ds_asg (de_tup (dan_cons (de_slot 3) (dan_cons (de_slot 2) dan_nil))) (dg_sub (de_slot 1) (de_call (ok__law_deed_text T) (hr.mono (by decide)) (by rfl) T.p__law_deed_text.g T.p__law_deed_text.F.kp T.p__law_deed_text.b (dan_cons (de_tup (dan_cons (de_slot 3) (dan_cons (de_slot 2) dan_nil))) dan_nil)) (set_dict hu1) rz_setD))))
 (ss_one (ds_for hp rfl (di_seq (de_op op_addA rz_add (de_frz (dl_lst (dan_cons de_non dan_nil))) (de_frz (dl_listRg rfl (by rfl) T.n_list (by rfl) T.n_range de_int)))) (dtg_name nd) (ss_one (ds_for hp rfl (di_seq (de_tup (dan_cons de_str (dan_cons de_str dan_nil)))) (dtg_name nd) (ss_one (ds_asg (de_tup (dan_cons (de_slot 3) (dan_cons (de_slot 2) (dan_cons (de_slot 4) dan_nil)))) (dg_sub (de_slot 1) (de_call (ok__law_deed_text T) (hr.mono (by decide)) (by rfl) T.p__law_deed_text.g T.p__law_deed_text.F.kp T.p__law_deed_text.b (dan_cons (de_tup (dan_cons (de_slot 3) (dan_cons (de_slot 2) (dan_cons (de_slot 4) dan_nil)))) dan_nil)) (set_dict hu1) rz_setD)))))))))
 (ss_one (ds_ret (de_slot 1)))))
theorem ok__law_read {base : Heap} (T : Txt P w K mg) : FnD P w K mg base 5 T.p__law_read.f T.p__law_read.fd ["_law_n", "_law_thing"] F__law_read := by
  refine (fn_ok T.p__law_read.F sc__law_read fun cdv A outer s H E hr => ?_).frz
  have nd := sc__law_read.nd
  have hu1 := hu_of hr
  have hu := hr.units
  have hu65 := hu65 hr
  have hp : PassesOwn _ _ _ (cxOf (L2.CX P w) P w K mg base N__law_read "_law_read" (defScope s__law_read) T.p__law_read.f cdv A outer s H E).xe := passes_of rfl
  exact (ss_cons (ds_set nd de_non)
 (ss_cons (ds_set nd de_non)
 (ss_cons (ds_note rfl rfl rfl nd (i := 4) (j := 2) rfl rfl rfl rfl (by rfl) T.e_GuestError.g (fun q hq => by
      simp only [List.mem_cons, List.not_mem_nil, or_false] at hq
      rcases hq with rfl | rfl | rfl | rfl | rfl
      · exact ⟨T.e_GuestError, (exm_of T.e_GuestError T.s_GuestError_GuestError).trans (by decide +kernel)⟩
      · exact ⟨T.e_NoDeed, (exm_of T.e_GuestError T.s_NoDeed_GuestError).trans (by decide +kernel)⟩
      · exact ⟨T.e_NoText, (exm_of T.e_GuestError T.s_NoText_GuestError).trans (by decide +kernel)⟩
      · exact ⟨T.e_TooMany, (exm_of T.e_GuestError T.s_TooMany_GuestError).trans (by decide +kernel)⟩
      · exact ⟨T.e_NoLine, (exm_of T.e_GuestError T.s_NoLine_GuestError).trans (by decide +kernel)⟩) (fun _ _ hp => (ss_one (ds_set nd (de_call (ok_read_row T) (hr.mono (by decide)) (by rfl) T.p_read_row.g T.p_read_row.F.kp T.p_read_row.b (dan_cons (de_slot 0) (dan_cons (de_slot 1) dan_nil)))))) (fun _ _ => ps_asg (pe_var rfl (Or.inl rfl)) (pg_name nd rfl (Or.inl rfl))))
 (ss_cons (ds_if (dt_cmp op_isN rz_isN (de_slot 2) de_non (nomark _)) (ss_one (ds_ret (de_slot 3))) ss_nil)
 (ss_cons (ds_if (dt_w (dw_or (dt_not (dt_val (de_xis (cs := ["GuestError", "NoDeed", "NoText", "TooMany", "NoLine"]) (c := "NoText") (cv := (.ref T.e_NoText.C)) (cu := (.ref T.e_NoText.C)) (by rfl) T.n_isinstance (de_slot 2) (pe_glob (v := .ref T.e_NoText.C) (u := .ref T.e_NoText.C) (by rfl) T.e_NoText.g rfl) (fun w hw => hw) (fun q hq => by
      simp only [List.mem_cons, List.not_mem_nil, or_false] at hq
      rcases hq with rfl | rfl | rfl | rfl | rfl
      · exact ⟨T.e_GuestError, ((kit_ref T.e_NoText T.s_GuestError_NoText (by intro z; have := Value.ref.inj z; exact absurd this (T.d_GuestError_NoText))).trans (by decide +kernel))⟩
      · exact ⟨T.e_NoDeed, ((kit_ref T.e_NoText T.s_NoDeed_NoText (by intro z; have := Value.ref.inj z; exact absurd this (T.d_NoDeed_NoText))).trans (by decide +kernel))⟩
      · exact ⟨T.e_NoText, ((kit_ref T.e_NoText T.s_NoText_NoText (by intro _; rfl)).trans (by decide +kernel))⟩
      · exact ⟨T.e_TooMany, ((kit_ref T.e_NoText T.s_TooMany_NoText (by intro z; have := Value.ref.inj z; exact absurd this (T.d_TooMany_NoText))).trans (by decide +kernel))⟩
      · exact ⟨T.e_NoLine, ((kit_ref T.e_NoText T.s_NoLine_NoText (by intro z; have := Value.ref.inj z; exact absurd this (T.d_NoLine_NoText))).trans (by decide +kernel))⟩)))) (dw_or1 (dt_val (de_xisT (cs := ["GuestError", "NoDeed", "NoText", "TooMany", "NoLine"]) (ws := ["NoDeed", "NoLine", "TooMany"]) (cvs := [(.ref T.e_NoDeed.C), (.ref T.e_NoLine.C), (.ref T.e_TooMany.C)]) (cus := [(.ref T.e_NoDeed.C), (.ref T.e_NoLine.C), (.ref T.e_TooMany.C)]) (by rfl) T.n_isinstance (de_slot 2) (pa_cons (pe_glob (v := .ref T.e_NoDeed.C) (u := .ref T.e_NoDeed.C) (by rfl) T.e_NoDeed.g rfl) (pa_cons (pe_glob (v := .ref T.e_NoLine.C) (u := .ref T.e_NoLine.C) (by rfl) T.e_NoLine.g rfl) (pa_cons (pe_glob (v := .ref T.e_TooMany.C) (u := .ref T.e_TooMany.C) (by rfl) T.e_TooMany.g rfl) pa_nil))) (Nat.le_of_ble_eq_true rfl) (.cons (fun w hw => hw) (.cons (fun w hw => hw) (.cons (fun w hw => hw) .nil))) (fun q hq => by
      simp only [List.mem_cons, List.not_mem_nil, or_false] at hq
      rcases hq with rfl | rfl | rfl | rfl | rfl
      · exact ⟨T.e_GuestError, kitAny_of (ws := ["NoDeed", "NoLine", "TooMany"]) (.cons ((kit_ref T.e_NoDeed T.s_GuestError_NoDeed (by intro z; have := Value.ref.inj z; exact absurd this (T.d_GuestError_NoDeed))).trans (by decide +kernel)) (.cons ((kit_ref T.e_NoLine T.s_GuestError_NoLine (by intro z; have := Value.ref.inj z; exact absurd this (T.d_GuestError_NoLine))).trans (by decide +kernel)) (.cons ((kit_ref T.e_TooMany T.s_GuestError_TooMany (by intro z; have := Value.ref.inj z; exact absurd this (T.d_GuestError_TooMany))).trans (by decide +kernel)) .nil)))⟩
      · exact ⟨T.e_NoDeed, kitAny_of (ws := ["NoDeed", "NoLine", "TooMany"]) (.cons ((kit_ref T.e_NoDeed T.s_NoDeed_NoDeed (by intro _; rfl)).trans (by decide +kernel)) (.cons ((kit_ref T.e_NoLine T.s_NoDeed_NoLine (by intro z; have := Value.ref.inj z; exact absurd this (T.d_NoDeed_NoLine))).trans (by decide +kernel)) (.cons ((kit_ref T.e_TooMany T.s_NoDeed_TooMany (by intro z; have := Value.ref.inj z; exact absurd this (T.d_NoDeed_TooMany))).trans (by decide +kernel)) .nil)))⟩
      · exact ⟨T.e_NoText, kitAny_of (ws := ["NoDeed", "NoLine", "TooMany"]) (.cons ((kit_ref T.e_NoDeed T.s_NoText_NoDeed (by intro z; have := Value.ref.inj z; exact absurd this (T.d_NoText_NoDeed))).trans (by decide +kernel)) (.cons ((kit_ref T.e_NoLine T.s_NoText_NoLine (by intro z; have := Value.ref.inj z; exact absurd this (T.d_NoText_NoLine))).trans (by decide +kernel)) (.cons ((kit_ref T.e_TooMany T.s_NoText_TooMany (by intro z; have := Value.ref.inj z; exact absurd this (T.d_NoText_TooMany))).trans (by decide +kernel)) .nil)))⟩
      · exact ⟨T.e_TooMany, kitAny_of (ws := ["NoDeed", "NoLine", "TooMany"]) (.cons ((kit_ref T.e_NoDeed T.s_TooMany_NoDeed (by intro z; have := Value.ref.inj z; exact absurd this (T.d_TooMany_NoDeed))).trans (by decide +kernel)) (.cons ((kit_ref T.e_NoLine T.s_TooMany_NoLine (by intro z; have := Value.ref.inj z; exact absurd this (T.d_TooMany_NoLine))).trans (by decide +kernel)) (.cons ((kit_ref T.e_TooMany T.s_TooMany_TooMany (by intro _; rfl)).trans (by decide +kernel)) .nil)))⟩
      · exact ⟨T.e_NoLine, kitAny_of (ws := ["NoDeed", "NoLine", "TooMany"]) (.cons ((kit_ref T.e_NoDeed T.s_NoLine_NoDeed (by intro z; have := Value.ref.inj z; exact absurd this (T.d_NoLine_NoDeed))).trans (by decide +kernel)) (.cons ((kit_ref T.e_NoLine T.s_NoLine_NoLine (by intro _; rfl)).trans (by decide +kernel)) (.cons ((kit_ref T.e_TooMany T.s_NoLine_TooMany (by intro z; have := Value.ref.inj z; exact absurd this (T.d_NoLine_TooMany))).trans (by decide +kernel)) .nil)))⟩)))))) (ss_one (ds_ret (de_tup (dan_cons de_str (dan_cons de_str dan_nil))))) ss_nil)
 (ss_one (ds_ret (de_if (dt_val (de_xis (cs := ["GuestError", "NoDeed", "NoText", "TooMany", "NoLine"]) (c := "ValueError") (cv := (.ty "ValueError")) (cu := (.type "ValueError")) (by rfl) T.n_isinstance (de_slot 2) (pe_bltn (v := .ty "ValueError") (u := .type "ValueError") (by rfl) T.n_ValueError (by decide +kernel) rfl) (fun w hw => hw) (fun q hq => by
      simp only [List.mem_cons, List.not_mem_nil, or_false] at hq
      rcases hq with rfl | rfl | rfl | rfl | rfl
      · exact ⟨T.e_GuestError, ((kit_ve T.s_GuestError_ValueError).trans (by decide +kernel))⟩
      · exact ⟨T.e_NoDeed, ((kit_ve T.s_NoDeed_ValueError).trans (by decide +kernel))⟩
      · exact ⟨T.e_NoText, ((kit_ve T.s_NoText_ValueError).trans (by decide +kernel))⟩
      · exact ⟨T.e_TooMany, ((kit_ve T.s_TooMany_ValueError).trans (by decide +kernel))⟩
      · exact ⟨T.e_NoLine, ((kit_ve T.s_NoLine_ValueError).trans (by decide +kernel))⟩))) (de_tup (dan_cons de_str (dan_cons (de_xfld (de_slot 2) (fun q hq => by
      simp only [List.mem_cons, List.not_mem_nil, or_false] at hq
      rcases hq with rfl
      · exact ⟨T.e_NoText, T.i_NoText.no⟩)) dan_nil))) (de_tup (dan_cons de_str (dan_cons de_str dan_nil)))))))))))
theorem ok__law_spoilt {base : Heap} (T : Txt P w K mg) : FnD P w K mg base 2 T.p__law_spoilt.f T.p__law_spoilt.fd ["_law_left_here", "_law_line"] F__law_spoilt := by
  refine (fn_ok T.p__law_spoilt.F sc__law_spoilt fun cdv A outer s H E hr => ?_)
  have nd := sc__law_spoilt.nd
  have hu1 := hu_of hr
  have hu := hr.units
  have hu65 := hu65 hr
  have hp : PassesOwn _ _ _ (cxOf (L2.CX P w) P w K mg base N__law_spoilt "_law_spoilt" (defScope s__law_spoilt) T.p__law_spoilt.f cdv A outer s H E).xe := passes_of rfl
  exact (ss_cons (ds_set nd (de_frz (dl_split (de_slot 1) de_str)))
 (ss_cons (ds_par rfl nd (i := 3) (j := 4) rfl rfl (by decide) rfl rfl (dan_cons (de_call (ok__law_pick T) (hr.mono (by decide)) (by rfl) T.p__law_pick.g T.p__law_pick.F.kp T.p__law_pick.b (dan_cons (de_slot 0) (dan_cons (de_op op_addA rz_add (de_callB call_lenA rz_len (by rfl) T.n_len PySem.boot_len (dan_cons (de_slot 1) dan_nil).da) de_int) dan_nil))) (dan_cons (de_call (ok__law_pick T) (hr.mono (by decide)) (by rfl) T.p__law_pick.g T.p__law_pick.F.kp T.p__law_pick.b (dan_cons (de_slot 0) (dan_cons (de_callB call_lenA rz_len (by rfl) T.n_len PySem.boot_len (dan_cons (de_slot 2) dan_nil).da) dan_nil))) dan_nil)).da (by rfl))
 (ss_cons (ds_set nd (de_ixA hu1 (de_frz (dl_listC rfl (by rfl) T.n_list (by decide +kernel) de_str)) (de_call (ok__law_pick T) (hr.mono (by decide)) (by rfl) T.p__law_pick.g T.p__law_pick.F.kp T.p__law_pick.b (dan_cons (de_slot 0) (dan_cons de_int dan_nil)))))
 (ss_cons (ds_set nd (de_frz (dl_lst (dan_cons de_str (dan_cons de_str (dan_cons de_str (dan_cons de_str (dan_cons de_str (dan_cons de_str (dan_cons de_str (dan_cons de_str (dan_cons de_str (dan_cons de_str (dan_cons de_str (dan_cons de_str (dan_cons de_str dan_nil))))))))))))))))
 (ss_cons (ds_set nd (de_ixA hu1 (de_slot 6) (de_call (ok__law_pick T) (hr.mono (by decide)) (by rfl) T.p__law_pick.g T.p__law_pick.F.kp T.p__law_pick.b (dan_cons (de_slot 0) (dan_cons de_int dan_nil)))))
 (ss_cons (ds_set nd (de_frz (dl_lst (dan_cons (de_op op_addA rz_add (de_slice (de_slot 1) do_none (do_some (de_slot 3))) (de_slice (de_slot 1) (do_some (de_op op_addA rz_add (de_slot 3) de_int)) do_none)) (dan_cons (de_op op_addA rz_add (de_op op_addA rz_add (de_slice (de_slot 1) do_none (do_some (de_slot 3))) (de_slot 5)) (de_slice (de_slot 1) (do_some (de_slot 3)) do_none)) (dan_cons (de_op op_addA rz_add (de_op op_addA rz_add (de_slice (de_slot 1) do_none (do_some (de_slot 3))) (de_slot 5)) (de_slice (de_slot 1) (do_some (de_op op_addA rz_add (de_slot 3) de_int)) do_none)) (dan_cons de_str dan_nil)))))))
 (ss_cons (ds_set nd (de_op op_addA rz_add (de_slot 7) (de_frz (dl_lst (dan_cons (de_join de_str (de_op op_addA rz_add (de_op op_addA rz_add (de_slice (de_slot 2) do_none (do_some (de_slot 4))) (de_frz (dl_lst (dan_cons (de_slot 6) dan_nil)))) (de_slice (de_slot 2) (do_some (de_op op_addA rz_add (de_slot 4) de_int)) do_none))) (dan_cons (de_op op_addA rz_add (de_op op_addA rz_add (de_slot 1) de_str) (de_slot 6)) (dan_cons (de_op op_addA rz_add de_str (de_slot 1)) (dan_cons (de_op op_addA rz_add (de_slot 1) de_str) dan_nil))))))))
 (ss_one (ds_ret (de_ixA hu1 (de_op op_addA rz_add (de_slot 7) (de_frz (dl_lst (dan_cons (de_upper (de_slot 1)) (dan_cons (de_join de_str (de_rev (de_slot 2))) (dan_cons (de_slot 6) dan_nil)))))) (de_call (ok__law_pick T) (hr.mono (by decide)) (by rfl) T.p__law_pick.g T.p__law_pick.F.kp T.p__law_pick.b (dan_cons (de_slot 0) (dan_cons de_int dan_nil)))))))))))))
theorem ok_law {base : Heap} (T : Txt P w K mg) : FnD P w K mg base 11 T.p_law.f T.p_law.fd ["_law_script"] F_law := by
  refine (fn_ok T.p_law.F sc_law fun cdv A outer s H E hr => ?_)
  have nd := sc_law.nd
  have hu1 := hu_of hr
  have hu := hr.units
  have hu65 := hu65 hr
  have hp : PassesOwn _ _ _ (cxOf (L2.CX P w) P w K mg base N_law "law" (defScope s_law) T.p_law.f cdv A outer s H E).xe := passes_of rfl
  exact (ss_cons (ds_for hp rfl (di_range1 (by rfl) T.n_range (dan_cons (de_op op_addA rz_add de_int (de_callB (call_min2 rfl) rz_min2 (by rfl) T.n_min (by decide +kernel) (dan_cons de_int (dan_cons (de_callB call_lenA rz_len (by rfl) T.n_len PySem.boot_len (dan_cons (de_slot 0) dan_nil).da) dan_nil)).da)) dan_nil).da) (dtg_name nd) (ss_cons (ds_set nd (de_call (ok__law_left T) (hr.mono (by decide)) (by rfl) T.p__law_left.g T.p__law_left.F.kp T.p__law_left.b (dan_cons (de_slot 0) (dan_cons (de_slot 1) dan_nil))))
 (ss_cons (ds_set nd (de_op op_addA rz_add de_int (de_call (ok__law_pick T) (hr.mono (by decide)) (by rfl) T.p__law_pick.g T.p__law_pick.F.kp T.p__law_pick.b (dan_cons (de_slot 2) (dan_cons de_int dan_nil)))))
 (ss_cons (ds_set nd (de_call (ok__law_deeds T) (hr.mono (by decide)) (by rfl) T.p__law_deeds.g T.p__law_deeds.F.kp T.p__law_deeds.b (dan_cons (de_slot 3) dan_nil)))
 (ss_cons (ds_setComp (own := [("_law_turn", 6)]) (m := eFrz _) (i := 5) frz_of rfl nd rfl rfl (sw_true rfl rfl rfl (by decide +kernel)) (di_range1 (by rfl) T.n_range (dan_cons (de_op op_addA rz_add de_int (de_call (ok__law_pick T) (hr.mono (by decide)) (by rfl) T.p__law_pick.g T.p__law_pick.F.kp T.p__law_pick.b (dan_cons (de_slot 2) (dan_cons de_int dan_nil)))) dan_nil).da) (blkOk_by (N := N_law) (sc := defScope s_law) (by decide +kernel)) (fun _ _ _ _ _ => (dtg_name nd)) (fun _ _ _ _ _ => dts_nil) (fun _ _ _ _ _ => (de_call (ok__law_deed_text T) (hr.mono (by decide)) (by rfl) T.p__law_deed_text.g T.p__law_deed_text.F.kp T.p__law_deed_text.b (dan_cons (de_call (ok__law_deed T) (hr.mono (by decide)) (by rfl) T.p__law_deed.g T.p__law_deed.F.kp T.p__law_deed.b (dan_cons (de_slot 2) (dan_cons (de_slot 3) dan_nil))) dan_nil))))
 (ss_one (ds_for hp rfl (di_range1 (by rfl) T.n_range (dan_cons de_int dan_nil).da) (dtg_name nd) (ss_cons (ds_set nd (de_new (dl_list1 (by rfl) T.n_list (by decide +kernel) (de_slot 5))))
 (ss_cons (ds_for hp rfl (di_range1 (by rfl) T.n_range (dan_cons (de_op op_addA rz_add de_int (de_call (ok__law_pick T) (hr.mono (by decide)) (by rfl) T.p__law_pick.g T.p__law_pick.F.kp T.p__law_pick.b (dan_cons (de_slot 2) (dan_cons de_int dan_nil)))) dan_nil).da) (dtg_name nd) (ss_cons (ds_set nd (de_call (ok__law_pick T) (hr.mono (by decide)) (by rfl) T.p__law_pick.g T.p__law_pick.F.kp T.p__law_pick.b (dan_cons (de_slot 2) (dan_cons (de_callB call_lenA rz_len (by rfl) T.n_len PySem.boot_len (dan_cons (de_slot 7) dan_nil).da) dan_nil))))
 (ss_one (ds_asg (de_call (ok__law_spoilt T) (hr.mono (by decide)) (by rfl) T.p__law_spoilt.g T.p__law_spoilt.F.kp T.p__law_spoilt.b (dan_cons (de_slot 2) (dan_cons (de_ixA hu1 (de_slot 7) (de_slot 9)) dan_nil))) (dg_sub (de_slot 7) (de_slot 9) set_list rz_set)))))
 (ss_cons (ds_setComp (own := [("_law_at", 9), ("_law_line", 13)]) (m := eFrz _) (i := 10) frz_of rfl nd rfl rfl (sw_true rfl rfl rfl (by decide +kernel)) (di_enum (by rfl) T.n_enumerate (dan_cons (de_slot 7) dan_nil).da) (blkOk_by (N := N_law) (sc := defScope s_law) (by decide +kernel)) (fun _ _ _ _ _ => (dtg_tup rfl (dtgs_cons nd (dtgs_cons nd dtgs_nil)))) (fun _ _ _ _ _ => (dts_one (dt_cmp (op_notInK hu65) (rz_inK true) (de_slot 13) (de_slot 4) (by rfl)))) (fun _ _ _ _ _ => (de_slot 9)))
 (ss_cons (ds_set nd (de_callTy call_tupF rz_tuple (by rfl) T.n_tuple (by decide +kernel) (dan_cons (de_frz (dl_comp (own := [("_law_line", 13)]) rfl nd (di_seq (de_slot 7)) (blkOk_by (N := N_law) (sc := defScope s_law) (by decide +kernel)) (fun _ _ _ _ _ => (dtg_name nd)) (fun _ _ _ _ _ => dts_nil) (fun _ _ _ _ _ => (de_dget1 hu1 (de_slot 4) (de_slot 13) ⟨by rfl, by rfl, by rfl, by rfl⟩)))) dan_nil).da))
 (ss_cons (ds_if (dt_cmp (op_neD hu) rz_ne (de_slot 10) (de_frz (dl_lst dan_nil)) (nomark _)) (ss_one (ds_set nd (de_tup (dan_cons de_str (dan_cons (de_ixA hu1 (de_slot 10) de_int) dan_nil))))) ss_nil)
 (ss_cons (ds_if (dt_cmp (op_eqD hu) rz_eq (de_slot 7) (de_frz (dl_lst (dan_cons de_str dan_nil))) (nomark _)) (ss_one (ds_set nd (de_tup dan_nil))) ss_nil)
 (ss_one (ds_if (dt_not (dt_val (de_call (ok__law_same T) (hr.mono (by decide)) (by rfl) T.p__law_same.g T.p__law_same.F.kp T.p__law_same.b (dan_cons (de_call (ok__law_read T) (hr.mono (by decide)) (by rfl) T.p__law_read.g T.p__law_read.F.kp T.p__law_read.b (dan_cons (de_slot 3) (dan_cons (de_join de_str (de_slot 7)) dan_nil))) (dan_cons (de_slot 11) dan_nil))))) (ss_one (ds_ret de_bl)) ss_nil)))))))))))))))
 (ss_cons (ds_for hp rfl (di_seq (de_tup (dan_cons de_non (dan_cons de_int (dan_cons de_bl (dan_cons (de_tup dan_nil) (dan_cons (de_frz (dl_lst (dan_cons de_str dan_nil))) (dan_cons (de_tup (dan_cons de_str dan_nil)) (dan_cons de_dict0 dan_nil))))))))) (dtg_name nd) (ss_one (ds_if (dt_cmp (op_neD hu) rz_ne (de_call (ok__law_read T) (hr.mono (by decide)) (by rfl) T.p__law_read.g T.p__law_read.F.kp T.p__law_read.b (dan_cons de_int (dan_cons (de_slot 12) dan_nil))) (de_tup (dan_cons de_str (dan_cons de_non dan_nil))) (nomark _)) (ss_one (ds_ret de_bl)) ss_nil)))
 (ss_one (ds_ret de_bl))))
end
end LK
end
section
set_option maxHeartbeats 4000000
set_option synthInstance.maxSize 100000
set_option synthInstance.maxHeartbeats 400000
namespace LK
open MR PySem PySem.Spec PyProof.Rows L2
set_option exponentiation.threshold 1000 in
theorem far_eq (h : Hh) : F__law_far [] h = .ok (.int (10 ^ 600)) h := by
  unfold F__law_far b__law_far L__law_far_0
  simp (decide := true) [rangeD, List.range, List.range.loop, mulE]
def v__law_cell_at (ns : List Int) (k : Int) : Int := if k < ns.length then (ns[k.toNat]?).getD 0 else 0
theorem t__law_cell_at (ns : List Int) (k : Int) (k0 : 0 ≤ k) (h : Hh) : F__law_cell_at [.scr ns, .int k] h = .ok (.int (v__law_cell_at ns k)) h := by
  unfold F__law_cell_at b__law_cell_at v__law_cell_at
  by_cases hk : k < ns.length
  · have e : (ns.map D.int)[k.toNat]? = some (.int (ns[k.toNat]'(by omega))) := by simp
    have e2 : (Option.map D.int ns[k.toNat]?) = some (.int (ns[k.toNat]'(by omega))) := by simpa using e
    have e3 : ns[k.toNat]? = some (ns[k.toNat]'(by omega)) := by simp
    simp [hk, k0, e2, e3]
  · simp [hk, k0]
/-- numbers that are left -/
def Lk (l : List Int) : Prop := ∃ a b c : Int, l = [a, b, c] ∧ 0 ≤ a ∧ 0 ≤ b ∧ b < 2147483648 ∧ 0 ≤ c
def v__law_left (ns : List Int) (k : Int) : List Int :=
  [(if v__law_cell_at ns (k % (if (ns.length : Int) > 1 then (ns.length : Int) else 1)) < 10 ^ 18 then 0 else v__law_cell_at ns (k % (if (ns.length : Int) > 1 then (ns.length : Int) else 1))) % (10 ^ 600), ((v__law_cell_at ns (k % (if (ns.length : Int) > 1 then (ns.length : Int) else 1)) % 2147483629 + 7919 * k * k + 11) * 48271 % 2147483647 * 39373 + 7 * k + 1) % 2147483629, 0]
def d__law_left (ns : List Int) (k : Int) : Prop := 0 ≤ k ∧ k < 1000000
theorem lk_left (ns : List Int) (k : Int) : Lk (v__law_left ns k) := ⟨_, _, _, rfl, Int.emod_nonneg _ (by decide), Int.emod_nonneg _ (by decide), Int.lt_trans (Int.emod_lt_of_pos _ (by decide)) (by decide), by decide⟩
set_option exponentiation.threshold 1000 in
theorem t__law_left (ns : List Int) (k : Int) (h : Hh) (ok : d__law_left ns k) : F__law_left [.scr ns, .int k] h = .ok (.ref h.length) (h ++ [oL D.int (v__law_left ns k)]) := by
  obtain ⟨k0, k1⟩ := ok
  have m0 : (0 : Int) < (if (ns.length : Int) > 1 then (ns.length : Int) else 1) := by split <;> omega
  have hv := fun h => t__law_cell_at ns (k % (if (ns.length : Int) > 1 then (ns.length : Int) else 1)) (Int.emod_nonneg _ (by omega)) h
  have m0' : (0 : Int) < (if 1 < (ns.length : Int) then (ns.length : Int) else 1) := m0
  unfold F__law_left b__law_left v__law_left oL
  generalize v__law_cell_at ns (k % (if (ns.length : Int) > 1 then (ns.length : Int) else 1)) = v at hv ⊢
  have p0 := Int.emod_nonneg v (show (2147483629 : Int) ≠ 0 by decide)
  have p1 := Int.emod_lt_of_pos v (show (0 : Int) < 2147483629 by decide)
  have far0 : (0 : Int) < 10 ^ 600 := by decide
  have s1 : -18446744073709551616 < k ∧ k < 18446744073709551616 := by omega
  generalize hs : (v % 2147483629 + 7919 * k * k + 11) * 48271 % 2147483647 = s
  generalize hq : (s * 39373 + 7 * k + 1) % 2147483629 = q
  generalize hF : (10 : Int) ^ 600 = far at far0 ⊢
  have fe : ∀ h, F__law_far [] h = .ok (.int far) h := fun h => by rw [far_eq, hF]
  clear hF
  simp [hv, m0', mulE, s1, hs, hq]
  by_cases hc : v < 1000000000000000000
  · simp [hc, fe, far0]
  · simp [hc, fe, far0]
def v__law_pick (l : List Int) (m : Int) : Int × List Int := match l with
  | [a, b, c] => if 0 < a then (a % m, [a / m, b, c]) else
    (((b * 48271 + 12345 + 7 * (c + 1)) % 2147483647) * ((b * 48271 + 12345 + 7 * (c + 1)) % 2147483647) % 1999999973 / 64 % m, [a, (b * 48271 + 12345 + 7 * (c + 1)) % 2147483647, c + 1])
  | l => (0, l)
def d__law_pick (l : List Int) (m : Int) : Prop := Lk l ∧ 0 < m ∧ m < 1073741824
theorem t__law_pick (l : List Int) (m : Int) (h : Hh) (p : Nat) (hp : h[p]? = some (oL D.int l)) (ok : d__law_pick l m) : F__law_pick (.ref p :: [.int m]) h = .ok (.int (v__law_pick l m).1) (h.set p (oL D.int (v__law_pick l m).2)) := by
  obtain ⟨⟨a, b, c, rfl, a0, b0, b1, c0⟩, m0, m1⟩ := ok
  have hl : p < h.length := (List.getElem?_eq_some_iff.mp hp).1
  unfold F__law_pick b__law_pick v__law_pick
  have e : h[p]? = some (.lst [.int a, .int b, .int c]) := hp
  by_cases ha : 0 < a
  · simp [e, ha, m0, m1, oL]
  · have q0 := Int.emod_nonneg (b * 48271 + 12345 + 7 * (c + 1)) (show (2147483647 : Int) ≠ 0 by decide)
    have q1 := Int.emod_lt_of_pos (b * 48271 + 12345 + 7 * (c + 1)) (show (0 : Int) < 2147483647 by decide)
    generalize hq : (b * 48271 + 12345 + 7 * (c + 1)) % 2147483647 = q at q0 q1
    have s1 : -18446744073709551616 < q ∧ q < 18446744073709551616 := by omega
    have g : ∀ o, (h.set p o)[p]? = some o := fun o => by simp [hl]
    clear hl
    simp [e, ha, m0, m1, mulE, hq, s1, g, oL]
theorem pk {l : List Int} {m : Int} (hl : Lk l) (m0 : 0 < m) : 0 ≤ (v__law_pick l m).1 ∧ (v__law_pick l m).1 < m ∧ Lk (v__law_pick l m).2 := by
  obtain ⟨a, b, c, rfl, a0, b0, b1, c0⟩ := hl
  unfold v__law_pick
  by_cases ha : 0 < a
  · simp only [ha, if_true]
    exact ⟨Int.emod_nonneg _ (by omega), Int.emod_lt_of_pos _ m0, a / m, b, c, rfl, Int.ediv_nonneg a0 (by omega), b0, b1, c0⟩
  · simp only [ha, if_false]
    exact ⟨Int.emod_nonneg _ (by omega), Int.emod_lt_of_pos _ m0, a, _, c + 1, rfl, a0, Int.emod_nonneg _ (by decide), Int.lt_trans (Int.emod_lt_of_pos _ (by decide)) (by decide), by omega⟩
theorem same_comp {F : MF} {h : Hh} (x : D) (a b : Option D) (env : DEnv) (hl : env.length = 6) : ∀ ds : List D, (∀ d ∈ ds, F [d, d] h = .ok (.bl true) h) →
    compL none (.tup [4, 5]) (fun _ h => .ok true h) (eCall F (aCons (eSlot 4) (aCons (eSlot 5) aNil))) env (zipD ds ds) h = .ok (ds.map fun _ => .bl true) h
  | [], _ => by simp
  | d :: ds, hd => by
    have ih := same_comp x a b env hl ds fun e m => hd e (List.mem_cons_of_mem _ m)
    obtain ⟨x0, x1, x2, x3, x4, x5, rfl⟩ : ∃ x0 x1 x2 x3 x4 x5, env = [x0, x1, x2, x3, x4, x5] := by
      match env, hl with
      | [x0, x1, x2, x3, x4, x5], _ => exact ⟨_, _, _, _, _, _, rfl⟩
    have e := hd d List.mem_cons_self
    simp [e, ih]
theorem same_self : ∀ (n : Nat) (d : D) (h : Hh), fit n d = true → R__law_same n [d, d] h = .ok (.bl true) h
  | 0, d, h, f => by cases f
  | n + 1, d, h, f => by
    unfold R__law_same b__law_same
    cases d with
    | non => simp [kit_all]
    | bl b => simp [kit_bool]
    | int i => simp [kit_int]
    | str x =>
      have f : PyData.strOk x = true := f
      simp [kit_str, ev_eqS, f]
    | tup ds =>
      have f : ds.all (fit n) = true := f
      rw [List.all_eq_true] at f
      have c := fun env hl => same_comp (F := R__law_same n) (h := h) .non none none env hl ds fun d m => same_self n d h (f d m)
      simp [kit_tuple, c, truths_all]
    | lst ds =>
      have f : ds.all (fit n) = true := f
      rw [List.all_eq_true] at f
      have c := fun env hl => same_comp (F := R__law_same n) (h := h) .non none none env hl ds fun d m => same_self n d h (f d m)
      simp [kit_list, c, truths_all]
    | ref i => cases f
    | glb v => cases f
    | scr ns => cases f
    | wtp ds => cases f
    | dct u w => cases f
theorem t__law_same {α : Type} {e : α → D} [i : FitE e] {x y : α} (hxy : x = y) (h : Hh) (hn : i.n ≤ 10 := by decide) : F__law_same [e x, e y] h = .ok (.bl true) h := by
  subst hxy
  exact same_self 10 (e x) h (fit_le hn (i.f x))
noncomputable def c_is_between (thing_ : Int) (low_ : Int) (high_ : Int) : Ctl Empty Empty Bool Empty := (.rt (true && ((!false) && (decide (low_ ≤ thing_) && decide (thing_ ≤ high_)))))
noncomputable def v_is_between (thing_ : Int) (low_ : Int) (high_ : Int) : Bool := (c_is_between thing_ low_ high_).get
theorem t_is_between (thing_ : Int) (low_ : Int) (high_ : Int) (h : Hh) : F_is_between [D.int thing_, D.int low_, D.int high_] h = .ok (D.bl (v_is_between thing_ low_ high_)) h :=
  fn_frz (c := c_is_between thing_ low_ high_) (hN := Nat.le_of_ble_eq_true rfl) (qs_retF (q_and (q_opN (qa_cons (q_slot 0 rfl) (qa_cons q_c qa_nil)) (o_isiII _)) (fun kb1 => (q_and (q_not (q_opN (qa_cons (q_slot 0 rfl) (qa_cons q_c qa_nil)) (o_isiIB _))) (fun kb2 => (q_chain (q_slot 1 rfl) (q_slot 0 rfl) (fun _ => (q_slot 2 rfl)) (fun _ => rfl) (fun _ => rfl)))))))
noncomputable def c_is_deed (n_ : Int) (thing_ : Deed) : Ctl Empty Empty Bool Empty := (if ((!true) || ((decide ((thing_).size = (0 : Int))) || (!true))) = true then (.rt false) else (if (decide ((thing_).word = Wd.tick)) = true then (.rt (decide ((thing_).size = (1 : Int)))) else (if ((decide ((thing_).size < (2 : Int))) || (!(v_is_between (thing_).guest (0 : Int) (n_ - (1 : Int))))) = true then (.rt false) else (if (decide ((thing_).word ∈ [Wd.read, Wd.write])) = true then (.rt ((decide ((thing_).size = (3 : Int))) && (((thing_).left).isNone || (v_is_between (((thing_).left).getD default) (0 : Int) (9 : Int))))) else (.rt ((decide ((thing_).word ∈ [Wd.up, Wd.down, Wd.leave, Wd.stop])) && (decide ((thing_).size = (2 : Int)))))))))
noncomputable def v_is_deed (n_ : Int) (thing_ : Deed) : Bool := (c_is_deed n_ thing_).get
def d_is_deed (n_ : Int) (thing_ : Deed) : Prop := ((((!true) || ((decide ((thing_).size = (0 : Int))) || (!true))) = false → (((decide ((thing_).word = Wd.tick)) = false → (((decide ((thing_).size < (2 : Int))) = false → (((thing_).isTick = false))) ∧ (((decide ((thing_).size < (2 : Int))) || (!(v_is_between (thing_).guest (0 : Int) (n_ - (1 : Int))))) = false → (((decide ((thing_).word ∈ [Wd.read, Wd.write])) = true → (((decide ((thing_).size = (3 : Int))) = true → (((thing_).isAsk = true) ∧ (((thing_).left).isNone = false → (((thing_).isAsk = true) ∧ ((thing_).left).isSome = true)))))))))))))
theorem t_is_deed (n_ : Int) (thing_ : Deed) (h : Hh) (ok : d_is_deed n_ thing_) : F_is_deed [D.int n_, eDd thing_] h = .ok (D.bl (v_is_deed n_ thing_)) h :=
  fn_frz (c := c_is_deed n_ thing_) (hN := Nat.le_of_ble_eq_true rfl) (qs_ifr (qt_or (qt_not (qt_e (q_opN (qa_cons (q_slot 1 rfl) (qa_cons q_c qa_nil)) (o_isiDT _)))) (fun kb1 => (qt_or (qt_e (q_op2 (q_opN (qa_cons (q_slot 1 rfl) qa_nil) (o_lenD _)) (q_c (d := .int 0)) (o_eq D.int _ _))) (fun kb2 => (qt_not (qt_e (q_opN (qa_cons (q_op2 (q_slot 1 rfl) q_c (o_dw _)) (qa_cons q_c qa_nil)) (o_isiWS _)))))))) nv_ret (fun kb3 => (qs_retF (q_c (d := .bl false)))) (fun kb4 => (qs_ifr (qt_e (q_op2 (q_op2 (q_slot 1 rfl) q_c (o_dw _)) (q_c (d := eW Wd.tick)) (o_eq eW _ _))) nv_ret (fun kb5 => (qs_retF (q_op2 (q_opN (qa_cons (q_slot 1 rfl) qa_nil) (o_lenD _)) (q_c (d := .int 1)) (o_eq D.int _ _)))) (fun kb6 => (qs_ifr (qt_or (qt_e (q_op2 (q_opN (qa_cons (q_slot 1 rfl) qa_nil) (o_lenD _)) (q_c (d := .int 2)) (fun _ => rfl))) (fun kb7 => (qt_not (qt_e (q_call (qa_cons (q_op2 (q_slot 1 rfl) q_c (o_dg _ (((ok kb4) kb6).1 kb7))) (qa_cons (q_c (d := .int 0)) (qa_cons (q_op2 (q_slot 0 rfl) (q_c (d := .int 1)) (fun _ => rfl)) qa_nil))) (fun h => t_is_between (thing_).guest (0 : Int) (n_ - (1 : Int)) h)))))) nv_ret (fun kb8 => (qs_retF (q_c (d := .bl false)))) (fun kb9 => (qs_ifr (qt_e (q_op2 (q_op2 (q_slot 1 rfl) q_c (o_dw _)) (q_c (d := eS eW [Wd.read, Wd.write])) (o_inS eW _ _))) nv_ret (fun kb10 => (qs_retF (q_and (q_op2 (q_opN (qa_cons (q_slot 1 rfl) qa_nil) (o_lenD _)) (q_c (d := .int 3)) (o_eq D.int _ _)) (fun kb11 => (q_or (q_op2 (q_op2 (q_slot 1 rfl) q_c (o_dl _ (((((ok kb4) kb6).2 kb9) kb10) kb11).1)) q_c (o_isN _)) (fun kb12 => (q_call (qa_cons (q_unopt ((((((ok kb4) kb6).2 kb9) kb10) kb11).2 kb12).2 (q_op2 (q_slot 1 rfl) q_c (o_dl _ ((((((ok kb4) kb6).2 kb9) kb10) kb11).2 kb12).1))) (qa_cons (q_c (d := .int 0)) (qa_cons (q_c (d := D.int 9)) qa_nil))) (fun h => t_is_between (((thing_).left).getD default) (0 : Int) (9 : Int) h)))))))) (fun kb13 => (qs_retF (q_and (q_op2 (q_op2 (q_slot 1 rfl) q_c (o_dw _)) (q_c (d := eS eW [Wd.up, Wd.down, Wd.leave, Wd.stop])) (o_inS eW _ _)) (fun kb14 => (q_op2 (q_opN (qa_cons (q_slot 1 rfl) qa_nil) (o_lenD _)) (q_c (d := .int 2)) (o_eq D.int _ _)))))))))))))
def v_number_in (w : Tx) (m : Int) : Option Int := numT w m
def d_number_in (w : Tx) (m : Int) : Prop := NumB w m
theorem frz_oI (n : Nat) (h : Hh) (o : Option Int) : frzD n h (eO D.int o) = some (eO D.int o) := by cases o <;> rfl
theorem num_len (w : Tx) (h : Hh) (k : w.len ≤ 640) : lenO [.str w.1] h = some (.int (w.len : Int)) := if_pos (by rw [sizeLine_eq]; exact Nat.le_trans k (by decide))
theorem num_src (w : Tx) (h : Hh) (k : w.len ≤ 640) : srcOf (.str w.1) h = some ⟨w.1.cps.toList.map fun c => D.str ⟨#[c]⟩, none⟩ := by
  show (if w.1.cps.size ≤ sizeLine then _ else _) = _
  rw [if_pos (by rw [sizeLine_eq]; exact Nat.le_trans k (by decide))]
theorem num_cmp (x y : D) (l : List Nat) (h : Hh) : compL none (.name 2) (fun _ h => .ok true h) (eOp2 inSgO (eSlot 2) (eC c_FIGURES)) [some x, some y, none] (l.map fun c => D.str ⟨#[c]⟩) h = .ok (sgL l) h := by
  induction l with
  | nil => exact ev_comp_nil _ _ _ _ _
  | cons c l ih =>
    rw [List.map_cons, ev_comp_cons]
    show (compL none (.name 2) (fun _ h => .ok true h) (eOp2 inSgO (eSlot 2) (eC c_FIGURES)) [some x, some y, none] (l.map fun c => D.str ⟨#[c]⟩) h).bind (fun ys h3 => .ok (_ :: ys) h3) = _
    rw [ih]; rfl
theorem t_number_in (word_ : Tx) (most_ : Int) (h : Hh) (ok : d_number_in word_ most_) : F_number_in [eX word_, D.int most_] h = .ok ((eO D.int) (v_number_in word_ most_)) h := by
  refine frzF_of (g := []) (d := eO D.int (numT word_ most_)) ?_ (frz_oI _ _ _)
  rw [List.append_nil]
  show runF 2 N_number_in b_number_in [.str word_.1, .int most_] h = _
  rw [ev_run2]
  unfold b_number_in numT
  have k2 := ok.2
  by_cases c1 : (1 : Int) ≤ word_.len
  · by_cases c2 : (word_.len : Int) ≤ most_
    · cases c3 : sgOk word_ with
      | true =>
        have k3 := k2 (by rw [decide_eq_true c1, decide_eq_true c2, c3]; rfl)
        obtain ⟨n, en⟩ := Option.isSome_iff_exists.mp k3
        simp [num_len _ _ ok.1, num_src _ _ ok.1, num_cmp, signs_all, all_signs, c1, c2, c3, en, eIntT, show word_.1.length ≤ 640 from ok.1]; rfl
      | false => simp [num_len _ _ ok.1, num_src _ _ ok.1, num_cmp, signs_all, all_signs, c1, c2, c3]; rfl
    · simp [num_len _ _ ok.1, c1, c2]; rfl
  · simp [num_len _ _ ok.1, c1]; rfl

def verbT : List (Tx × Wd) := [(tW .reads, .read), (tW .writes, .write), (tW .up, .up), (tW .down, .down), (tS "leaves", .leave), (tS "stops", .stop)]
def verbW (v : Tx) : Option Wd := (verbT.find? fun p => decide (p.1 = v)).map (·.2)
def askR (w : Wd) (gi : Int) : List Tx → Option Deed
  | [] => some (.ask w gi none)
  | [x] => (numT x 1).map fun l => .ask w gi (some l)
  | _ :: _ :: _ => none
def movR (w : Wd) (gi : Int) : List Tx → Option Deed
  | [] => some (.mov w gi)
  | _ :: _ => none
def rawD (w : Wd) (gi : Int) (rest : List Tx) : Option Deed := if w = .read ∨ w = .write then askR w gi rest else movR w gi rest
noncomputable def chkD (n : Int) : Option Deed → Option Deed
  | some d => if v_is_deed n d = true then some d else none
  | none => none
noncomputable def lineD (n : Int) : List Tx → Option Deed
  | g :: v :: rest => match verbW v with
    | some w => match numT g 1 with
      | some gi => chkD n (rawD w gi rest)
      | none => none
    | none => none
  | _ => none
noncomputable def v_deed_in (n : Int) (t : Tx) : Option Deed := if t = tW .tick then some .tick else lineD n (tSplit t (tS " "))
def d_deed_in (n : Int) (t : Tx) : Prop := SplB t (tS " ") ∧ ∀ x ∈ tSplit t (tS " "), NumB x 1
theorem deed_asks (n : Int) (d : Deed) : d_is_deed n d := by
  cases d <;> unfold d_is_deed <;> simp [Deed.isTick, Deed.isAsk, Deed.left, Deed.size, Deed.word]
theorem num_run (x : Tx) (k : NumB x 1) (h : Hh) : F_number_in [.str x.1, .int 1] h = .ok (eO D.int (numT x 1)) h := t_number_in x 1 h k
theorem ask_nil (w g : D) (h : Hh) : F_ask_in [w, g, .lst []] h = .ok (.tup [w, g, .non]) h := by unfold F_ask_in b_ask_in; simp
theorem ask_one (w g : D) (x : Tx) (i : Int) (k : NumB x 1) (e : numT x 1 = some i) (h : Hh) : F_ask_in [w, g, .lst [.str x.1]] h = .ok (.tup [w, g, .int i]) h := by
  have n1 := num_run x k h
  rw [e] at n1
  have n1 : F_number_in [.str x.1, .int 1] h = .ok (.int i) h := n1
  unfold F_ask_in b_ask_in; simp [n1]
theorem ask_oneN (w g : D) (x : Tx) (k : NumB x 1) (e : numT x 1 = none) (h : Hh) : F_ask_in [w, g, .lst [.str x.1]] h = .ok .non h := by
  have n1 := num_run x k h
  rw [e] at n1
  have n1 : F_number_in [.str x.1, .int 1] h = .ok .non h := n1
  unfold F_ask_in b_ask_in; simp [n1]
theorem ask_more (w g x y : D) (l : List D) (h : Hh) : F_ask_in [w, g, .lst (x :: y :: l)] h = .ok .non h := by
  have e : (1 < (l.length : Int) + 1 + 1) := by omega
  have e0 : ¬ ((l.length : Int) + 1 + 1 = 0) := by omega
  unfold F_ask_in b_ask_in; simp [e, e0]
theorem deed_non (n : Int) (h : Hh) : F_is_deed [.int n, .non] h = .ok (.bl false) h := by
  refine frz_bl ?_
  unfold b_is_deed
  simp (decide := true) [kit_all]
def verbK : List (Key × D) := [(.inr "reads", .str "read"), (.inr "writes", .str "write"), (.inr "up", .str "up"), (.inr "down", .str "down"), (.inr "leaves", .str "leave"), (.inr "stops", .str "stop")]
theorem between_non (a b : D) (h : Hh) : F_is_between [.non, a, b] h = .ok (.bl false) h := by
  refine frz_bl ?_
  unfold b_is_between
  simp (decide := true) [kit_all]
theorem deed_nog (n : Int) (w : Wd) (hw : w ∈ [Wd.read, Wd.write, Wd.up, Wd.down, Wd.leave, Wd.stop]) (ds : List D) (h : Hh) : F_is_deed [.int n, .tup (.str w.val :: .non :: ds)] h = .ok (.bl false) h := by
  have e1 : eqO (.str w.val) (.str "tick") h = some (.bl false) := by
    have := o_eq eW w Wd.tick (h := h)
    rw [show decide (w = Wd.tick) = false from decide_eq_false (by intro z; rw [z] at hw; simp at hw)] at this
    exact this
  have e2 : ∀ h, ltO (.int ((ds.length : Int) + 1 + 1)) (.int 2) h = some (.bl false) := fun h => by
    show some (D.bl (decide ((ds.length : Int) + 1 + 1 < 2))) = _
    rw [decide_eq_false (by omega)]
  have e3 : eqO (.int ((ds.length : Int) + 1 + 1)) (.int 0) h = some (.bl false) := by
    have := o_eq D.int ((ds.length : Int) + 1 + 1) 0 (h := h)
    rw [decide_eq_false (by omega)] at this
    exact this
  refine frz_bl ?_
  unfold b_is_deed
  simp (decide := true) [e1, e2, e3, between_non, kit_tuple, kit_str]
theorem verbs_at (a b c : D) (h : Hh) : (eDictOf (eFrz (aComp (iItm [("read", "reads"), ("write", "writes"), ("up", "up"), ("down", "down"), ("leave", "leaves"), ("stop", "stops")]) (.tup [4, 7]) (fun _ h => .ok true h) (eTup (aCons (eSlot 7) (aCons (eSlot 4) aNil))) [4, 7]))) [some a, some b, some c, none, none, none, none, none] h = .ok (.ref h.length) (h ++ [.dK verbK]) := by
  have hi : ∀ env, iItm [("read", "reads"), ("write", "writes"), ("up", "up"), ("down", "down"), ("leave", "leaves"), ("stop", "stops")] env h = .ok ⟨[.wtp [.str "read", .str "reads"], .wtp [.str "write", .str "writes"], .wtp [.str "up", .str "up"], .wtp [.str "down", .str "down"], .wtp [.str "leave", .str "leaves"], .wtp [.str "stop", .str "stops"]], none⟩ h := fun _ => rfl
  simp (decide := true) [hi, wipeE, bindT, prsOf, mergeG, verbK]
  rfl
noncomputable def diTail : MS :=
 (sSeq (sIf (tOr (tE (eOp2 ltO (eOpN lenO (aCons (eSlot 2) aNil)) (eC (.int 2)))) (tE (eOp2 (inKO true) (eOp2 ixA (eSlot 2) (eC (.int 1))) (eSlot 3)))) (sRet (eC .non)) sNext)
 (sSeq (sAsg (eOp2 ixA (eSlot 3) (eOp2 ixA (eSlot 2) (eC (.int 1)))) (gName 4))
 (sSeq (sAsg (eCall F_number_in (aCons (eOp2 ixA (eSlot 2) (eC (.int 0))) (aCons (eC (.int 1)) aNil))) (gName 5))
 (sSeq (sAsg (eTup (aCons (eSlot 4) (aCons (eSlot 5) aNil))) (gName 6))
 (sSeq (sIf (tE (eOp2 (inO false) (eSlot 4) (eTup (aCons (eC (.str "read")) (aCons (eC (.str "write")) aNil))))) (sAsg (eCall F_ask_in (aCons (eSlot 4) (aCons (eSlot 5) (aCons (eSlice (eSlot 2) (oSome (eC (.int 2))) oNone) aNil)))) (gName 6)) (sIf (tE (eOp2 gtO (eOpN lenO (aCons (eSlot 2) aNil)) (eC (.int 2)))) (sRet (eC .non)) sNext))
 (sSeq (sIf (tNot (tE (eCall F_is_deed (aCons (eSlot 0) (aCons (eSlot 6) aNil))))) (sRet (eC .non)) sNext)
 (sRet (eSlot 6))))))))
theorem verb_key (v : Tx) : getG verbK (.inr v.1) = (verbW v).map fun w => D.str w.val := by
  unfold verbW
  have hc : ∀ (k : Tx) (w : Wd) (l : List (Tx × Wd)) (kl : List (Key × D)), getG kl (.inr v.1) = ((l.find? fun p => decide (p.1 = v)).map (·.2)).map (fun w => D.str w.val) → getG ((.inr k.1, .str w.val) :: kl) (.inr v.1) = (((((k, w) :: l).find? fun p => decide (p.1 = v)).map (·.2)).map fun w => D.str w.val) := fun k w l kl ih => by
    unfold getG at ih ⊢
    rw [List.find?_cons, List.find?_cons]
    by_cases e : k = v
    · subst e
      rw [show decide (((.inr k.1 : Key)) = .inr k.1) = true from decide_eq_true rfl, show decide (((k, w) : Tx × Wd).1 = k) = true from decide_eq_true rfl]; rfl
    · have e1 : ¬ ((.inr k.1 : Key) = .inr v.1) := fun z => e (Tx.ext (Sum.inr.inj z))
      rw [show decide (((.inr k.1 : Key)) = .inr v.1) = false from decide_eq_false e1, show decide (((k, w) : Tx × Wd).1 = v) = false from decide_eq_false e]
      exact ih
  exact hc (tW .reads) .read _ _ (hc (tW .writes) .write _ _ (hc (tW .up) .up _ _ (hc (tW .down) .down _ _ (hc (tS "leaves") .leave _ _ (hc (tS "stops") .stop [] [] rfl)))))
theorem verb_in (v : Tx) {h : Hh} {p : Nat} (hp : h[p]? = some (.dK verbK)) : inKO true (.str v.1) (.ref p) h = some (.bl (verbW v).isNone) ∧ ∀ w, verbW v = some w → ixA (.ref p) (.str v.1) h = some (.str w.val) := by
  have hd : dictOf (.ref p) h = some verbK := by
    show (match h[p]? with | some (.dK kvs) => some kvs | _ => none) = _
    rw [hp]
  have e1 : inKO true (.str v.1) (.ref p) h = some (.bl (!(getG verbK (.inr v.1)).isSome)) := by
    unfold inKO
    rw [hd]; rfl
  have e2 : ixA (.ref p) (.str v.1) h = getG verbK (.inr v.1) := by
    rw [ev_ixRS, hp]; rfl
  rw [e1, e2, verb_key]
  refine ⟨by cases verbW v <;> rfl, fun w e => by rw [e]; rfl⟩
theorem verb_six {v : Tx} {w : Wd} (e : verbW v = some w) : w ∈ [Wd.read, Wd.write, Wd.up, Wd.down, Wd.leave, Wd.stop] := by
  unfold verbW at e
  obtain ⟨p, hp, rfl⟩ := Option.map_eq_some_iff.mp e
  have := List.mem_of_find?_eq_some hp
  unfold verbT at this
  simp only [List.mem_cons, List.not_mem_nil, or_false] at this
  rcases this with rfl | rfl | rfl | rfl | rfl | rfl <;> simp
theorem di_tail (n : Int) (ln : D) (ws : List Tx) (hb : ∀ x ∈ ws, NumB x 1) (h : Hh) (p : Nat) (hp : h[p]? = some (.dK verbK)) :
    diTail [some (.int n), some ln, some (.lst (ws.map eX)), some (.ref p), none, none, none, none] h = .rt (eO eDd (lineD n ws)) h := by
  have es : ∀ m : Tx, eX m = D.str m.1 := fun _ => rfl
  match ws, hb with
  | [], _ => unfold diTail; simp [lineD]; rfl
  | [x], _ => unfold diTail; simp [lineD]; rfl
  | g :: v :: rest, hb =>
    have n1 := num_run g (hb g (by simp)) h
    obtain ⟨v1, v2⟩ := verb_in v hp
    have e5 : ∀ (a b : D) (l : List D), cutG (a :: b :: l) (some 2) none = l := fun a b l => by rw [cutFrom _ (by decide)]; rfl
    have lt2 : ¬ ((rest.length : Int) + 1 + 1 < 2) := by omega
    cases ev : verbW v with
    | none =>
      rw [ev] at v1
      have v1 : inKO true (.str v.1) (.ref p) h = some (.bl true) := v1
      unfold diTail
      simp [lineD, ev, v1, es, lt2]; rfl
    | some w =>
      rw [ev] at v1
      have v1 : inKO true (.str v.1) (.ref p) h = some (.bl false) := v1
      have v2 := v2 w ev
      have w6 := verb_six ev
      have e6 : inO false (.str w.val) (.tup [.str "read", .str "write"]) h = some (.bl (decide (w ∈ [Wd.read, Wd.write]))) := o_inS eW w [.read, .write] (h := h)
      by_cases hw : w = .read ∨ w = .write
      · rw [decide_eq_true (show w ∈ [Wd.read, Wd.write] by simpa using hw)] at e6
        clear lt2
        have er : ∀ gi, rawD w gi rest = askR w gi rest := fun gi => if_pos hw
        match rest, hb, er with
        | [], hb, er =>
          cases eg : numT g 1 with
          | none =>
            rw [eg] at n1
            have n1 : F_number_in [.str g.1, .int 1] h = .ok .non h := n1
            have dn := deed_nog n w w6 [.non] h
            unfold diTail
            simp [lineD, ev, eg, v1, v2, es, n1, e5, e6, ask_nil, dn]; rfl
          | some gi =>
            rw [eg] at n1
            have n1 : F_number_in [.str g.1, .int 1] h = .ok (.int gi) h := n1
            have td : F_is_deed [.int n, .tup [.str w.val, .int gi, .non]] h = .ok (.bl (v_is_deed n (.ask w gi none))) h := t_is_deed n (.ask w gi none) h (deed_asks _ _)
            have el : lineD n [g, v] = if v_is_deed n (.ask w gi none) = true then some (.ask w gi none) else none := by
              unfold lineD; dsimp only; rw [ev, eg]; show chkD n (rawD w gi []) = _; rw [er]; rfl
            rw [el]
            unfold diTail
            cases eb : v_is_deed n (.ask w gi none) with
            | true => rw [eb] at td; simp [v1, v2, es, n1, e5, e6, ask_nil, td]; rfl
            | false => rw [eb] at td; simp [v1, v2, es, n1, e5, e6, ask_nil, td]; rfl
        | [x], hb, er =>
          have kx := hb x (by simp)
          cases ex : numT x 1 with
          | none =>
            have ha := fun a b => ask_oneN a b x kx ex h
            have dn := deed_non n h
            have el : lineD n [g, v, x] = none := by
              unfold lineD; dsimp only; rw [ev]
              cases numT g 1 with
              | none => rfl
              | some gi => show chkD n (rawD w gi [x]) = _; rw [er]; show chkD n ((numT x 1).map _) = _; rw [ex]; rfl
            rw [el]
            unfold diTail
            cases eg : numT g 1 with
            | none =>
              rw [eg] at n1
              have n1 : F_number_in [.str g.1, .int 1] h = .ok .non h := n1
              simp [v1, v2, es, n1, e5, e6, ha, dn]; rfl
            | some gi =>
              rw [eg] at n1
              have n1 : F_number_in [.str g.1, .int 1] h = .ok (.int gi) h := n1
              simp [v1, v2, es, n1, e5, e6, ha, dn]; rfl
          | some i =>
            have ha := fun a b => ask_one a b x i kx ex h
            cases eg : numT g 1 with
            | none =>
              rw [eg] at n1
              have n1 : F_number_in [.str g.1, .int 1] h = .ok .non h := n1
              have dn := deed_nog n w w6 [.int i] h
              unfold diTail
              simp [lineD, ev, eg, v1, v2, es, n1, e5, e6, ha, dn]; rfl
            | some gi =>
              rw [eg] at n1
              have n1 : F_number_in [.str g.1, .int 1] h = .ok (.int gi) h := n1
              have td : F_is_deed [.int n, .tup [.str w.val, .int gi, .int i]] h = .ok (.bl (v_is_deed n (.ask w gi (some i)))) h := t_is_deed n (.ask w gi (some i)) h (deed_asks _ _)
              have el : lineD n [g, v, x] = if v_is_deed n (.ask w gi (some i)) = true then some (.ask w gi (some i)) else none := by
                unfold lineD; dsimp only; rw [ev, eg]; show chkD n (rawD w gi [x]) = _; rw [er]; show chkD n ((numT x 1).map _) = _; rw [ex]; rfl
              rw [el]
              unfold diTail
              cases eb : v_is_deed n (.ask w gi (some i)) with
              | true => rw [eb] at td; simp [v1, v2, es, n1, e5, e6, ha, td]; rfl
              | false => rw [eb] at td; simp [v1, v2, es, n1, e5, e6, ha, td]; rfl
        | x :: y :: r, hb, er =>
          have ha := fun a b c d l => ask_more a b c d l h
          have dn := deed_non n h
          have el : lineD n (g :: v :: x :: y :: r) = none := by
            unfold lineD; dsimp only; rw [ev]
            cases numT g 1 with
            | none => rfl
            | some gi => show chkD n (rawD w gi (x :: y :: r)) = _; rw [er]; rfl
          have l4 : ¬ ((r.length : Int) + 1 + 1 + 1 + 1 < 2) := by omega
          rw [el]
          unfold diTail
          cases eg : numT g 1 with
          | none =>
            rw [eg] at n1
            have n1 : F_number_in [.str g.1, .int 1] h = .ok .non h := n1
            simp [v1, v2, es, n1, e5, e6, ha, dn, l4]; rfl
          | some gi =>
            rw [eg] at n1
            have n1 : F_number_in [.str g.1, .int 1] h = .ok (.int gi) h := n1
            simp [v1, v2, es, n1, e5, e6, ha, dn, l4]; rfl
      · rw [decide_eq_false (show ¬ w ∈ [Wd.read, Wd.write] by simpa using hw)] at e6
        clear lt2
        have er : ∀ gi, rawD w gi rest = movR w gi rest := fun gi => if_neg hw
        match rest, hb, er with
        | [], hb, er =>
          cases eg : numT g 1 with
          | none =>
            rw [eg] at n1
            have n1 : F_number_in [.str g.1, .int 1] h = .ok .non h := n1
            have dn := deed_nog n w w6 [] h
            unfold diTail
            simp [lineD, ev, eg, v1, v2, es, n1, e5, e6, dn]; rfl
          | some gi =>
            rw [eg] at n1
            have n1 : F_number_in [.str g.1, .int 1] h = .ok (.int gi) h := n1
            have td : F_is_deed [.int n, .tup [.str w.val, .int gi]] h = .ok (.bl (v_is_deed n (.mov w gi))) h := t_is_deed n (.mov w gi) h (deed_asks _ _)
            have el : lineD n [g, v] = if v_is_deed n (.mov w gi) = true then some (.mov w gi) else none := by
              unfold lineD; dsimp only; rw [ev, eg]; show chkD n (rawD w gi []) = _; rw [er]; rfl
            rw [el]
            unfold diTail
            cases eb : v_is_deed n (.mov w gi) with
            | true => rw [eb] at td; simp [v1, v2, es, n1, e5, e6, td]; rfl
            | false => rw [eb] at td; simp [v1, v2, es, n1, e5, e6, td]; rfl
        | x :: r, hb, er =>
          have el : lineD n (g :: v :: x :: r) = none := by
            unfold lineD; dsimp only; rw [ev]
            cases numT g 1 with
            | none => rfl
            | some gi => show chkD n (rawD w gi (x :: r)) = _; rw [er]; rfl
          have l4 : ¬ ((r.length : Int) + 1 + 1 + 1 < 2) := by omega
          have l5 : (2 : Int) < (r.length : Int) + 1 + 1 + 1 := by omega
          rw [el]
          unfold diTail
          cases eg : numT g 1 with
          | none =>
            rw [eg] at n1
            have n1 : F_number_in [.str g.1, .int 1] h = .ok .non h := n1
            simp [v1, v2, es, n1, e5, e6, l4, l5]; rfl
          | some gi =>
            rw [eg] at n1
            have n1 : F_number_in [.str g.1, .int 1] h = .ok (.int gi) h := n1
            simp [v1, v2, es, n1, e5, e6, l4, l5]; rfl
theorem t_deed_in (n : Int) (t : Tx) (h : Hh) (ok : d_deed_in n t) : F_deed_in [D.int n, eX t] h = .ok ((eO eDd) (v_deed_in n t)) h := by
  have hb : b_deed_in = (sSeq (sIf (tE (eOp2 eqO (eSlot 1) (eC (.str "tick")))) (sRet (eTup (aCons (eC (.str "tick")) aNil))) sNext)
 (sSeq (sAsg (eFrz (aSplit (eSlot 1) (eC (.str " ")))) (gName 2))
 (sSeq (sAsg (eDictOf (eFrz (aComp (iItm [("read", "reads"), ("write", "writes"), ("up", "up"), ("down", "down"), ("leave", "leaves"), ("stop", "stops")]) (.tup [4, 7]) (fun _ h => .ok true h) (eTup (aCons (eSlot 7) (aCons (eSlot 4) aNil))) [4, 7]))) (gName 3))
 diTail))) := rfl
  obtain ⟨ks, kb⟩ := ok
  by_cases ht : t = tW .tick
  · have e1 : eqO (.str t.1) (.str "tick") h = some (.bl true) := by rw [← decide_eq_true ht]; exact o_eq eX t (tW .tick) (h := h)
    have ev : v_deed_in n t = some .tick := if_pos ht
    rw [ev]
    refine frzF_of (g := []) (d := eDd .tick) ?_ rfl
    rw [List.append_nil]
    show runF 2 N_deed_in b_deed_in [.int n, .str t.1] h = _
    rw [ev_run2, hb]
    simp [e1]; rfl
  · have e1 : eqO (.str t.1) (.str "tick") h = some (.bl false) := by rw [← decide_eq_false ht]; exact o_eq eX t (tW .tick) (h := h)
    have ev : v_deed_in n t = lineD n (tSplit t (tS " ")) := if_neg ht
    have es' : aSplit (eSlot 1) (eC (.str " ")) [some (.int n), some (.str t.1), none, none, none, none, none, none] h = .ok ((tSplit t (tS " ")).map eX) h := by
      rw [ev_split (a := t) (b := tS " ") rfl rfl ks]
    have tl := di_tail n (.str t.1) (tSplit t (tS " ")) kb (h ++ [.dK verbK]) h.length (by simp)
    rw [ev]
    refine frzF_of (g := [.dK verbK]) (d := eO eDd (lineD n (tSplit t (tS " ")))) ?_ (frz_e _ _ _)
    show runF 2 N_deed_in b_deed_in [.int n, .str t.1] h = _
    rw [ev_run2, hb]
    simp [e1, es', verbs_at, tl, -ev_dictOf]

noncomputable def badL (n : Int) : List Tx → Nat → Nat
  | [], i => i
  | t :: ts, i => if (v_deed_in n t).isSome = true then badL n ts (i + 1) else i
noncomputable def linesOk (n : Int) (ts : List Tx) : Bool := ts.all fun t => (v_deed_in n t).isSome
noncomputable def cond_read_row (n : Int) (t : Tx) : Bool := decide (t = tS "") || linesOk n (tSplit t (tS "\n"))
noncomputable def v_read_row (n : Int) (t : Tx) : List Deed := if t = tS "" then [] else (tSplit t (tS "\n")).map fun l => (v_deed_in n l).getD default
def dc_read_row (n : Int) (t : Tx) : Prop := t ≠ tS "" → SplB t (tS "\n") ∧ (tSplit t (tS "\n")).length ≤ 1000 ∧ ∀ l ∈ tSplit t (tS "\n"), d_deed_in n l
theorem len_row : ∀ k : Nat, k < 1001 → (Str.empty ++ "nothing is written in row " ++ Str.ofString (toString ((k : Nat) : Int))).length ≤ sizeLine := by decide +kernel
theorem fits_row {k : Nat} (hk : k ≤ 1000) : fits1 "nothing is written in row " (k : Int) := by
  refine ⟨?_, by decide +kernel, ?_⟩
  · have h1 : ((k : Int)).natAbs = k := by omega
    rw [h1]
    by_cases z : k = 0
    · subst z; decide
    · have : k.log2 < 11 := (Nat.log2_lt z).mpr (by omega)
      omega
  · exact len_row k (by omega)
theorem rr_loop (n : Int) (tx : D) (h : Hh) : ∀ (ts : List Tx) (k : Nat) (acc : List Deed) (z3 z4 z5 : Option D), (∀ l ∈ ts, d_deed_in n l) → acc.length + ts.length ≤ 1000 → k + ts.length ≤ 1000 →
    (linesOk n ts = true ∧ ∃ z3' z4' z5', forL none (bodyT (.tup [3, 4]) L_read_row_0) ((ts.zipIdx k).map fun p => D.wtp [.int (p.2 : Int), eX p.1]) [some (.int n), some tx, some (.ref h.length), z3, z4, z5] (h ++ [.lst (acc.map eDd)]) =
      .nx [some (.int n), some tx, some (.ref h.length), z3', z4', z5'] (h ++ [.lst ((acc ++ ts.map fun l => (v_deed_in n l).getD default).map eDd)])) ∨
    (linesOk n ts = false ∧ ∃ env g, forL none (bodyT (.tup [3, 4]) L_read_row_0) ((ts.zipIdx k).map fun p => D.wtp [.int (p.2 : Int), eX p.1]) [some (.int n), some tx, some (.ref h.length), z3, z4, z5] (h ++ [.lst (acc.map eDd)]) =
      .er (xI "NoText" "row" (badL n ts k)) env (h ++ g))
  | [], k, acc, z3, z4, z5, _, _, _ => .inl ⟨rfl, z3, z4, z5, by rw [List.zipIdx_nil, List.map_nil, ev_for_nil, List.map_nil, List.append_nil]⟩
  | t :: ts, k, acc, z3, z4, z5, hd, hl, hk => by
    rw [List.length_cons] at hl hk
    have e1 := t_deed_in n t (h ++ [.lst (acc.map eDd)]) (hd t List.mem_cons_self)
    have eo : linesOk n (t :: ts) = ((v_deed_in n t).isSome && linesOk n ts) := rfl
    have eb : badL n (t :: ts) k = if (v_deed_in n t).isSome = true then badL n ts (k + 1) else k := rfl
    rw [List.zipIdx_cons, List.map_cons, ev_for_cons, eo, eb]
    cases ev : v_deed_in n t with
    | none =>
      rw [ev] at e1
      have e1 : F_deed_in [.int n, .str t.1] (h ++ [.lst (acc.map eDd)]) = .ok .non (h ++ [.lst (acc.map eDd)]) := e1
      have f1 := fits_row (k := k) (by omega)
      have f2 : ∀ h', k_mkI "NoText" "row" "nothing is written in row " (.ok (.int (k : Int)) h') = .ok (xI "NoText" "row" k) h' := fun h' => ev_k_mkI _ _ _ _ _ f1
      refine .inr ⟨rfl, [some (.int n), some tx, some (.ref h.length), some (.int k), some (.str t.1), some .non], [.lst (acc.map eDd)], ?_⟩
      unfold L_read_row_0
      simp [show ∀ m : Tx, eX m = D.str m.1 from fun _ => rfl, e1, f2]
      rfl
    | some d =>
      rw [ev] at e1
      have e1 : F_deed_in [.int n, .str t.1] (h ++ [.lst (acc.map eDd)]) = .ok (eDd d) (h ++ [.lst (acc.map eDd)]) := e1
      have step : bodyT (.tup [3, 4]) L_read_row_0 (.wtp [.int (k : Int), eX t]) [some (.int n), some tx, some (.ref h.length), z3, z4, z5] (h ++ [.lst (acc.map eDd)]) =
          .nx [some (.int n), some tx, some (.ref h.length), some (.int k), some (.str t.1), some (eDd d)] (h ++ [.lst ((acc ++ [d]).map eDd)]) := by
        have hlt : acc.length < 16777216 := by omega
        have nn : ∀ h', isNO false (eDd d) .non h' = some (.bl false) := fun h' => by cases d <;> rfl
        unfold L_read_row_0
        simp (decide := true) [show ∀ m : Tx, eX m = D.str m.1 from fun _ => rfl, e1, hlt, nn]
      rw [step, ev_lb_nx]
      rcases rr_loop n tx h ts (k + 1) (acc ++ [d]) (some (.int k)) (some (.str t.1)) (some (eDd d)) (fun l hl => hd l (List.mem_cons_of_mem _ hl)) (by rw [List.length_append, List.length_singleton]; omega) (by omega) with ⟨q0, z3', z4', z5', q⟩ | ⟨q0, env, g, q⟩
      · refine .inl ⟨q0, z3', z4', z5', ?_⟩
        rw [q, List.map_cons, ev, List.append_assoc]; rfl
      · exact .inr ⟨q0, env, g, q⟩
theorem rr_body (n : Int) (t : Tx) (h : Hh) (ht : t ≠ tS "") (ks : SplB t (tS "\n")) : runF 2 N_read_row b_read_row [.int n, .str t.1] h = outR ((forL none (bodyT (.tup [3, 4]) L_read_row_0) (((tSplit t (tS "\n")).zipIdx 0).map fun p => D.wtp [.int (p.2 : Int), eX p.1]) [some (.int n), some (.str t.1), some (.ref h.length), none, none, none] (h ++ [.lst (([] : List Deed).map eDd)])).seq (sRet (eOpN tupleO (aCons (eSlot 2) aNil)))) := by
  have e1 : eqO (.str t.1) (.str "") h = some (.bl false) := by rw [← decide_eq_false ht]; exact o_eq eX t (tS "") (h := h)
  have es' : ∀ h, aSplit (eSlot 1) (eC (.str "\n")) [some (.int n), some (.str t.1), some (.ref h.length), none, none, none] (h ++ [.lst []]) = .ok ((tSplit t (tS "\n")).map eX) (h ++ [.lst []]) := fun h => by
    rw [ev_split (a := t) (b := tS "\n") rfl rfl ks]
  have en : enumD ((tSplit t (tS "\n")).map eX) = ((tSplit t (tS "\n")).zipIdx 0).map fun p => D.wtp [.int (p.2 : Int), eX p.1] := by
    unfold enumD
    rw [List.zipIdx_map, List.map_map]; rfl
  have em : ∀ ds h, enm [D.lst ds] h = some ⟨enumD ds, none⟩ := fun _ _ => rfl
  rw [ev_run2, ← en]
  unfold b_read_row
  simp (decide := true) [e1, es' h, kit_str, em]
theorem tv_read_row (n : Int) (t : Tx) (k : dc_read_row n t) (hc : cond_read_row n t = true) (h : Hh) : F_read_row [.int n, eX t] h = .ok (eS eDd (v_read_row n t)) h := by
  by_cases ht : t = tS ""
  · have e1 : eqO (.str t.1) (.str "") h = some (.bl true) := by rw [← decide_eq_true ht]; exact o_eq eX t (tS "") (h := h)
    have ev : v_read_row n t = [] := if_pos ht
    rw [ev]
    refine frzF_of (g := []) (d := .tup []) ?_ rfl
    rw [List.append_nil]
    show runF 2 N_read_row b_read_row [.int n, .str t.1] h = _
    rw [ev_run2]
    unfold b_read_row
    simp (decide := true) [e1, kit_str]
  · obtain ⟨ks, kl, kd⟩ := k ht
    have ev : v_read_row n t = (tSplit t (tS "\n")).map fun l => (v_deed_in n l).getD default := if_neg ht
    unfold cond_read_row at hc
    rw [decide_eq_false ht, Bool.false_or] at hc
    rw [ev]
    rcases rr_loop n (.str t.1) h (tSplit t (tS "\n")) 0 [] none none none kd (by rw [List.length_nil]; omega) (by omega) with ⟨q0, z3', z4', z5', q⟩ | ⟨q0, env, g, q⟩
    · refine frzF_of (g := [.lst (((tSplit t (tS "\n")).map fun l => (v_deed_in n l).getD default).map eDd)]) (d := eS eDd ((tSplit t (tS "\n")).map fun l => (v_deed_in n l).getD default)) ?_ (frz_e _ _ _)
      refine (rr_body n t h ht ks).trans ?_
      rw [q, List.nil_append]
      simp
      show _ = D.tup (List.map eDd (List.map _ _))
      rw [List.map_map]
    · rw [hc] at q0; cases q0
theorem te_read_row (n : Int) (t : Tx) (k : dc_read_row n t) (hc : cond_read_row n t = false) (h : Hh) : ∃ g, F_read_row [.int n, eX t] h = .err (xI "NoText" "row" (badL n (tSplit t (tS "\n")) 0)) (h ++ g) := by
  unfold cond_read_row at hc
  rw [Bool.or_eq_false_iff] at hc
  have ht : t ≠ tS "" := of_decide_eq_false hc.1
  obtain ⟨ks, kl, kd⟩ := k ht
  rcases rr_loop n (.str t.1) h (tSplit t (tS "\n")) 0 [] none none none kd (by rw [List.length_nil]; omega) (by omega) with ⟨q0, z3', z4', z5', q⟩ | ⟨q0, env, g, q⟩
  · rw [hc.2] at q0; cases q0
  · refine ⟨g, frz_err ?_⟩
    refine (rr_body n t h ht ks).trans ?_
    rw [q]; rfl

-- HAND _law_cell_at
-- HAND _law_far
-- HAND _law_left
-- HAND _law_pick
noncomputable def c__law_deed (left_here_ : (List Int)) (n_ : Int) : Ctl Empty Empty (Deed × List Int) Empty := (letC ((v__law_pick left_here_ n_).1, (v__law_pick left_here_ n_).2) (fun r1 : Int × (List Int) => (letC ((v__law_pick r1.2 (12 : Int)).1, (v__law_pick r1.2 (12 : Int)).2) (fun r3 : Int × (List Int) => (if (decide (r3.1 < (6 : Int))) = true then (.rt ((Deed.ask (atZ [Wd.read, Wd.write] (r3.1 % (2 : Int))) r1.1 (atZ [(none : (Option Int)), (none : (Option Int)), (none : (Option Int)), (some (0 : Int)), (some (1 : Int)), (some (9 : Int))] (v__law_pick r3.2 (6 : Int)).1)), (v__law_pick r3.2 (6 : Int)).2)) else (if (decide (r3.1 = (11 : Int))) = true then (.rt (Deed.tick, r3.2)) else (.rt ((Deed.mov (atZ [Wd.up, Wd.down, Wd.leave, Wd.leave, Wd.stop] (r3.1 - (6 : Int))) r1.1), r3.2))))))))
noncomputable def v__law_deed (left_here_ : (List Int)) (n_ : Int) : (Deed × List Int) := (c__law_deed left_here_ n_).get
def d__law_deed (left_here_ : (List Int)) (n_ : Int) : Prop := (d__law_pick left_here_ n_ ∧ letC ((v__law_pick left_here_ n_).1, (v__law_pick left_here_ n_).2) (fun r1 : Int × (List Int) => (d__law_pick r1.2 (12 : Int) ∧ letC ((v__law_pick r1.2 (12 : Int)).1, (v__law_pick r1.2 (12 : Int)).2) (fun r3 : Int × (List Int) => (((decide (r3.1 < (6 : Int))) = true → (inR [Wd.read, Wd.write] (r3.1 % (2 : Int)) ∧ d__law_pick r3.2 (6 : Int) ∧ inR [(none : (Option Int)), (none : (Option Int)), (none : (Option Int)), (some (0 : Int)), (some (1 : Int)), (some (9 : Int))] (v__law_pick r3.2 (6 : Int)).1)) ∧ ((decide (r3.1 < (6 : Int))) = false → (((decide (r3.1 = (11 : Int))) = false → (inR [Wd.up, Wd.down, Wd.leave, Wd.leave, Wd.stop] (r3.1 - (6 : Int)))))))))))
theorem t__law_deed (left_here_ : (List Int)) (n_ : Int) (h : Hh) (p : Nat) (hp : h[p]? = some (oL D.int left_here_)) (ok : d__law_deed left_here_ n_) : F__law_deed (.ref p :: [D.int n_]) h = .ok (eDd (v__law_deed left_here_ n_).1) (h.set p (oL D.int (v__law_deed left_here_ n_).2)) :=
  fn_bor (c := c__law_deed left_here_ n_) (hN := Nat.le_of_ble_eq_true rfl) hp (qs_letX (r := ((v__law_pick left_here_ n_).1, (v__law_pick left_here_ n_).2)) (ed := fun r : Int × (List Int) => D.int r.1) (Ev := (fun r : Int × (List Int) => [some (Sl.bor p (oL D.int r.2)), some (Sl.v (D.int n_)), none, none])) (ok := (fun r1 : Int × (List Int) => (d__law_pick r1.2 (12 : Int) ∧ letC ((v__law_pick r1.2 (12 : Int)).1, (v__law_pick r1.2 (12 : Int)).2) (fun r3 : Int × (List Int) => (((decide (r3.1 < (6 : Int))) = true → (inR [Wd.read, Wd.write] (r3.1 % (2 : Int)) ∧ d__law_pick r3.2 (6 : Int) ∧ inR [(none : (Option Int)), (none : (Option Int)), (none : (Option Int)), (some (0 : Int)), (some (1 : Int)), (some (9 : Int))] (v__law_pick r3.2 (6 : Int)).1)) ∧ ((decide (r3.1 < (6 : Int))) = false → (((decide (r3.1 = (11 : Int))) = false → (inR [Wd.up, Wd.down, Wd.leave, Wd.leave, Wd.stop] (r3.1 - (6 : Int))))))))))) (q_callB2 (.inr ⟨_, rfl⟩) (qa_cons (q_slot 1 rfl) qa_nil) (.inr ⟨_, rfl⟩) (fun h p hp => t__law_pick left_here_ n_ h p hp ok.1)) ok.2 (fun r1 kr1 => (qs_letX (r := ((v__law_pick r1.2 (12 : Int)).1, (v__law_pick r1.2 (12 : Int)).2)) (ed := fun r : Int × (List Int) => D.int r.1) (Ev := (fun r : Int × (List Int) => [some (Sl.bor p (oL D.int r.2)), some (Sl.v (D.int n_)), some (Sl.v (D.int r1.1)), none])) (ok := (fun r3 : Int × (List Int) => (((decide (r3.1 < (6 : Int))) = true → (inR [Wd.read, Wd.write] (r3.1 % (2 : Int)) ∧ d__law_pick r3.2 (6 : Int) ∧ inR [(none : (Option Int)), (none : (Option Int)), (none : (Option Int)), (some (0 : Int)), (some (1 : Int)), (some (9 : Int))] (v__law_pick r3.2 (6 : Int)).1)) ∧ ((decide (r3.1 < (6 : Int))) = false → (((decide (r3.1 = (11 : Int))) = false → (inR [Wd.up, Wd.down, Wd.leave, Wd.leave, Wd.stop] (r3.1 - (6 : Int))))))))) (q_callB2 (.inr ⟨_, rfl⟩) (qa_cons (q_c (d := .int 12)) qa_nil) (.inr ⟨_, rfl⟩) (fun h p hp => t__law_pick r1.2 (12 : Int) h p hp kr1.1)) kr1.2 (fun r3 kr3 => (qs_ifr (qt_e (q_op2 (q_slot 3 rfl) (q_c (d := .int 6)) (fun _ => rfl))) nv_ret (fun kb5 => (qs_retB (i := 0) (q_dask (q_op2 (ql_frz (ql_cons (q_c (d := eW Wd.read)) (ql_cons (q_c (d := eW Wd.write)) ql_nil))) (q_op2 (q_slot 3 rfl) (q_c (d := .int 2)) (o_mod _ _ (by decide))) (o_ixL eW _ _ (kr3.1 kb5).1)) (q_slot 2 rfl) (q_op2 (ql_frz (ql_cons (q_none (e := D.int)) (ql_cons (q_none (e := D.int)) (ql_cons (q_none (e := D.int)) (ql_cons (q_some (q_c (d := .int 0))) (ql_cons (q_some (q_c (d := .int 1))) (ql_cons (q_some (q_c (d := .int 9))) ql_nil))))))) (q_callB2 (.inr ⟨_, rfl⟩) (qa_cons (q_c (d := .int 6)) qa_nil) (.inr ⟨_, rfl⟩) (fun h p hp => t__law_pick r3.2 (6 : Int) h p hp (kr3.1 kb5).2.1)) (o_ixL (eO D.int) _ _ (kr3.1 kb5).2.2))) rfl)) (fun kb6 => (qs_ifr (qt_e (q_op2 (q_slot 3 rfl) (q_c (d := .int 11)) (o_eq D.int _ _))) nv_ret (fun kb7 => (qs_retB (i := 0) (q_dtick (q_c (d := eW Wd.tick))) rfl)) (fun kb8 => (qs_retB (i := 0) (q_dmov (q_op2 (ql_frz (ql_cons (q_c (d := eW Wd.up)) (ql_cons (q_c (d := eW Wd.down)) (ql_cons (q_c (d := eW Wd.leave)) (ql_cons (q_c (d := eW Wd.leave)) (ql_cons (q_c (d := eW Wd.stop)) ql_nil)))))) (q_op2 (q_slot 3 rfl) (q_c (d := .int 6)) (fun _ => rfl)) (o_ixL eW _ _ ((kr3.2 kb6) kb8))) (q_slot 2 rfl)) rfl)))))))))
noncomputable def c__law_deed_text (deed_here_ : Deed) : Ctl Empty Empty Tx Empty := (if (decide (deed_here_ = Deed.tick)) = true then (.rt (tW Wd.tick)) else (letC (mergeG [] [(Wd.read, (tW Wd.reads)), (Wd.write, (tW Wd.writes)), (Wd.leave, (tS "leaves")), (Wd.stop, (tS "stops"))]) (fun r3 : (List (Wd × Tx)) => (letC (tApp (tApp (tI (deed_here_).guest) (tS " ")) ((getG r3 (deed_here_).word).getD (tW (deed_here_).word))) (fun r5 : Tx => (.rt (tApp r5 (tJoin (tS "") ((List.filter (fun y7 : (Option Int) => (y7).isSome) (deed_here_).tail).map (fun y7 : (Option Int) => (tApp (tS " ") (tO y7))))))))))))
noncomputable def v__law_deed_text (deed_here_ : Deed) : Tx := (c__law_deed_text deed_here_).get
def d__law_deed_text (deed_here_ : Deed) : Prop := (((decide (deed_here_ = Deed.tick)) = false → (letC (mergeG [] [(Wd.read, (tW Wd.reads)), (Wd.write, (tW Wd.writes)), (Wd.leave, (tS "leaves")), (Wd.stop, (tS "stops"))]) (fun r3 : (List (Wd × Tx)) => (((deed_here_).isTick = false) ∧ ((deed_here_).guest).natAbs.log2 < 1920 ∧ ((tI (deed_here_).guest)).len + ((tS " ")).len ≤ 16777216 ∧ ((tApp (tI (deed_here_).guest) (tS " "))).len + (((getG r3 (deed_here_).word).getD (tW (deed_here_).word))).len ≤ 16777216 ∧ letC (tApp (tApp (tI (deed_here_).guest) (tS " ")) ((getG r3 (deed_here_).word).getD (tW (deed_here_).word))) (fun r5 : Tx => ((∀ y7 ∈ (deed_here_).tail, (y7).isSome = true → (((y7).isSome = true → ((y7).getD default).natAbs.log2 < 1920) ∧ ((tS " ")).len + ((tO y7)).len ≤ 16777216)) ∧ JoinB (tS "") ((List.filter (fun y7 : (Option Int) => (y7).isSome) (deed_here_).tail).map (fun y7 : (Option Int) => (tApp (tS " ") (tO y7)))) ∧ (r5).len + ((tJoin (tS "") ((List.filter (fun y7 : (Option Int) => (y7).isSome) (deed_here_).tail).map (fun y7 : (Option Int) => (tApp (tS " ") (tO y7)))))).len ≤ 16777216)))))))
theorem t__law_deed_text (deed_here_ : Deed) (h : Hh) (ok : d__law_deed_text deed_here_) : F__law_deed_text [eDd deed_here_] h = .ok (eX (v__law_deed_text deed_here_)) h :=
  fn_frz (c := c__law_deed_text deed_here_) (hN := Nat.le_of_ble_eq_true rfl) (qs_ifr (qt_e (q_op2 (q_slot 0 rfl) (q_dtick (q_c (d := eW Wd.tick))) (o_eq eDd _ _))) nv_ret (fun kb1 => (qs_retF (q_w2t (q_c (d := eW Wd.tick))))) (fun kb2 => (qs_newD (hl := Nat.le_of_ble_eq_true rfl) (i := 1) (e := eX) (ok := (fun r3 : (List (Wd × Tx)) => (((deed_here_).isTick = false) ∧ ((deed_here_).guest).natAbs.log2 < 1920 ∧ ((tI (deed_here_).guest)).len + ((tS " ")).len ≤ 16777216 ∧ ((tApp (tI (deed_here_).guest) (tS " "))).len + (((getG r3 (deed_here_).word).getD (tW (deed_here_).word))).len ≤ 16777216 ∧ letC (tApp (tApp (tI (deed_here_).guest) (tS " ")) ((getG r3 (deed_here_).word).getD (tW (deed_here_).word))) (fun r5 : Tx => ((∀ y7 ∈ (deed_here_).tail, (y7).isSome = true → (((y7).isSome = true → ((y7).getD default).natAbs.log2 < 1920) ∧ ((tS " ")).len + ((tO y7)).len ≤ 16777216)) ∧ JoinB (tS "") ((List.filter (fun y7 : (Option Int) => (y7).isSome) (deed_here_).tail).map (fun y7 : (Option Int) => (tApp (tS " ") (tO y7)))) ∧ (r5).len + ((tJoin (tS "") ((List.filter (fun y7 : (Option Int) => (y7).isSome) (deed_here_).tail).map (fun y7 : (Option Int) => (tApp (tS " ") (tO y7)))))).len ≤ 16777216))))) (qp_cons (q_c (d := eW Wd.read)) (q_w2t (q_c (d := eW Wd.reads))) (qp_cons (q_c (d := eW Wd.write)) (q_w2t (q_c (d := eW Wd.writes))) (qp_cons (q_c (d := eW Wd.leave)) (q_c (d := eX (tS "leaves"))) (qp_cons (q_c (d := eW Wd.stop)) (q_c (d := eX (tS "stops"))) qp_nil)))) (ok kb2) (fun r3 kr3 => (qs_let (e := eX) (ok := (fun r5 : Tx => ((∀ y7 ∈ (deed_here_).tail, (y7).isSome = true → (((y7).isSome = true → ((y7).getD default).natAbs.log2 < 1920) ∧ ((tS " ")).len + ((tO y7)).len ≤ 16777216)) ∧ JoinB (tS "") ((List.filter (fun y7 : (Option Int) => (y7).isSome) (deed_here_).tail).map (fun y7 : (Option Int) => (tApp (tS " ") (tO y7)))) ∧ (r5).len + ((tJoin (tS "") ((List.filter (fun y7 : (Option Int) => (y7).isSome) (deed_here_).tail).map (fun y7 : (Option Int) => (tApp (tS " ") (tO y7)))))).len ≤ 16777216))) (q_op2 (q_op2 (q_opN (qa_cons (q_op2 (q_slot 0 rfl) q_c (o_dg _ kr3.1)) qa_nil) (o_str _ kr3.2.1)) (q_c (d := eX (tS " "))) (o_addX _ _ kr3.2.2.1)) (q_dget2D (i := 1) (e := eX) (.inl rfl) (q_op2 (q_slot 0 rfl) q_c (o_dw _)) (q_w2t (q_op2 (q_slot 0 rfl) q_c (o_dw _)))) (o_addX _ _ kr3.2.2.2.1)) kr3.2.2.2.2 (fun r5 kr5 => (qs_retF (q_op2 (q_slot 2 rfl) (q_join (q_c (d := eX (tS ""))) (ql_frz (ql_comp (e := (eO D.int)) (qi_S (e := (eO D.int)) (q_slice (q_slot 0 rfl) (qo_some q_c) qo_none (o_tail _))) (by decide) rfl (fun _ _ => trivial) (fun y7 m8 => (qt_e (q_op2 (q_slot 3 rfl) q_c (o_notN _)))) (fun y7 m8 kbc => (q_op2 (q_c (d := eX (tS " "))) (q_opN (qa_cons (q_slot 3 rfl) qa_nil) (o_strO _ (kr5.1 y7 m8 kbc).1)) (o_addX _ _ (kr5.1 y7 m8 kbc).2))))) (sx_L _) kr5.2.1) (o_addX _ _ kr5.2.2)))))))))

theorem dpk {l : List Int} {m : Int} (hl : Lk l) (m0 : 0 < m) (m1 : m < 1073741824) : d__law_pick l m := ⟨hl, m0, m1⟩
/-- a rule that is well formed -/
structure ROk (r : TRule) : Prop where
  w : r.1 = .rows ∨ r.1 = .readers ∨ r.1 = .writers ∨ r.1 = .turns ∨ r.1 = .passes
  m : 0 ≤ r.2.1 ∧ r.2.1 ≤ 5
  k : 0 ≤ r.2.2.1 ∧ r.2.2.1 ≤ 9
  kp : r.1 = .passes ∨ r.2.2.1 = 0
  u : r.2.2.2 = 0 ∨ r.2.2.2 = 1

theorem law_deed_of {l : List Int} (hl : Lk l) {n : Int} (h0 : 1 ≤ n) (h1 : n ≤ 1000) : d__law_deed l n ∧ Lk (v__law_deed l n).2 ∧ DdOk n.toNat (v__law_deed l n).1 := by
  obtain ⟨a1, b1, l1⟩ := pk hl (m := n) (by omega)
  obtain ⟨a2, b2, l2⟩ := pk l1 (m := 12) (by decide)
  obtain ⟨a3, b3, l3⟩ := pk l2 (m := 6) (by decide)
  unfold d__law_deed v__law_deed c__law_deed
  dsimp only [letC]
  generalize (v__law_pick (v__law_pick l n).2 12).1 = w at a2 b2 ⊢
  generalize (v__law_pick l n).1 = g at a1 b1 ⊢
  by_cases h6 : w < 6
  · have m0 : 0 ≤ w % 2 := by omega
    have m1 : w % 2 < 2 := by omega
    have hw := atZ_mem (l := [Wd.read, Wd.write]) m0 m1
    have hk := atZ_mem (l := [none, none, none, some (0 : Int), some 1, some 9]) a3 b3
    simp only [h6, decide_true, if_true, Ctl.get_rt]
    refine ⟨⟨dpk hl (by omega) (by omega), dpk l1 (by decide) (by decide), fun _ => ⟨inR_of m0 m1, dpk l2 (by decide) (by decide), inR_of a3 b3⟩, (fun z => by cases z)⟩, l3, ⟨fun _ => ⟨a1, by show g < _; omega⟩, by simpa using hw, ?_⟩⟩
    generalize atZ [none, none, none, some (0 : Int), some 1, some 9] _ = k at hk ⊢
    simp only [List.mem_cons, List.not_mem_nil, or_false] at hk
    rcases hk with rfl | rfl | rfl | rfl | rfl | rfl
    · exact .inl rfl
    · exact .inl rfl
    · exact .inl rfl
    · exact .inr ⟨0, rfl, by decide, by decide⟩
    · exact .inr ⟨1, rfl, by decide, by decide⟩
    · exact .inr ⟨9, rfl, by decide, by decide⟩
  · by_cases h11 : w = 11
    · subst h11
      refine ⟨⟨dpk hl (by omega) (by omega), dpk l1 (by decide) (by decide), (fun z => by cases z), (fun _ z => by cases z)⟩, ?_, ?_⟩
      · exact l2
      · exact ⟨(fun z => by cases z), trivial⟩
    · have m0 : 0 ≤ w - 6 := by omega
      have m1 : w - 6 < 5 := by omega
      have hw := atZ_mem (l := [Wd.up, Wd.down, Wd.leave, Wd.leave, Wd.stop]) m0 m1
      simp only [h6, h11, decide_false, Bool.false_eq_true, if_false, Ctl.get_rt]
      refine ⟨⟨dpk hl (by omega) (by omega), dpk l1 (by decide) (by decide), (fun z => z.elim), fun _ _ => inR_of m0 m1⟩, l2, ⟨fun _ => ⟨a1, by show g < _; omega⟩, ?_⟩⟩
      show _ = Wd.up ∨ _ = Wd.down ∨ _ = Wd.leave ∨ _ = Wd.stop
      generalize atZ [Wd.up, Wd.down, Wd.leave, Wd.leave, Wd.stop] _ = k at hw ⊢
      simp only [List.mem_cons, List.not_mem_nil, or_false] at hw
      rcases hw with rfl | rfl | rfl | rfl | rfl <;> simp

theorem tx_assoc (a b c : Tx) : tApp (tApp a b) c = tApp a (tApp b c) := Tx.ext (str_assoc _ _ _)
theorem tx_join1 (s x : Tx) : tJoin s [x] = x := rfl
theorem tx_join2 (s x y : Tx) (r : List Tx) : tJoin s (x :: y :: r) = tApp x (tApp s (tJoin s (y :: r))) := by
  rw [← tx_assoc]; rfl
theorem len_small : ∀ k : Nat, k < 1000 → (Str.ofString (toString ((k : Nat) : Int))).length ≤ 4 := by decide +kernel
theorem len_I {i : Int} (h0 : 0 ≤ i) (h1 : i < 1000) : (tI i).len ≤ 4 := by
  obtain ⟨k, rfl⟩ : ∃ k : Nat, i = k := ⟨i.toNat, by omega⟩
  exact len_small k (by omega)
theorem len_W (w : Wd) : (tW w).len ≤ 10 := by cases w <;> decide +kernel
theorem log_I {i : Int} (h0 : 0 ≤ i) (h1 : i < 1000) : i.natAbs.log2 < 1920 := by
  have := Nat.log2_le_self i.natAbs
  omega
theorem len_join (s : Tx) : ∀ ys : List Tx, (tJoin s ys).len ≤ (ys.map Tx.len).sum + ys.length * s.len
  | [] => Nat.zero_le _
  | [x] => by rw [tx_join1]; simp
  | x :: y :: r => by
    have := len_join s (y :: r)
    rw [tx_join2, len_app, len_app, List.map_cons, List.sum_cons, List.length_cons, Nat.succ_mul]
    omega
theorem joinB_of {s : Tx} {ys : List Tx} {m : Nat} (h : ∀ y ∈ ys, y.len ≤ m) (hm : ys.length * (m + s.len) ≤ 16777216) : JoinB s ys := by
  have : (ys.map Tx.len).sum ≤ ys.length * m := by
    clear hm
    induction ys with
    | nil => simp
    | cons y ys ih =>
      rw [List.map_cons, List.sum_cons, List.length_cons, Nat.succ_mul]
      have := h y List.mem_cons_self
      have := ih fun z hz => h z (List.mem_cons_of_mem _ hz)
      omega
  unfold JoinB
  rw [Nat.mul_add] at hm
  omega

theorem l_sp : (tS " ").len = 1 := by decide +kernel
theorem l_leaves : (tS "leaves").len = 6 := by decide +kernel
theorem l_stops : (tS "stops").len = 5 := by decide +kernel
theorem verbs {w : Wd} (h : w = Wd.read ∨ w = Wd.write ∨ w = Wd.up ∨ w = Wd.down ∨ w = Wd.leave ∨ w = Wd.stop) : ∃ t, getG [(Wd.read, (tW Wd.reads)), (Wd.write, (tW Wd.writes)), (Wd.up, (tW Wd.up)), (Wd.down, (tW Wd.down)), (Wd.leave, (tS "leaves")), (Wd.stop, (tS "stops"))] w = some t ∧ (getG (mergeG [] [(Wd.read, (tW Wd.reads)), (Wd.write, (tW Wd.writes)), (Wd.leave, (tS "leaves")), (Wd.stop, (tS "stops"))]) w).getD (tW w) = t ∧ t.len ≤ 10 := by
  rcases h with rfl | rfl | rfl | rfl | rfl | rfl
  · exact ⟨_, rfl, rfl, len_W _⟩
  · exact ⟨_, rfl, rfl, len_W _⟩
  · exact ⟨_, rfl, rfl, len_W _⟩
  · exact ⟨_, rfl, rfl, len_W _⟩
  · exact ⟨_, rfl, rfl, by rw [l_leaves]; decide⟩
  · exact ⟨_, rfl, rfl, by rw [l_stops]; decide⟩

section
open PySem.Builtin PySem.Builtin.Str PySem.StrLaws
theorem kind_low (x y : Str) (h : y.cps.all (· < 256) = true) : ¬ PySem.Builtin.Str.strKind x < PySem.Builtin.Str.strKind y := by
  have e : PySem.Builtin.Str.strKind y = 1 := by unfold PySem.Builtin.Str.strKind; rw [if_pos h]
  rw [e]
  unfold PySem.Builtin.Str.strKind
  split
  · omega
  · split <;> omega
theorem join_two (y p q : Str) (r : List Str) : Str.join y (p :: q :: r) = p ++ y ++ Str.join y (q :: r) := rfl
theorem cuts_parts (x y : Str) (c : Nat) (ys : List Nat) (hy : y.cps.toList = c :: ys) : ∀ (r : List Str) (p : Str) (cuts : List Nat) (a f : Nat), a ≤ x.cps.toList.length → x.cps.toList.drop a = (Str.join y (p :: r)).cps.toList → (∀ q ∈ p :: r, c ∉ q.cps.toList) →
    ChainG x y x.length a cuts f → (∀ k, f ≤ k → ¬ At x y x.length k) → partsFrom x y.length a cuts = p :: r := by
  have hl : y.length = ys.length + 1 := by show y.cps.size = _; rw [← Array.length_toList, hy]; rfl
  have hxl : x.length = x.cps.toList.length := by show x.cps.size = _; rw [Array.length_toList]
  have atc : ∀ k, At x y x.length k → x.cps.toList[k]? = some c := fun k h => by
    have h2 := h.2
    rw [subAt_eq, hy, hl] at h2
    have h3 := eq_of_beq h2
    have h4 : ((x.cps.toList.drop k).take (ys.length + 1))[0]? = some c := by rw [h3]; rfl
    rw [List.getElem?_take_of_lt (by omega), List.getElem?_drop] at h4
    exact h4
  intro r
  induction r with
  | nil =>
    intro p cuts a f ha hd hf hc hn
    have hd : x.cps.toList.drop a = p.cps.toList := hd
    have free : ∀ k, a ≤ k → x.cps.toList[k]? ≠ some c := fun k hk z => by
      have : (x.cps.toList.drop a)[k - a]? = some c := by rw [List.getElem?_drop, show a + (k - a) = k by omega]; exact z
      rw [hd] at this
      exact hf p List.mem_cons_self (List.mem_of_getElem? this)
    cases cuts with
    | nil =>
      show [strSub x a x.length] = [p]
      congr 1
      apply Str.ext'
      apply Array.toList_inj.mp
      rw [strSub_toList, hd, ← hd, List.take_of_length_le (by rw [List.length_drop, hxl]; omega)]
    | cons d cs => exact absurd (atc d hc.2.1) (free d hc.1)
  | cons q r ih =>
    intro p cuts a f ha hd hf hc hn
    have hd : x.cps.toList.drop a = p.cps.toList ++ y.cps.toList ++ (Str.join y (q :: r)).cps.toList := by
      rw [hd, join_two]
      show (p.cps ++ y.cps ++ (Str.join y (q :: r)).cps).toList = _
      rw [Array.toList_append, Array.toList_append]
    have len := congrArg List.length hd
    rw [List.length_drop, List.length_append, List.length_append, Array.length_toList (xs := y.cps)] at len
    have hyl : y.cps.size = y.length := rfl
    have hat : At x y x.length (a + p.cps.toList.length) := by
      refine ⟨by rw [hxl]; omega, ?_⟩
      rw [subAt_eq]
      have : x.cps.toList.drop (a + p.cps.toList.length) = y.cps.toList ++ (Str.join y (q :: r)).cps.toList := by
        rw [← List.drop_drop, hd, List.append_assoc, List.drop_left]
      rw [this]
      have : y.length = y.cps.toList.length := by rw [Array.length_toList]; rfl
      rw [this, List.take_left]
      exact beq_self_eq_true _
    have free : ∀ k, a ≤ k → k < a + p.cps.toList.length → x.cps.toList[k]? ≠ some c := fun k hk hk2 z => by
      have : (x.cps.toList.drop a)[k - a]? = some c := by rw [List.getElem?_drop, show a + (k - a) = k by omega]; exact z
      rw [hd, List.append_assoc, List.getElem?_append_left (by omega)] at this
      exact hf p List.mem_cons_self (List.mem_of_getElem? this)
    cases cuts with
    | nil =>
      have e : f = a := hc
      exact absurd hat (hn _ (by omega))
    | cons d cs =>
      obtain ⟨c1, c2, c3, c4⟩ := hc
      have e : d = a + p.cps.toList.length := by
        rcases Nat.lt_trichotomy d (a + p.cps.toList.length) with h | h | h
        · exact absurd (atc d c2) (free d c1 h)
        · exact h
        · exact absurd hat (c3 _ (by omega) h)
      subst e
      show strSub x a _ :: partsFrom x y.length _ cs = _
      rw [ih q cs (a + p.cps.toList.length + y.length) f (by omega) ?_ (fun z hz => hf z (List.mem_cons_of_mem _ hz)) c4 hn]
      · congr 1
        apply Str.ext'
        apply Array.toList_inj.mp
        rw [strSub_toList, hd, List.append_assoc, show a + p.cps.toList.length - a = p.cps.toList.length by omega, List.take_left]
      · rw [← List.drop_drop, ← List.drop_drop, hd, List.append_assoc, List.drop_left]
        have : y.length = y.cps.toList.length := by rw [Array.length_toList]; rfl
        rw [this, List.drop_left]
theorem split_join (y : Str) (c : Nat) (ys : List Nat) (hy : y.cps.toList = c :: ys) (hk : y.cps.all (· < 256) = true) (p : Str) (r : List Str) (hf : ∀ q ∈ p :: r, c ∉ q.cps.toList) : Txt.split (Str.join y (p :: r)) y = p :: r := by
  have hl : 1 ≤ y.length := by show 1 ≤ y.cps.size; rw [← Array.length_toList, hy]; simp
  obtain ⟨f, hG, hn⟩ := occ_tight (Str.join y (p :: r)) y hl
  have key := cuts_parts (Str.join y (p :: r)) y c ys hy r p _ 0 f (Nat.zero_le _) (List.drop_zero ..) hf hG hn
  unfold Txt.split
  by_cases hc : (decide ((Str.join y (p :: r)).length < y.length) || decide (PySem.Builtin.Str.strKind (Str.join y (p :: r)) < PySem.Builtin.Str.strKind y)) = true
  · rw [if_pos hc]
    rw [Bool.or_eq_true, decide_eq_true_eq, decide_eq_true_eq] at hc
    have hc := hc.resolve_right (kind_low _ _ hk)
    cases r with
    | nil => rfl
    | cons q r =>
      rw [join_two] at hc
      rw [Str.length_append, Str.length_append] at hc
      omega
  · rw [if_neg hc]
    by_cases he : (occurrences (Str.join y (p :: r)) y 0 (Str.join y (p :: r)).length ((Str.join y (p :: r)).length + 1)).isEmpty = true
    · rw [if_pos he]
      rw [List.isEmpty_iff.mp he] at key
      refine Eq.trans ?_ key
      show _ = [strSub _ 0 _]
      rw [sub_whole]
    · rw [if_neg he, partsBetween_eq]; exact key
end

theorem one_num : ∀ k : Nat, k < 10 → numT (tI (k : Int)) 1 = some (k : Int) := by decide +kernel
def clean (t : Tx) : Bool := t.1.cps.toList.all fun c => decide (c ≠ 32) && (decide (c ≠ 44) && decide (c ≠ 10))
theorem clean_num : ∀ k : Nat, k < 1000 → clean (tI (k : Int)) = true := by decide +kernel
theorem clean_W (w : Wd) : clean (tW w) = true := by cases w <;> decide +kernel
theorem numB_of {w : Tx} {m : Int} (hl : w.len ≤ 640) (h : (numT w m).isSome = true) : NumB w m := ⟨hl, fun c => by
  unfold numT at h
  rw [if_pos c] at h; exact h⟩
theorem num1 {i : Int} (h0 : 0 ≤ i) (h1 : i ≤ 9) : numT (tI i) 1 = some i ∧ NumB (tI i) 1 := by
  have hl := len_I (i := i) h0 (by omega)
  obtain ⟨k, rfl⟩ : ∃ k : Nat, i = k := ⟨i.toNat, by omega⟩
  have e := one_num k (by omega)
  exact ⟨e, numB_of (by omega) (by rw [e]; rfl)⟩
theorem clean_I {i : Int} (h0 : 0 ≤ i) (h1 : i < 1000) : clean (tI i) = true := by
  obtain ⟨k, rfl⟩ : ∃ k : Nat, i = k := ⟨i.toNat, by omega⟩
  exact clean_num k (by omega)
theorem clean_not {t : Tx} (h : clean t = true) : 32 ∉ t.1.cps.toList ∧ 44 ∉ t.1.cps.toList ∧ 10 ∉ t.1.cps.toList := by
  have := List.all_eq_true.mp h
  refine ⟨fun m => ?_, fun m => ?_, fun m => ?_⟩
  · have := this _ m; simp at this
  · have := this _ m; simp at this
  · have := this _ m; simp at this
theorem split_tx (y : Tx) (c : Nat) (ys : List Nat) (hy : y.1.cps.toList = c :: ys) (hk : y.1.cps.all (· < 256) = true) (p : Tx) (r : List Tx) (hf : ∀ q ∈ p :: r, c ∉ q.1.cps.toList) (hl : (tJoin y (p :: r)).len + 2 ≤ 16777216) : tSplit (tJoin y (p :: r)) y = p :: r ∧ SplB (tJoin y (p :: r)) y := by
  have e : Txt.split (tJoin y (p :: r)).1 y.1 = (p :: r).map (fun t : Tx => t.1) := split_join y.1 c ys hy hk p.1 (r.map fun t : Tx => t.1) (fun q hq => by
    obtain ⟨t, ht, rfl⟩ := List.mem_map.mp (show q ∈ (p :: r).map (fun t : Tx => t.1) from hq)
    exact hf t ht)
  refine ⟨?_, ?_, hl, ?_⟩
  · unfold tSplit
    rw [e, List.map_map]
    exact (List.map_congr_left fun t _ => tOf_self t).trans (List.map_id _)
  · have : y.len = ys.length + 1 := by show y.1.cps.size = _; rw [← Array.length_toList, hy]; rfl
    rw [this]; rfl
  · rw [e]
    intro s hs
    obtain ⟨t, _, rfl⟩ := List.mem_map.mp hs
    exact t.2
theorem split_sp (p : Tx) (r : List Tx) (hf : ∀ q ∈ p :: r, clean q = true) (hl : ((p :: r).map Tx.len).sum + (p :: r).length ≤ 100000) : tSplit (tJoin (tS " ") (p :: r)) (tS " ") = p :: r ∧ SplB (tJoin (tS " ") (p :: r)) (tS " ") := by
  have := len_join (tS " ") (p :: r)
  rw [l_sp] at this
  exact split_tx (tS " ") 32 [] rfl (by decide +kernel) p r (fun q hq => (clean_not (hf q hq)).1) (by omega)

theorem is_deed_eq {n : Nat} {d : Deed} (D : DdOk n d) : v_is_deed n d = true ∧ d_is_deed n d := by
  unfold v_is_deed c_is_deed d_is_deed v_is_between c_is_between
  cases d with
  | tick => exact ⟨rfl, fun _ z => by cases z⟩
  | ask w g l =>
    obtain ⟨gs, wd, lf⟩ := D
    have g' : 0 ≤ g ∧ g < n := gs rfl
    have b : (decide (0 ≤ g) && decide (g ≤ (n : Int) - 1)) = true := by rw [decide_eq_true g'.1, decide_eq_true (by omega)]; rfl
    rcases wd with rfl | rfl <;> rcases lf with rfl | ⟨k, rfl, k0, k1⟩ <;> simp [Deed.word, Deed.size, Deed.guest, Deed.left, Deed.isTick, Deed.isAsk, b, g'.1, (by omega : g ≤ (n : Int) - 1), *]
  | mov w g =>
    obtain ⟨gs, wd⟩ := D
    have g' : 0 ≤ g ∧ g < n := gs rfl
    have wd : w = Wd.up ∨ w = Wd.down ∨ w = Wd.leave ∨ w = Wd.stop := wd
    rcases wd with rfl | rfl | rfl | rfl <;> simp [Deed.word, Deed.size, Deed.guest, Deed.isTick, g'.1, (by omega : g ≤ (n : Int) - 1)]

def vT (w : Wd) : Tx := match w with
  | .read => tW .reads
  | .write => tW .writes
  | .leave => tS "leaves"
  | .stop => tS "stops"
  | w => tW w
def dW : Deed → List Tx
  | .tick => [tW .tick]
  | .mov w g => [tI g, vT w]
  | .ask w g none => [tI g, vT w]
  | .ask w g (some l) => [tI g, vT w, tI l]
def txD (d : Deed) : Tx := tJoin (tS " ") (dW d)
theorem deed_words {n : Nat} {d : Deed} (D : DdOk n d) : txD d = tJoin (tS " ") (dW d) := rfl
theorem verb_of {w : Wd} (h : w = Wd.read ∨ w = Wd.write ∨ w = Wd.up ∨ w = Wd.down ∨ w = Wd.leave ∨ w = Wd.stop) : (vT w, w) ∈ verbT ∧ clean (vT w) = true ∧ (vT w).len ≤ 10 := by
  rcases h with rfl | rfl | rfl | rfl | rfl | rfl <;> exact ⟨by simp [verbT, vT], by decide +kernel, by decide +kernel⟩
theorem sp_in (p q : Tx) (r : List Tx) : 32 ∈ (tJoin (tS " ") (p :: q :: r)).1.cps.toList := by
  rw [tx_join2]
  show 32 ∈ (p.1.cps ++ ((tS " ").1.cps ++ (tJoin (tS " ") (q :: r)).1.cps)).toList
  rw [Array.toList_append, Array.toList_append, List.mem_append, List.mem_append]
  exact .inr (.inl (by decide +kernel))
theorem numB1 (x : Tx) (hl : x.len ≤ 640) : NumB x 1 := by
  refine ⟨hl, fun c => ?_⟩
  rw [Bool.and_eq_true, Bool.and_eq_true] at c
  obtain ⟨⟨c1, c2⟩, c3⟩ := c
  have c1 := of_decide_eq_true c1
  have c2 := of_decide_eq_true c2
  have hs : x.1.cps.toList.length = 1 := by
    rw [Array.length_toList]
    have e : x.len = x.1.cps.size := rfl
    omega
  obtain ⟨k, hk⟩ := List.length_eq_one_iff.mp hs
  have e0 : x.1 = ⟨#[k]⟩ := by
    have : x.1.cps = #[k] := by rw [← Array.toList_inj, hk]
    cases hx : x.1 with
    | mk cps => rw [hx] at this; cases this; rfl
  unfold sgOk at c3
  rw [hk] at c3
  have c3 : (decide (k ∈ (("0123456789" : Str)).cps.toList) && true) = true := c3
  rw [Bool.and_true] at c3
  have c3 := of_decide_eq_true c3
  have e1 : (("0123456789" : Str)).cps.toList = [48, 49, 50, 51, 52, 53, 54, 55, 56, 57] := by decide +kernel
  rw [e1] at c3
  rw [e0]
  simp only [List.mem_cons, List.not_mem_nil, or_false] at c3
  rcases c3 with rfl | rfl | rfl | rfl | rfl | rfl | rfl | rfl | rfl | rfl <;> decide +kernel
theorem read_asks {n : Int} {t : Tx} (ks : SplB t (tS " ")) (hl : ∀ x ∈ tSplit t (tS " "), x.len ≤ 640) : d_deed_in n t := ⟨ks, fun x hx => numB1 x (hl x hx)⟩
theorem verbW_of {w : Wd} (h : w = Wd.read ∨ w = Wd.write ∨ w = Wd.up ∨ w = Wd.down ∨ w = Wd.leave ∨ w = Wd.stop) : verbW (vT w) = some w := by
  rcases h with rfl | rfl | rfl | rfl | rfl | rfl <;> decide +kernel
theorem line_deed {n : Nat} (hn : n ≤ 10) {d : Deed} (D : DdOk n d) : v_deed_in n (txD d) = some d ∧ d_deed_in n (txD d) := by
  have hd := is_deed_eq D
  rw [deed_words D]
  cases d with
  | tick =>
    have e1 : tJoin (tS " ") (dW .tick) = tW .tick := rfl
    obtain ⟨s1, s2⟩ := split_sp (tW .tick) [] (fun q hq => by rw [List.mem_singleton.mp hq]; exact clean_W _) (by have := len_W .tick; simp; omega)
    rw [e1]
    rw [tx_join1] at s1 s2
    exact ⟨if_pos rfl, read_asks s2 fun x hx => by rw [s1] at hx; rw [List.mem_singleton.mp hx]; have := len_W .tick; omega⟩
  | mov w g =>
    obtain ⟨gs, wd⟩ := D
    have wd : w = Wd.up ∨ w = Wd.down ∨ w = Wd.leave ∨ w = Wd.stop := wd
    have g' : 0 ≤ g ∧ g < n := gs rfl
    have hw : w = Wd.read ∨ w = Wd.write ∨ w = Wd.up ∨ w = Wd.down ∨ w = Wd.leave ∨ w = Wd.stop := .inr (.inr wd)
    obtain ⟨v1, v2, v3⟩ := verb_of hw
    have lg := len_I (i := g) g'.1 (by omega)
    have n1 := (num1 g'.1 (by omega : g ≤ 9)).1
    have cl : ∀ q ∈ [tI g, vT w], clean q = true := fun q hq => by
      simp only [List.mem_cons, List.not_mem_nil, or_false] at hq
      rcases hq with rfl | rfl
      · exact clean_I g'.1 (by omega)
      · exact v2
    obtain ⟨s1, s2⟩ := split_sp (tI g) [vT w] cl (by simp; omega)
    have nt : ¬ tJoin (tS " ") (dW (.mov w g)) = tW .tick := fun z => by
      have := sp_in (tI g) (vT w) []
      rw [show tJoin (tS " ") [tI g, vT w] = tW .tick from z] at this
      exact (clean_not (clean_W .tick)).1 this
    have nr : ¬ (w = .read ∨ w = .write) := by rcases wd with rfl | rfl | rfl | rfl <;> decide
    refine ⟨?_, read_asks s2 fun x hx => ?_⟩
    · unfold v_deed_in
      rw [if_neg nt]
      show lineD n (tSplit (tJoin (tS " ") [tI g, vT w]) (tS " ")) = _
      rw [s1]
      unfold lineD
      dsimp only
      rw [verbW_of hw, n1]
      show chkD n (rawD w g []) = _
      unfold rawD
      rw [if_neg nr]
      show (if v_is_deed n (.mov w g) = true then some (Deed.mov w g) else none) = _
      rw [hd.1]; rfl
    · have hx : x ∈ tSplit (tJoin (tS " ") [tI g, vT w]) (tS " ") := hx
      rw [s1] at hx
      simp only [List.mem_cons, List.not_mem_nil, or_false] at hx
      rcases hx with rfl | rfl <;> omega
  | ask w g l =>
    obtain ⟨gs, wd, lf⟩ := D
    have g' : 0 ≤ g ∧ g < n := gs rfl
    have hw : w = Wd.read ∨ w = Wd.write ∨ w = Wd.up ∨ w = Wd.down ∨ w = Wd.leave ∨ w = Wd.stop := by rcases wd with h | h <;> simp [h]
    obtain ⟨v1, v2, v3⟩ := verb_of hw
    have lg := len_I (i := g) g'.1 (by omega)
    have n1 := (num1 g'.1 (by omega : g ≤ 9)).1
    rcases lf with rfl | ⟨k, rfl, k0, k1⟩
    · have cl : ∀ q ∈ [tI g, vT w], clean q = true := fun q hq => by
        simp only [List.mem_cons, List.not_mem_nil, or_false] at hq
        rcases hq with rfl | rfl
        · exact clean_I g'.1 (by omega)
        · exact v2
      obtain ⟨s1, s2⟩ := split_sp (tI g) [vT w] cl (by simp; omega)
      have nt : ¬ tJoin (tS " ") (dW (.ask w g none)) = tW .tick := fun z => by
        have := sp_in (tI g) (vT w) []
        rw [show tJoin (tS " ") [tI g, vT w] = tW .tick from z] at this
        exact (clean_not (clean_W .tick)).1 this
      refine ⟨?_, read_asks s2 fun x hx => ?_⟩
      · unfold v_deed_in
        rw [if_neg nt]
        show lineD n (tSplit (tJoin (tS " ") [tI g, vT w]) (tS " ")) = _
        rw [s1]
        unfold lineD
        dsimp only
        rw [verbW_of hw, n1]
        show chkD n (rawD w g []) = _
        unfold rawD
        rw [if_pos wd]
        show (if v_is_deed n (.ask w g none) = true then some (Deed.ask w g none) else none) = _
        rw [hd.1]; rfl
      · have hx : x ∈ tSplit (tJoin (tS " ") [tI g, vT w]) (tS " ") := hx
        rw [s1] at hx
        simp only [List.mem_cons, List.not_mem_nil, or_false] at hx
        rcases hx with rfl | rfl <;> omega
    · have lk := len_I (i := k) k0 (by omega)
      have nk := (num1 k0 k1).1
      have cl : ∀ q ∈ [tI g, vT w, tI k], clean q = true := fun q hq => by
        simp only [List.mem_cons, List.not_mem_nil, or_false] at hq
        rcases hq with rfl | rfl | rfl
        · exact clean_I g'.1 (by omega)
        · exact v2
        · exact clean_I k0 (by omega)
      obtain ⟨s1, s2⟩ := split_sp (tI g) [vT w, tI k] cl (by simp; omega)
      have nt : ¬ tJoin (tS " ") (dW (.ask w g (some k))) = tW .tick := fun z => by
        have := sp_in (tI g) (vT w) [tI k]
        rw [show tJoin (tS " ") [tI g, vT w, tI k] = tW .tick from z] at this
        exact (clean_not (clean_W .tick)).1 this
      refine ⟨?_, read_asks s2 fun x hx => ?_⟩
      · unfold v_deed_in
        rw [if_neg nt]
        show lineD n (tSplit (tJoin (tS " ") [tI g, vT w, tI k]) (tS " ")) = _
        rw [s1]
        unfold lineD
        dsimp only
        rw [verbW_of hw, n1]
        show chkD n (rawD w g [tI k]) = _
        unfold rawD
        rw [if_pos wd]
        show chkD n ((numT (tI k) 1).map fun l => .ask w g (some l)) = _
        rw [nk]
        show (if v_is_deed n (.ask w g (some k)) = true then some (Deed.ask w g (some k)) else none) = _
        rw [hd.1]; rfl
      · have hx : x ∈ tSplit (tJoin (tS " ") [tI g, vT w, tI k]) (tS " ") := hx
        rw [s1] at hx
        simp only [List.mem_cons, List.not_mem_nil, or_false] at hx
        rcases hx with rfl | rfl | rfl <;> omega

theorem join_parts (y : Str) : ∀ ps : List Str, ∀ p ∈ ps, p.length ≤ (Str.join y ps).length ∧ ∀ c ∈ p.cps.toList, c ∈ (Str.join y ps).cps.toList
  | [], p, h => nomatch h
  | [x], p, h => by rw [List.mem_singleton.mp h]; exact ⟨Nat.le_refl _, fun c hc => hc⟩
  | x :: z :: r, p, h => by
    have e : Str.join y (x :: z :: r) = x ++ y ++ Str.join y (z :: r) := rfl
    rw [e]
    have el : (x ++ y ++ Str.join y (z :: r)).length = x.length + y.length + (Str.join y (z :: r)).length := by rw [Str.length_append, Str.length_append]
    have em : (x ++ y ++ Str.join y (z :: r)).cps.toList = x.cps.toList ++ y.cps.toList ++ (Str.join y (z :: r)).cps.toList := by
      show (x.cps ++ y.cps ++ (Str.join y (z :: r)).cps).toList = _
      rw [Array.toList_append, Array.toList_append]
    rw [el, em]
    rcases List.mem_cons.mp h with rfl | h
    · exact ⟨by omega, fun c hc => List.mem_append_left _ (List.mem_append_left _ hc)⟩
    · obtain ⟨a, b⟩ := join_parts y (z :: r) p h
      exact ⟨by omega, fun c hc => List.mem_append_right _ (b c hc)⟩
theorem join_count (y : Str) (hy : 1 ≤ y.length) : ∀ ps : List Str, ps.length ≤ (Str.join y ps).length + 1
  | [] => Nat.zero_le _
  | [x] => by simp
  | x :: z :: r => by
    have e : Str.join y (x :: z :: r) = x ++ y ++ Str.join y (z :: r) := rfl
    have := join_count y hy (z :: r)
    rw [e, Str.length_append, Str.length_append]
    simp only [List.length_cons] at this ⊢
    omega
theorem spl_any (t s : Tx) (hs : 1 ≤ s.len) (hl : t.len ≤ 100000) : SplB t s ∧ (∀ x ∈ tSplit t s, x.len ≤ t.len) ∧ (tSplit t s).length ≤ t.len + 1 := by
  have ej := PySem.StrLaws.join_split t.1 s.1
  have jp := join_parts s.1 (Txt.split t.1 s.1)
  have jc := join_count s.1 hs (Txt.split t.1 s.1)
  rw [ej] at jp jc
  have ok : ∀ p ∈ Txt.split t.1 s.1, PyData.strOk p = true := fun p hp => ok_iff.mpr fun c hc => ok_iff.mp t.2 c ((jp p hp).2 c hc)
  refine ⟨⟨?_, by omega, ok⟩, fun x hx => ?_, ?_⟩
  · rw [beq_eq_false_iff_ne]
    omega
  · obtain ⟨p, hp, rfl⟩ := List.mem_map.mp hx
    have e : (tOf p).1 = p := by
      unfold tOf
      rw [dif_pos (ok p hp)]
    show (tOf p).1.length ≤ t.1.length
    rw [e]
    exact (jp p hp).1
  · unfold tSplit
    rw [List.length_map]
    exact jc
theorem line_asks (n : Int) (t : Tx) (hl : t.len ≤ 640) : d_deed_in n t := by
  obtain ⟨a, b, _⟩ := spl_any t (tS " ") (by decide +kernel) (by omega)
  exact read_asks a fun x hx => Nat.le_trans (b x hx) hl
theorem getG_cons {κ α : Type} [DecidableEq κ] (p : κ × α) (l : List (κ × α)) (j : κ) : getG (p :: l) j = if p.1 = j then some p.2 else getG l j := by
  unfold getG
  rw [List.find?_cons]
  by_cases h : p.1 = j
  · rw [decide_eq_true h, if_pos h]; rfl
  · rw [decide_eq_false h, if_neg h]
theorem getG_app {κ α : Type} [DecidableEq κ] (p : κ × α) (j : κ) : ∀ l : List (κ × α), getG (l ++ [p]) j = match getG l j with | some v => some v | none => if p.1 = j then some p.2 else none
  | [] => by rw [List.nil_append, getG_cons]; rfl
  | q :: l => by
    rw [List.cons_append, getG_cons, getG_cons, getG_app p j l]
    split <;> rfl
theorem getG_put {κ α : Type} [DecidableEq κ] (kvs : List (κ × α)) (k : κ) (v : α) (j : κ) : getG (putG kvs k v) j = if j = k then some v else getG kvs j := by
  have up : ∀ kvs : List (κ × α), getG (kvs.map fun kv => if kv.1 = k then (kv.1, v) else kv) j = if j = k then (getG kvs k).map (fun _ => v) else getG kvs j := by
    intro kvs
    induction kvs with
    | nil => split <;> rfl
    | cons p l ih =>
      rw [List.map_cons, getG_cons, getG_cons, getG_cons, ih]
      by_cases hp : p.1 = k
      · rw [if_pos hp]
        by_cases hj : j = k
        · rw [if_pos (hp.trans hj.symm), if_pos hp, if_pos hj]; rfl
        · rw [if_neg hj, if_neg (fun z => hj (z.symm.trans hp)), if_neg hj, if_neg (fun z => hj (z.symm.trans hp))]
      · rw [if_neg hp, if_neg hp]
        by_cases hj : j = k
        · rw [if_pos hj, if_pos hj, if_neg (fun z => hp (z.trans hj))]
        · rw [if_neg hj, if_neg hj]
  unfold putG
  rw [any_get]
  cases h : getG kvs k with
  | some w =>
    rw [if_pos (show (some w).isSome = true from rfl), up, h]; rfl
  | none =>
    rw [if_neg (show ¬ (none : Option α).isSome = true by simp), getG_app]
    by_cases hj : j = k
    · rw [if_pos hj, hj, h]
      dsimp only
      rw [if_pos rfl]
    · rw [if_neg hj]
      cases getG kvs j with
      | some x => rfl
      | none =>
        dsimp only
        rw [if_neg (fun z => hj (Eq.symm z))]
theorem putG_len {κ α : Type} [DecidableEq κ] (kvs : List (κ × α)) (k : κ) (v : α) : (putG kvs k v).length = kvs.length + (if (getG kvs k).isSome = true then 0 else 1) := by
  unfold putG
  rw [any_get]
  split
  · rw [List.length_map, Nat.add_zero]
  · rw [List.length_append, List.length_singleton]

theorem tx_join_split (t s : Tx) : tJoin s (tSplit t s) = t := by
  have ej := PySem.StrLaws.join_split t.1 s.1
  have jp := join_parts s.1 (Txt.split t.1 s.1)
  rw [ej] at jp
  apply Tx.ext
  show Str.join s.1 ((tSplit t s).map fun x : Tx => x.1) = t.1
  have e : (tSplit t s).map (fun x : Tx => x.1) = Txt.split t.1 s.1 := by
    unfold tSplit
    rw [List.map_map]
    refine (List.map_congr_left fun p hp => ?_).trans (List.map_id _)
    show (tOf p).1 = p
    unfold tOf
    rw [dif_pos (ok_iff.mpr fun c hc => ok_iff.mp t.2 c ((jp p hp).2 c hc))]
  rw [e, ej]
theorem num_conv {x : Tx} {i : Int} (h : numT x 1 = some i) : x = tI i ∧ 0 ≤ i ∧ i ≤ 9 := by
  unfold numT at h
  split at h
  · rename_i c
    rw [Bool.and_eq_true, Bool.and_eq_true] at c
    obtain ⟨⟨c1, c2⟩, c3⟩ := c
    have c1 := of_decide_eq_true c1
    have c2 := of_decide_eq_true c2
    have hs : x.1.cps.toList.length = 1 := by
      rw [Array.length_toList]
      have e : x.len = x.1.cps.size := rfl
      omega
    obtain ⟨k, hk⟩ := List.length_eq_one_iff.mp hs
    have e0 : x.1 = ⟨#[k]⟩ := by
      have : x.1.cps = #[k] := by rw [← Array.toList_inj, hk]
      cases hx : x.1 with
      | mk cps => rw [hx] at this; cases this; rfl
    unfold sgOk at c3
    rw [hk] at c3
    have c3 : (decide (k ∈ (("0123456789" : Str)).cps.toList) && true) = true := c3
    rw [Bool.and_true] at c3
    have c3 := of_decide_eq_true c3
    have e1 : (("0123456789" : Str)).cps.toList = [48, 49, 50, 51, 52, 53, 54, 55, 56, 57] := by decide +kernel
    rw [e1] at c3
    have key : ∀ j : Nat, j < 10 → k = 48 + j → x = tI i ∧ 0 ≤ i ∧ i ≤ 9 := fun j hj hkj => by
      have ex : x = tI (j : Int) := by
        apply Tx.ext
        rw [e0, hkj]
        have : ∀ j : Nat, j < 10 → (⟨#[48 + j]⟩ : Str) = (tI (j : Int)).1 := by decide +kernel
        exact this j hj
      have en := one_num j hj
      rw [← ex] at en
      unfold numT at en
      rw [if_pos (by rw [Bool.and_eq_true, Bool.and_eq_true]; refine ⟨⟨decide_eq_true c1, decide_eq_true c2⟩, ?_⟩; unfold sgOk; rw [hk]; show (decide (k ∈ (("0123456789" : Str)).cps.toList) && true) = true; rw [Bool.and_true, e1]; exact decide_eq_true c3)] at en
      rw [h] at en
      have en := Option.some.inj en
      subst en
      exact ⟨ex, by omega, by omega⟩
    simp only [List.mem_cons, List.not_mem_nil, or_false] at c3
    rcases c3 with z | z | z | z | z | z | z | z | z | z
    · exact key 0 (by omega) (by omega)
    · exact key 1 (by omega) (by omega)
    · exact key 2 (by omega) (by omega)
    · exact key 3 (by omega) (by omega)
    · exact key 4 (by omega) (by omega)
    · exact key 5 (by omega) (by omega)
    · exact key 6 (by omega) (by omega)
    · exact key 7 (by omega) (by omega)
    · exact key 8 (by omega) (by omega)
    · exact key 9 (by omega) (by omega)
  · cases h
theorem verb_conv {v : Tx} {w : Wd} (h : verbW v = some w) : v = vT w ∧ (w = Wd.read ∨ w = Wd.write ∨ w = Wd.up ∨ w = Wd.down ∨ w = Wd.leave ∨ w = Wd.stop) := by
  unfold verbW at h
  cases e : verbT.find? (fun p => decide (p.1 = v)) with
  | none => rw [e] at h; cases h
  | some p =>
    rw [e] at h
    have h : some p.2 = some w := h
    have h := Option.some.inj h
    have m := List.mem_of_find?_eq_some e
    have q : decide (p.1 = v) = true := List.find?_some (p := fun p : Tx × Wd => decide (p.1 = v)) e
    have q := of_decide_eq_true q
    subst h
    subst q
    simp only [verbT, List.mem_cons, List.not_mem_nil, or_false] at m
    rcases m with rfl | rfl | rfl | rfl | rfl | rfl <;> exact ⟨rfl, by simp⟩
theorem line_conv {n : Nat} {t : Tx} {d : Deed} (h : v_deed_in n t = some d) : DdOk n d ∧ t = txD d := by
  unfold v_deed_in at h
  split at h
  · rename_i ht
    cases h
    exact ⟨⟨(fun z => by cases z), trivial⟩, ht⟩
  · have hj := tx_join_split t (tS " ")
    generalize tSplit t (tS " ") = ws at h hj
    unfold lineD at h
    split at h
    · rename_i g v rest
      cases hv : verbW v with
      | none => rw [hv] at h; cases h
      | some w =>
        rw [hv] at h
        dsimp only at h
        obtain ⟨ev, hw⟩ := verb_conv hv
        cases hg : numT g 1 with
        | none => rw [hg] at h; cases h
        | some gi =>
          rw [hg] at h
          dsimp only at h
          obtain ⟨eg, g0, g9⟩ := num_conv hg
          subst ev
          subst eg
          have chk : ∀ {o : Option Deed}, chkD n o = some d → o = some d ∧ v_is_deed n d = true := fun {o} q => by
            cases o with
            | none => cases q
            | some d' =>
              have q : (if v_is_deed n d' = true then some d' else none) = some d := q
              split at q
              · rename_i c
                cases q
                exact ⟨rfl, c⟩
              · cases q
          obtain ⟨er, hd⟩ := chk h
          have bt : ∀ a b c : Int, v_is_between a b c = (decide (b ≤ a) && decide (a ≤ c)) := fun a b c => by
            unfold v_is_between c_is_between
            simp [Ctl.get, letC]
          unfold rawD at er
          split at er
          · rename_i hrw
            unfold askR at er
            split at er
            · cases er
              refine ⟨⟨fun _ => ?_, hrw, .inl rfl⟩, hj.symm⟩
              unfold v_is_deed c_is_deed at hd
              rcases hrw with rfl | rfl <;> simp [Deed.size, Deed.word, Deed.guest, Deed.left, bt, Ctl.get] at hd <;> exact ⟨hd.1, by show gi < (n : Int); omega⟩
            · rename_i x
              cases hx : numT x 1 with
              | none => rw [hx] at er; cases er
              | some l =>
                rw [hx] at er
                cases er
                obtain ⟨ex, l0, l9⟩ := num_conv hx
                subst ex
                refine ⟨⟨fun _ => ?_, hrw, .inr ⟨l, rfl, l0, l9⟩⟩, hj.symm⟩
                unfold v_is_deed c_is_deed at hd
                rcases hrw with rfl | rfl <;> simp [Deed.size, Deed.word, Deed.guest, Deed.left, bt, Ctl.get] at hd <;> exact ⟨hd.1.1, by show gi < (n : Int); omega⟩
            · cases er
          · rename_i hrw
            unfold movR at er
            split at er
            · cases er
              have wd : w = Wd.up ∨ w = Wd.down ∨ w = Wd.leave ∨ w = Wd.stop := by
                rcases hw with z | z | z
                · exact absurd (.inl z) hrw
                · exact absurd (.inr z) hrw
                · exact z
              refine ⟨⟨fun _ => ?_, wd⟩, hj.symm⟩
              unfold v_is_deed c_is_deed at hd
              rcases wd with rfl | rfl | rfl | rfl <;> simp [Deed.size, Deed.word, Deed.guest, Deed.left, bt, Ctl.get] at hd <;> exact ⟨hd.1, by show gi < (n : Int); omega⟩
            · cases er
    · cases h

theorem words50 {w : Wd} (h : w = Wd.read ∨ w = Wd.write ∨ w = Wd.up ∨ w = Wd.down ∨ w = Wd.leave ∨ w = Wd.stop) : (getG (mergeG [] [(Wd.read, (tW Wd.reads)), (Wd.write, (tW Wd.writes)), (Wd.leave, (tS "leaves")), (Wd.stop, (tS "stops"))]) w).getD (tW w) = vT w := by
  rcases h with rfl | rfl | rfl | rfl | rfl | rfl <;> rfl
theorem law_deed50 {n : Nat} (hn : n ≤ 10) {d : Deed} (D : DdOk n d) : v__law_deed_text d = txD d ∧ d__law_deed_text d := by
  have l0 : (tS "" : Tx).len = 0 := by decide +kernel
  have l1 : (tS " " : Tx).len = 1 := by decide +kernel
  have z0 : (tS "" : Tx) = tZ := Tx.ext (by decide +kernel)
  cases d with
  | tick => exact ⟨rfl, (fun z => by cases z)⟩
  | mov w g =>
    obtain ⟨gs, wd⟩ := D
    have g' : 0 ≤ g ∧ g < n := gs rfl
    have wd : w = Wd.up ∨ w = Wd.down ∨ w = Wd.leave ∨ w = Wd.stop := wd
    have hw : w = Wd.read ∨ w = Wd.write ∨ w = Wd.up ∨ w = Wd.down ∨ w = Wd.leave ∨ w = Wd.stop := .inr (.inr wd)
    obtain ⟨_, _, v3⟩ := verb_of hw
    have ew := words50 hw
    have lg := len_I (i := g) g'.1 (by omega)
    have lg2 := log_I (i := g) g'.1 (by omega)
    constructor
    · unfold v__law_deed_text c__law_deed_text
      rw [if_neg (by simp)]
      dsimp only [letC, Deed.word, Deed.guest]
      rw [ew]
      show tApp (tApp (tApp (tI g) (tS " ")) (vT w)) (tJoin (tS "") []) = tJoin (tS " ") [tI g, vT w]
      rw [tx_join2, tx_join1, tx_assoc, tx_assoc]
      rfl
    · unfold d__law_deed_text
      dsimp only [letC, Deed.word, Deed.guest]
      rw [ew]
      intro _
      refine ⟨rfl, lg2, by omega, by rw [len_app]; omega, (fun y hy => by cases hy), joinB_of (m := 0) (fun y hy => by cases hy) (by show 0 * _ ≤ _; omega), ?_⟩
      show (tApp (tApp (tI g) (tS " ")) (vT w)).len + (tJoin (tS "") []).len ≤ _
      rw [len_app, len_app]
      have : (tJoin (tS "") [] : Tx).len = 0 := by decide +kernel
      omega
  | ask w g l =>
    obtain ⟨gs, wd, lf⟩ := D
    have g' : 0 ≤ g ∧ g < n := gs rfl
    have wd : w = Wd.read ∨ w = Wd.write := wd
    have hw : w = Wd.read ∨ w = Wd.write ∨ w = Wd.up ∨ w = Wd.down ∨ w = Wd.leave ∨ w = Wd.stop := by rcases wd with h | h <;> simp [h]
    obtain ⟨_, _, v3⟩ := verb_of hw
    have ew := words50 hw
    have lg := len_I (i := g) g'.1 (by omega)
    have lg2 := log_I (i := g) g'.1 (by omega)
    rcases lf with rfl | ⟨k, rfl, k0, k1⟩
    · constructor
      · unfold v__law_deed_text c__law_deed_text
        rw [if_neg (by simp)]
        dsimp only [letC, Deed.word, Deed.guest]
        rw [ew]
        show tApp (tApp (tApp (tI g) (tS " ")) (vT w)) (tJoin (tS "") []) = tJoin (tS " ") [tI g, vT w]
        rw [tx_join2, tx_join1, tx_assoc, tx_assoc]
        rfl
      · unfold d__law_deed_text
        dsimp only [letC, Deed.word, Deed.guest]
        rw [ew]
        intro _
        refine ⟨rfl, lg2, by omega, by rw [len_app]; omega, (fun y hy q => by rw [List.mem_singleton.mp hy] at q; cases q), joinB_of (m := 0) (fun y hy => by cases hy) (by show 0 * _ ≤ _; omega), ?_⟩
        show (tApp (tApp (tI g) (tS " ")) (vT w)).len + (tJoin (tS "") []).len ≤ _
        rw [len_app, len_app]
        have : (tJoin (tS "") [] : Tx).len = 0 := by decide +kernel
        omega
    · have lk := len_I (i := k) k0 (by omega)
      have lk2 := log_I (i := k) k0 (by omega)
      constructor
      · unfold v__law_deed_text c__law_deed_text
        rw [if_neg (by simp)]
        dsimp only [letC, Deed.word, Deed.guest]
        rw [ew]
        show tApp (tApp (tApp (tI g) (tS " ")) (vT w)) (tJoin (tS "") [tApp (tS " ") (tI k)]) = tJoin (tS " ") [tI g, vT w, tI k]
        rw [tx_join2, tx_join2, tx_join1, tx_join1, tx_assoc, tx_assoc]
      · unfold d__law_deed_text
        dsimp only [letC, Deed.word, Deed.guest]
        rw [ew]
        intro _
        refine ⟨rfl, lg2, by omega, by rw [len_app]; omega, (fun y hy q => ?_), joinB_of (m := 20) (fun y hy => ?_) ?_, ?_⟩
        · rw [List.mem_singleton.mp hy]
          exact ⟨fun _ => lk2, by show (tS " ").len + (tI k).len ≤ _; omega⟩
        · have hy : y ∈ [tApp (tS " ") (tI k)] := hy
          rw [List.mem_singleton.mp hy, len_app]; omega
        · show 1 * _ ≤ _; omega
        · show (tApp (tApp (tI g) (tS " ")) (vT w)).len + (tJoin (tS "") [tApp (tS " ") (tI k)]).len ≤ _
          rw [tx_join1, len_app, len_app, len_app]
          omega
abbrev dK (d : Deed) : Key := .inr (txD d).1
def dictD : List Deed → List (Key × D) → List (Key × D)
  | [], L => L
  | d :: ds, L => dictD ds (putG L (dK d) (eDd d))
theorem dict_none {t : Tx} : ∀ (ds : List Deed) (L : List (Key × D)), (∀ d ∈ ds, txD d ≠ t) → getG (dictD ds L) (.inr t.1) = getG L (.inr t.1)
  | [], L, _ => rfl
  | d :: ds, L, h => by
    show getG (dictD ds (putG L (dK d) (eDd d))) _ = _
    rw [dict_none ds _ fun x m => h x (List.mem_cons_of_mem _ m), getG_put, if_neg]
    intro z
    exact h d List.mem_cons_self (Tx.ext (Sum.inr.inj z).symm)
theorem dict_some {d0 : Deed} : ∀ (ds : List Deed) (L : List (Key × D)), (∀ d ∈ ds, txD d = txD d0 → d = d0) → (d0 ∈ ds ∨ getG L (dK d0) = some (eDd d0)) → getG (dictD ds L) (dK d0) = some (eDd d0)
  | [], L, _, h => h.elim (fun z => nomatch z) id
  | d :: ds, L, h, hd => by
    refine dict_some ds (putG L (dK d) (eDd d)) (fun x m => h x (List.mem_cons_of_mem _ m)) ?_
    by_cases e : txD d = txD d0
    · right
      rw [h d List.mem_cons_self e, getG_put, if_pos rfl]
    · rcases hd with hd | hd
      · rcases List.mem_cons.mp hd with rfl | hd
        · exact absurd rfl e
        · exact .inl hd
      · right
        rw [getG_put, if_neg (fun z => e (Tx.ext (Sum.inr.inj z).symm)), hd]
/-- all deeds of n guests, as the law goes through them -/
def dsG (g : Int) : List Deed := [.mov .up g, .mov .down g, .mov .leave g, .mov .stop g] ++ (none :: (rngT 0 10).map some).flatMap fun l => [.ask .read g l, .ask .write g l]
def dsA (n : Int) : List Deed := .tick :: (rngT 0 n).flatMap dsG
theorem dsA_mem {n : Nat} {d : Deed} : d ∈ dsA n ↔ DdOk n d := by
  constructor
  · intro h
    rcases List.mem_cons.mp h with rfl | h
    · exact ⟨(fun z => by cases z), trivial⟩
    · obtain ⟨g, hg, h⟩ := List.mem_flatMap.mp h
      have hg := mem_rngT.mp hg
      rcases List.mem_append.mp h with h | h
      · simp only [List.mem_cons, List.not_mem_nil, or_false] at h
        rcases h with rfl | rfl | rfl | rfl <;> exact ⟨fun _ => hg, by show _ ∨ _; simp⟩
      · obtain ⟨l, hl, h⟩ := List.mem_flatMap.mp h
        have hl : l = none ∨ ∃ k : Int, l = some k ∧ 0 ≤ k ∧ k ≤ 9 := by
          rcases List.mem_cons.mp hl with rfl | hl
          · exact .inl rfl
          · obtain ⟨k, hk, rfl⟩ := List.mem_map.mp hl
            have := mem_rngT.mp hk
            exact .inr ⟨k, rfl, by omega, by omega⟩
        simp only [List.mem_cons, List.not_mem_nil, or_false] at h
        rcases h with rfl | rfl
        · exact ⟨fun _ => hg, .inl rfl, hl⟩
        · exact ⟨fun _ => hg, .inr rfl, hl⟩
  · intro D
    cases d with
    | tick => exact List.mem_cons_self
    | mov w g =>
      obtain ⟨gs, wd⟩ := D
      have g' : 0 ≤ g ∧ g < n := gs rfl
      have wd : w = Wd.up ∨ w = Wd.down ∨ w = Wd.leave ∨ w = Wd.stop := wd
      refine List.mem_cons_of_mem _ (List.mem_flatMap.mpr ⟨g, mem_rngT.mpr g', List.mem_append_left _ ?_⟩)
      rcases wd with rfl | rfl | rfl | rfl <;> simp
    | ask w g l =>
      obtain ⟨gs, wd, lf⟩ := D
      have g' : 0 ≤ g ∧ g < n := gs rfl
      have wd : w = Wd.read ∨ w = Wd.write := wd
      refine List.mem_cons_of_mem _ (List.mem_flatMap.mpr ⟨g, mem_rngT.mpr g', List.mem_append_right _ (List.mem_flatMap.mpr ⟨l, ?_, ?_⟩)⟩)
      · rcases lf with rfl | ⟨k, rfl, k0, k1⟩
        · exact List.mem_cons_self
        · exact List.mem_cons_of_mem _ (List.mem_map.mpr ⟨k, mem_rngT.mpr ⟨k0, by omega⟩, rfl⟩)
      · rcases wd with rfl | rfl <;> simp
/-- a text looked up is a line read -/
theorem dict_line {n : Nat} (hn : n ≤ 10) (t : Tx) : getG (dictD (dsA n) []) (.inr t.1) = (v_deed_in n t).map eDd := by
  cases h : v_deed_in n t with
  | some d =>
    obtain ⟨D, rfl⟩ := line_conv h
    refine dict_some (dsA n) [] (fun x hx e => ?_) (.inl (dsA_mem.mpr D))
    have := (line_deed hn (dsA_mem.mp hx)).1
    rw [e, h] at this
    exact (Option.some.inj this).symm
  | none =>
    refine dict_none (dsA n) [] fun d hd e => ?_
    have := (line_deed hn (dsA_mem.mp hd)).1
    rw [e, h] at this
    cases this

theorem sq_nx {a b : MS} {env env1 : DEnv} {h h1 : Hh} (e : a env h = .nx env1 h1) : sSeq a b env h = b env1 h1 := by
  unfold sSeq
  rw [e]; rfl
theorem dict_app : ∀ (a b : List Deed) (L : List (Key × D)), dictD (a ++ b) L = dictD b (dictD a L)
  | [], b, L => rfl
  | d :: a, b, L => dict_app a b _
theorem dict_len : ∀ (a : List Deed) (L : List (Key × D)), (dictD a L).length ≤ L.length + a.length
  | [], L => Nat.le_refl _
  | d :: a, L => by
    have h1 := dict_len a (putG L (dK d) (eDd d))
    have h2 := putG_len L (dK d) (eDd d)
    have h3 : (if (getG L (dK d)).isSome = true then 0 else 1) ≤ 1 := by split <;> omega
    show (dictD a (putG L (dK d) (eDd d))).length ≤ _
    rw [List.length_cons]
    omega
theorem put_step {n : Nat} (hn : n ≤ 10) {E : ME} {env : DEnv} {h : Hh} {L : List (Key × D)} {d : Deed} (D : DdOk n d) (hE : ∀ H, E env H = .ok (eDd d) H) (h1 : env[1]? = some (some (.ref h.length))) (hl : L.length < 16777216) :
    sAsg E (gSubD (eSlot 1) (eCall F__law_deed_text (aCons E aNil)) setDO) env (h ++ [.dK L]) = .nx env (h ++ [.dK (putG L (dK d) (eDd d))]) := by
  obtain ⟨t1, t2⟩ := law_deed50 hn D
  have et := t__law_deed_text d (h ++ [.dK L]) t2
  rw [t1] at et
  have e1 : (eSlot 1) env (h ++ [.dK L]) = .ok (.ref h.length) (h ++ [.dK L]) := by unfold eSlot; rw [h1]
  have e2 : eCall F__law_deed_text (aCons E aNil) env (h ++ [.dK L]) = .ok (eX (txD d)) (h ++ [.dK L]) := by
    have : aCons E aNil env (h ++ [.dK L]) = .ok [eDd d] (h ++ [.dK L]) := by simp [hE]
    unfold eCall
    rw [this, bind_ok]; exact et
  have e3 : setDO (.ref h.length) (eX (txD d)) (eDd d) (h ++ [.dK L]) = some (h ++ [.dK (putG L (dK d) (eDd d))]) := by
    have hx : (h ++ [O.dK L])[h.length]? = some (.dK L) := by simp
    unfold setDO
    dsimp only
    rw [hx]
    show (if L.length < 16777216 then some ((h ++ [O.dK L]).set h.length (.dK (putG L (dK d) (eDd d)))) else none) = _
    rw [if_pos hl]
    simp
  have e4 : gSubD (eSlot 1) (eCall F__law_deed_text (aCons E aNil)) setDO (eDd d) env (h ++ [.dK L]) = some (env, h ++ [.dK (putG L (dK d) (eDd d))]) := by
    unfold gSubD
    rw [e1]
    dsimp only
    rw [e2]
    dsimp only
    rw [e3]; rfl
  generalize gSubD (eSlot 1) (eCall F__law_deed_text (aCons E aNil)) setDO = GG at e4 ⊢
  generalize h ++ [O.dK L] = H at hE e4 ⊢
  simp [hE, e4]
section
variable {n : Nat} {h : Hh} {g : Int}
theorem mv_step (hn : n ≤ 10) (g0 : 0 ≤ g) (g1 : g < n) {w : Wd} (hw : w = Wd.up ∨ w = Wd.down ∨ w = Wd.leave ∨ w = Wd.stop) (x0 x3 x4 : Option D) {L : List (Key × D)} (hl : L.length < 16777216) :
    bodyT (.name 3) L__law_deeds_0 (.str w.val) [x0, some (.ref h.length), some (.int g), x3, x4] (h ++ [.dK L]) = .nx [x0, some (.ref h.length), some (.int g), some (.str w.val), x4] (h ++ [.dK (dictD [.mov w g] L)]) := by
  show L__law_deeds_0 [x0, some (.ref h.length), some (.int g), some (.str w.val), x4] (h ++ [.dK L]) = _
  exact put_step hn (d := .mov w g) ⟨fun _ => ⟨g0, g1⟩, hw⟩ (fun H => by simp; rfl) rfl hl
theorem as_step (hn : n ≤ 10) (g0 : 0 ≤ g) (g1 : g < n) {w : Wd} (hw : w = Wd.read ∨ w = Wd.write) {l : Option Int} (hq : l = none ∨ ∃ k, l = some k ∧ 0 ≤ k ∧ k ≤ 9) (x0 x3 : Option D) {L : List (Key × D)} (hl : L.length < 16777216) :
    bodyT (.name 3) L__law_deeds_1 (.str w.val) [x0, some (.ref h.length), some (.int g), x3, some (eO D.int l)] (h ++ [.dK L]) = .nx [x0, some (.ref h.length), some (.int g), some (.str w.val), some (eO D.int l)] (h ++ [.dK (dictD [.ask w g l] L)]) := by
  show L__law_deeds_1 [x0, some (.ref h.length), some (.int g), some (.str w.val), some (eO D.int l)] (h ++ [.dK L]) = _
  exact put_step hn (d := .ask w g l) ⟨fun _ => ⟨g0, g1⟩, hw, hq⟩ (fun H => by simp; rfl) rfl hl
theorem rest_step (hn : n ≤ 10) (g0 : 0 ≤ g) (g1 : g < n) {l : Option Int} (hq : l = none ∨ ∃ k, l = some k ∧ 0 ≤ k ∧ k ≤ 9) (x0 x3 x4 : Option D) {L : List (Key × D)} (hl : L.length < 10000000) :
    ∃ y3, bodyT (.name 4) L__law_deeds_2 (eO D.int l) [x0, some (.ref h.length), some (.int g), x3, x4] (h ++ [.dK L]) = .nx [x0, some (.ref h.length), some (.int g), y3, some (eO D.int l)] (h ++ [.dK (dictD [.ask .read g l, .ask .write g l] L)]) := by
  refine ⟨some (.str Wd.write.val), ?_⟩
  show L__law_deeds_2 [x0, some (.ref h.length), some (.int g), x3, some (eO D.int l)] (h ++ [.dK L]) = _
  have e1 := as_step (h := h) hn g0 g1 (w := .read) (.inl rfl) hq x0 x3 (L := L) (by omega)
  have hl2 := dict_len [.ask .read g l] L
  rw [List.length_singleton] at hl2
  have e2 := as_step (h := h) hn g0 g1 (w := .write) (.inr rfl) hq x0 (some (.str Wd.read.val)) (L := dictD [.ask .read g l] L) (by omega)
  unfold L__law_deeds_2
  have ei : iOf (eTup (aCons (eC (.str "read")) (aCons (eC (.str "write")) aNil))) [x0, some (.ref h.length), some (.int g), x3, some (eO D.int l)] (h ++ [.dK L]) = .ok ⟨[.str Wd.read.val, .str Wd.write.val], none⟩ (h ++ [.dK L]) := rfl
  unfold sFor
  rw [ei]
  show forL none _ [.str Wd.read.val, .str Wd.write.val] _ _ = _
  rw [ev_for_cons, e1, ev_lb_nx, ev_for_cons, e2, ev_lb_nx, ev_for_nil]
  rfl
theorem rests_run (hn : n ≤ 10) (g0 : 0 ≤ g) (g1 : g < n) (x0 : Option D) : ∀ (ls : List (Option Int)), (∀ l ∈ ls, l = none ∨ ∃ k, l = some k ∧ 0 ≤ k ∧ k ≤ 9) → ∀ (L : List (Key × D)) (x3 x4 : Option D), L.length + 2 * ls.length < 10000000 →
    ∃ y3 y4, forL none (bodyT (.name 4) L__law_deeds_2) (ls.map (eO D.int)) [x0, some (.ref h.length), some (.int g), x3, x4] (h ++ [.dK L]) = .nx [x0, some (.ref h.length), some (.int g), y3, y4] (h ++ [.dK (dictD (ls.flatMap fun l => [.ask .read g l, .ask .write g l]) L)])
  | [], _, L, x3, x4, _ => ⟨x3, x4, ev_for_nil ..⟩
  | l :: ls, hq, L, x3, x4, hl => by
    rw [List.length_cons] at hl
    obtain ⟨y3, e1⟩ := rest_step (h := h) hn g0 g1 (hq l List.mem_cons_self) x0 x3 x4 (L := L) (by omega)
    have l2 := dict_len [.ask .read g l, .ask .write g l] L
    have e2 : ([Deed.ask .read g l, .ask .write g l] : List Deed).length = 2 := rfl
    rw [e2] at l2
    obtain ⟨z3, z4, e3⟩ := rests_run hn g0 g1 x0 ls (fun x m => hq x (List.mem_cons_of_mem _ m)) (dictD [.ask .read g l, .ask .write g l] L) y3 (some (eO D.int l)) (by omega)
    refine ⟨z3, z4, ?_⟩
    rw [List.map_cons, ev_for_cons, e1, ev_lb_nx, e3, List.flatMap_cons, dict_app]
theorem guest_step (hn : n ≤ 10) (g0 : 0 ≤ g) (g1 : g < n) (x0 x2 x3 x4 : Option D) {L : List (Key × D)} (hl : L.length < 1000000) :
    ∃ y3 y4, bodyT (.name 2) L__law_deeds_3 (.int g) [x0, some (.ref h.length), x2, x3, x4] (h ++ [.dK L]) = .nx [x0, some (.ref h.length), some (.int g), y3, y4] (h ++ [.dK (dictD (dsG g) L)]) := by
  have a1 := mv_step (h := h) hn g0 g1 (w := .up) (.inl rfl) x0 x3 x4 (L := L) (by omega)
  have l1 := dict_len [.mov .up g] L
  rw [List.length_singleton] at l1
  have a2 := mv_step (h := h) hn g0 g1 (w := .down) (.inr (.inl rfl)) x0 (some (.str Wd.up.val)) x4 (L := dictD [.mov .up g] L) (by omega)
  rw [← dict_app] at a2
  have l2 := dict_len ([.mov .up g] ++ [.mov .down g]) L
  have k2 : ([Deed.mov .up g] ++ [.mov .down g] : List Deed).length = 2 := rfl
  rw [k2] at l2
  have a3 := mv_step (h := h) hn g0 g1 (w := .leave) (.inr (.inr (.inl rfl))) x0 (some (.str Wd.down.val)) x4 (L := dictD ([.mov .up g] ++ [.mov .down g]) L) (by omega)
  rw [← dict_app] at a3
  have l3 := dict_len ([.mov .up g] ++ [.mov .down g] ++ [.mov .leave g]) L
  have k3 : ([Deed.mov .up g] ++ [.mov .down g] ++ [.mov .leave g] : List Deed).length = 3 := rfl
  rw [k3] at l3
  have a4 := mv_step (h := h) hn g0 g1 (w := .stop) (.inr (.inr (.inr rfl))) x0 (some (.str Wd.leave.val)) x4 (L := dictD ([.mov .up g] ++ [.mov .down g] ++ [.mov .leave g]) L) (by omega)
  rw [← dict_app] at a4
  have l4 := dict_len ([.mov .up g] ++ [.mov .down g] ++ [.mov .leave g] ++ [.mov .stop g]) L
  have k4 : ([Deed.mov .up g] ++ [.mov .down g] ++ [.mov .leave g] ++ [.mov .stop g] : List Deed).length = 4 := rfl
  rw [k4] at l4
  obtain ⟨y3, y4, e5⟩ := rests_run (h := h) hn g0 g1 x0 (none :: (rngT 0 10).map some) (fun l hl => by
    rcases List.mem_cons.mp hl with rfl | hl
    · exact .inl rfl
    · obtain ⟨k, hk, rfl⟩ := List.mem_map.mp hl
      have := mem_rngT.mp hk
      exact .inr ⟨k, rfl, by omega, by omega⟩) (dictD ([.mov .up g] ++ [.mov .down g] ++ [.mov .leave g] ++ [.mov .stop g]) L) (some (.str Wd.stop.val)) x4 (by
      have : ((none : Option Int) :: (rngT 0 10).map some).length = 11 := by decide
      rw [this]; omega)
  rw [← dict_app] at e5
  refine ⟨y3, y4, ?_⟩
  show L__law_deeds_3 [x0, some (.ref h.length), some (.int g), x3, x4] (h ++ [.dK L]) = _
  unfold L__law_deeds_3
  have s1 : sFor (iOf (eTup (aCons (eC (.str "up")) (aCons (eC (.str "down")) (aCons (eC (.str "leave")) (aCons (eC (.str "stop")) aNil)))))) (.name 3) L__law_deeds_0 [x0, some (.ref h.length), some (.int g), x3, x4] (h ++ [.dK L]) = .nx [x0, some (.ref h.length), some (.int g), some (.str Wd.stop.val), x4] (h ++ [.dK (dictD ([.mov .up g] ++ [.mov .down g] ++ [.mov .leave g] ++ [.mov .stop g]) L)]) := by
    have ei : iOf (eTup (aCons (eC (.str "up")) (aCons (eC (.str "down")) (aCons (eC (.str "leave")) (aCons (eC (.str "stop")) aNil))))) [x0, some (.ref h.length), some (.int g), x3, x4] (h ++ [.dK L]) = .ok ⟨[.str Wd.up.val, .str Wd.down.val, .str Wd.leave.val, .str Wd.stop.val], none⟩ (h ++ [.dK L]) := rfl
    unfold sFor
    rw [ei]
    show forL none _ [.str Wd.up.val, .str Wd.down.val, .str Wd.leave.val, .str Wd.stop.val] _ _ = _
    rw [ev_for_cons, a1, ev_lb_nx, ev_for_cons, a2, ev_lb_nx, ev_for_cons, a3, ev_lb_nx, ev_for_cons, a4, ev_lb_nx, ev_for_nil]
  rw [sq_nx s1]
  have ei : ∀ x3 H, iOf (eOp2 addO (eFrz (aCons (eC .non) aNil)) (eFrz (aRg (eC (.int 10))))) [x0, some (.ref h.length), some (.int g), x3, x4] H = .ok ⟨(none :: (rngT 0 10).map some).map (eO D.int), none⟩ H := fun _ _ => rfl
  unfold sFor
  rw [ei]
  exact e5
theorem guests_run (hn : n ≤ 10) (x0 : Option D) : ∀ (gs : List Int), (∀ g ∈ gs, 0 ≤ g ∧ g < n) → ∀ (L : List (Key × D)) (x2 x3 x4 : Option D), L.length + 26 * gs.length < 1000000 →
    ∃ y2 y3 y4, forL none (bodyT (.name 2) L__law_deeds_3) (gs.map D.int) [x0, some (.ref h.length), x2, x3, x4] (h ++ [.dK L]) = .nx [x0, some (.ref h.length), y2, y3, y4] (h ++ [.dK (dictD (gs.flatMap dsG) L)])
  | [], _, L, x2, x3, x4, _ => ⟨x2, x3, x4, ev_for_nil ..⟩
  | g :: gs, hg, L, x2, x3, x4, hl => by
    rw [List.length_cons] at hl
    obtain ⟨g0, g1⟩ := hg g List.mem_cons_self
    obtain ⟨y3, y4, e1⟩ := guest_step (h := h) hn g0 g1 x0 x2 x3 x4 (L := L) (by omega)
    have l2 := dict_len (dsG g) L
    have e2 : (dsG g).length = 26 := rfl
    rw [e2] at l2
    obtain ⟨z2, z3, z4, e3⟩ := guests_run hn x0 gs (fun x m => hg x (List.mem_cons_of_mem _ m)) (dictD (dsG g) L) (some (.int g)) y3 y4 (by omega)
    refine ⟨z2, z3, z4, ?_⟩
    rw [List.map_cons, ev_for_cons, e1, ev_lb_nx, e3, List.flatMap_cons, dict_app]
theorem deeds_run (hn : n ≤ 10) : F__law_deeds [.int n] h = .ok (.ref h.length) (h ++ [.dK (dictD (dsA n) [])]) := by
  unfold F__law_deeds
  rw [ev_run1]
  have hd0 : dictD [.tick] [] = [((.inr ("tick" : Str) : Key), D.tup [.str "tick"])] := by
    show putG [] (dK .tick) (eDd .tick) = _
    have : dK .tick = (.inr ("tick" : Str) : Key) := by
      show Sum.inr (txD .tick).1 = _
      rw [show (txD .tick).1 = ("tick" : Str) by decide +kernel]
    rw [this]; rfl
  obtain ⟨y2, y3, y4, e1⟩ := guests_run (h := h) hn (some (.int n)) (rngT 0 n) (fun g hg => mem_rngT.mp hg) (dictD [.tick] []) none none none (by
    rw [rngT_len, hd0]
    show 1 + 26 * _ < _
    omega)
  rw [← dict_app] at e1
  show outR (b__law_deeds [some (.int n), none, none, none, none] h) = _
  have s1 : sAsg (eDisp (((eC (.str "tick")), (eTup (aCons (eC (.str "tick")) aNil))) :: [])) (MR.gName 1) [some (.int n), none, none, none, none] h = .nx [some (.int n), some (.ref h.length), none, none, none] (h ++ [.dK (dictD [.tick] [])]) := by
    rw [hd0]; rfl
  have s2 : sFor (iA rng1 (aCons (eSlot 0) aNil)) (.name 2) L__law_deeds_3 [some (.int n), some (.ref h.length), none, none, none] (h ++ [.dK (dictD [.tick] [])]) = .nx [some (.int n), some (.ref h.length), y2, y3, y4] (h ++ [.dK (dictD (dsA n) [])]) := by
    have ei : iA rng1 (aCons (eSlot 0) aNil) [some (.int n), some (.ref h.length), none, none, none] (h ++ [.dK (dictD [.tick] [])]) = .ok ⟨(rngT 0 n).map D.int, none⟩ (h ++ [.dK (dictD [.tick] [])]) := by
      rw [← rng_map]
      show lift (if -1000000 ≤ (n : Int) ∧ (n : Int) ≤ 1000000 then some (⟨rangeD 0 n, none⟩ : Src) else none) _ = _
      rw [if_pos ⟨by omega, by omega⟩]; rfl
    unfold sFor
    rw [ei]
    exact e1
  unfold b__law_deeds
  rw [sq_nx s1, sq_nx s2]
  rfl
end

abbrev xcs : List Str := ["GuestError", "NoDeed", "NoText", "TooMany", "NoLine"]
theorem read_ok {n t d : D} {h : Hh} (e : F_read_row [n, t] h = .ok d h) (hd : ∀ m, frzD m h d = some d) : F__law_read [n, t] h = .ok d h := by
  refine frzF_of (g := []) (d := d) ?_ (by rw [List.append_nil]; exact hd _)
  rw [List.append_nil, ev_run2]
  show outR (b__law_read [some n, some t, none, none, none] h) = _
  have s1 : sAsg (eC .non) (MR.gName 2) [some n, some t, none, none, none] h = .nx [some n, some t, some .non, none, none] h := by simp
  have s2 : sAsg (eC .non) (MR.gName 3) [some n, some t, some .non, none, none] h = .nx [some n, some t, some .non, some .non, none] h := by simp
  have s0 : sAsg (eCall F_read_row (aCons (eSlot 0) (aCons (eSlot 1) aNil))) (MR.gName 3) [some n, some t, some .non, some .non, none] h = .nx [some n, some t, some .non, some d, none] h := by simp [e]
  have s3 : sNote xcs "GuestError" 4 2 (sAsg (eCall F_read_row (aCons (eSlot 0) (aCons (eSlot 1) aNil))) (MR.gName 3)) [some n, some t, some .non, some .non, none] h = .nx [some n, some t, some .non, some d, none] h := by
    unfold sNote
    rw [s0]
  have ny : isNO false .non .non h = some (.bl true) := rfl
  have s4 : sIf (tE (eOp2 (isNO false) (eSlot 2) (eC .non))) (sRet (eSlot 3)) MR.sNext [some n, some t, some .non, some d, none] h = .rt d h := by simp [ny]
  unfold b__law_read
  rw [sq_nx s1, sq_nx s2, sq_nx s3]
  unfold sSeq
  rw [s4]
  rfl
theorem read_err {n t y : D} {h g : Hh} (e : F_read_row [n, t] h = .err ⟨"NoText", some ("row", y)⟩ (h ++ g)) (hy : ∀ m H, frzD m H y = some y) : F__law_read [n, t] h = .ok (.tup [.str "*", y]) h := by
  have hz : ∀ m H, frzD m H (.tup [.str "*", y]) = some (.tup [.str "*", y]) := fun m H => by
    rw [frzD, frzDs, frzDs, frzDs, hy]; rfl
  refine frzF_of (g := g ++ [.exc ⟨"NoText", some ("row", y)⟩]) (d := .tup [.str "*", y]) ?_ (hz _ _)
  rw [← List.append_assoc, ev_run2]
  show outR (b__law_read [some n, some t, none, none, none] h) = _
  have s1 : sAsg (eC .non) (MR.gName 2) [some n, some t, none, none, none] h = .nx [some n, some t, some .non, none, none] h := by simp
  have s2 : sAsg (eC .non) (MR.gName 3) [some n, some t, some .non, none, none] h = .nx [some n, some t, some .non, some .non, none] h := by simp
  have s0 : sAsg (eCall F_read_row (aCons (eSlot 0) (aCons (eSlot 1) aNil))) (MR.gName 3) [some n, some t, some .non, some .non, none] h = .er ⟨"NoText", some ("row", y)⟩ [some n, some t, some .non, some .non, none] (h ++ g) := by simp [e]
  generalize h ++ g = H at s0 e ⊢
  have s3 : sNote xcs "GuestError" 4 2 (sAsg (eCall F_read_row (aCons (eSlot 0) (aCons (eSlot 1) aNil))) (MR.gName 3)) [some n, some t, some .non, some .non, none] h = .nx [some n, some t, some (.ref H.length), some .non, none] (H ++ [.exc ⟨"NoText", some ("row", y)⟩]) := by
    unfold sNote
    rw [s0]
    show (if ("NoText" : Str) ∈ xcs then (if subX "NoText" "GuestError" = true then _ else _) else _) = _
    rw [if_pos (by decide), if_pos (by decide)]
    rfl
  have hx : (H ++ [O.exc ⟨"NoText", some ("row", y)⟩])[H.length]? = some (.exc ⟨"NoText", some ("row", y)⟩) := by simp
  have sl : ∀ (c w : List Str), eXis c w (eSlot 2) [some n, some t, some (.ref H.length), some .non, none] (H ++ [.exc ⟨"NoText", some ("row", y)⟩]) = lift (xisO c w (.ref H.length) (H ++ [.exc ⟨"NoText", some ("row", y)⟩])) (H ++ [.exc ⟨"NoText", some ("row", y)⟩]) := fun _ _ => rfl
  have y1 : eXis xcs ["NoText"] (eSlot 2) [some n, some t, some (.ref H.length), some .non, none] (H ++ [.exc ⟨"NoText", some ("row", y)⟩]) = Res.ok (.bl true) (H ++ [.exc ⟨"NoText", some ("row", y)⟩]) := by
    rw [sl, ev_xisO, hx, ev_refXis, if_pos (by show ("NoText" : Str) ∈ xcs; decide)]; rfl
  have y2 : eXis xcs ["NoDeed", "NoLine", "TooMany"] (eSlot 2) [some n, some t, some (.ref H.length), some .non, none] (H ++ [.exc ⟨"NoText", some ("row", y)⟩]) = Res.ok (.bl false) (H ++ [.exc ⟨"NoText", some ("row", y)⟩]) := by
    rw [sl, ev_xisO, hx, ev_refXis, if_pos (by show ("NoText" : Str) ∈ xcs; decide)]; rfl
  have y3 : eXis xcs ["ValueError"] (eSlot 2) [some n, some t, some (.ref H.length), some .non, none] (H ++ [.exc ⟨"NoText", some ("row", y)⟩]) = Res.ok (.bl true) (H ++ [.exc ⟨"NoText", some ("row", y)⟩]) := by
    rw [sl, ev_xisO, hx, ev_refXis, if_pos (by show ("NoText" : Str) ∈ xcs; decide)]; rfl
  have y4 : eXfld "row" ["NoText"] (eSlot 2) [some n, some t, some (.ref H.length), some .non, none] (H ++ [.exc ⟨"NoText", some ("row", y)⟩]) = Res.ok y (H ++ [.exc ⟨"NoText", some ("row", y)⟩]) := by
    have : eXfld "row" ["NoText"] (eSlot 2) [some n, some t, some (.ref H.length), some .non, none] (H ++ [.exc ⟨"NoText", some ("row", y)⟩]) = lift (xfldO "row" ["NoText"] (.ref H.length) (H ++ [.exc ⟨"NoText", some ("row", y)⟩])) (H ++ [.exc ⟨"NoText", some ("row", y)⟩]) := rfl
    rw [this, ev_xfldO, hx, ev_refXfld, if_pos (by decide), if_pos rfl]; rfl
  have nn : ∀ H', isNO false (.ref H.length) .non H' = some (.bl false) := fun _ => rfl
  unfold b__law_read
  rw [sq_nx s1, sq_nx s2, sq_nx s3]
  generalize eXis ["GuestError", "NoDeed", "NoText", "TooMany", "NoLine"] ["NoText"] (eSlot 2) = E1 at y1 ⊢
  generalize eXis ["GuestError", "NoDeed", "NoText", "TooMany", "NoLine"] ["NoDeed", "NoLine", "TooMany"] (eSlot 2) = E2 at y2 ⊢
  generalize eXis ["GuestError", "NoDeed", "NoText", "TooMany", "NoLine"] ["ValueError"] (eSlot 2) = E3 at y3 ⊢
  generalize eXfld "row" ["NoText"] (eSlot 2) = E4 at y4 ⊢
  generalize H.length = hl at y1 y2 y3 y4 nn ⊢
  generalize H ++ [O.exc ⟨"NoText", some ("row", y)⟩] = H2 at y1 y2 y3 y4 ⊢
  simp [nn, y1, y2, y3, y4]
/-- lines put together -/
theorem lines_read {n : Nat} {made : List Tx} (hm : made ≠ []) (hne : made ≠ [tS ""]) (h10 : ∀ x ∈ made, 10 ∉ x.1.cps.toList) (hl : ∀ x ∈ made, x.len ≤ 640) (hk : made.length ≤ 1000) (h : Hh) :
    (linesOk n made = true → F__law_read [.int n, eX (tJoin (tS "\n") made)] h = .ok (eS eDd (made.map fun l => (v_deed_in n l).getD default)) h) ∧
    (linesOk n made = false → F__law_read [.int n, eX (tJoin (tS "\n") made)] h = .ok (.tup [.str "*", .int (badL n made 0)]) h) := by
  have l1 : (tS "\n" : Tx).len = 1 := by decide +kernel
  have e0 : (tS "" : Tx).len = 0 := by decide +kernel
  obtain ⟨p, r, rfl⟩ : ∃ p r, made = p :: r := by
    cases made with
    | nil => exact absurd rfl hm
    | cons p r => exact ⟨p, r, rfl⟩
  have ll : (tJoin (tS "\n") (p :: r)).len + 2 ≤ 16777216 := by
    have lj := len_join (tS "\n") (p :: r)
    have ls : ∀ ys : List Tx, (∀ y ∈ ys, y.len ≤ 640) → (ys.map Tx.len).sum ≤ 640 * ys.length := fun ys => by
      induction ys with
      | nil => exact fun _ => Nat.le_refl _
      | cons y ys ih =>
        intro hy
        have := ih fun z hz => hy z (List.mem_cons_of_mem _ hz)
        have h1 := hy y List.mem_cons_self
        rw [List.map_cons, List.sum_cons, List.length_cons]
        omega
    have := ls _ hl
    rw [l1] at lj
    omega
  obtain ⟨s1, s2⟩ := split_tx (tS "\n") 10 [] rfl (by decide +kernel) p r h10 ll
  have tne : tJoin (tS "\n") (p :: r) ≠ tS "" := fun z => by
    have zl := congrArg Tx.len z
    rw [e0] at zl
    cases r with
    | nil =>
      rw [tx_join1] at z
      exact hne (by rw [z])
    | cons q r =>
      rw [tx_join2, len_app, len_app, l1] at zl
      omega
  have dc : dc_read_row n (tJoin (tS "\n") (p :: r)) := fun _ => ⟨s2, by rw [s1]; exact hk, fun l m => by rw [s1] at m; exact line_asks n l (hl l m)⟩
  have ec : cond_read_row n (tJoin (tS "\n") (p :: r)) = linesOk n (p :: r) := by
    unfold cond_read_row
    rw [decide_eq_false tne, s1, Bool.false_or]
  have er : v_read_row n (tJoin (tS "\n") (p :: r)) = (p :: r).map fun l => (v_deed_in n l).getD default := by
    unfold v_read_row
    rw [if_neg tne, s1]
  constructor
  · intro c
    have := tv_read_row n _ dc (by rw [ec]; exact c) h
    rw [er] at this
    exact read_ok this fun m => frz_e (e := eS eDd) _ _ _
  · intro c
    obtain ⟨g, e⟩ := te_read_row n _ dc (by rw [ec]; exact c) h
    rw [s1] at e
    exact read_err e fun m H => rfl
theorem empty_read {n : Nat} (h : Hh) : F__law_read [.int n, eX (tJoin (tS "\n") [tS ""])] h = .ok (eS eDd []) h := by
  have dc : dc_read_row n (tS "") := fun z => absurd rfl z
  have := tv_read_row n (tS "") dc rfl h
  have ev : v_read_row n (tS "") = [] := if_pos rfl
  rw [ev] at this
  rw [tx_join1]
  exact read_ok this fun m => frz_e (e := eS eDd) _ _ _
/-- no text -/
theorem thing_read {x : D} {h : Hh} (hx : isiO [x, .glb (.ty "str")] h = some (.bl false)) : F__law_read [.int 2, x] h = .ok (.tup [.str "*", .non]) h := by
  have e : F_read_row [.int 2, x] h = .err ⟨"NoText", some ("row", .non)⟩ (h ++ []) := by
    rw [List.append_nil]
    refine frz_err ?_
    rw [ev_run2]
    have f2 : ∀ h', k_mkI "NoText" "row" "nothing is written in row " (.ok .non h') = .ok ⟨"NoText", some ("row", .non)⟩ h' := fun h' => ev_k_mkIN _ _ _ _ (by unfold fitsN; exact ⟨by decide +kernel, by decide +kernel⟩)
    unfold b_read_row
    simp [hx, f2]
  exact read_err e fun m H => rfl

def Pln (t : Tx) : Prop := ∀ c ∈ t.1.cps.toList, c < 128 ∧ c ≠ 10
theorem pln_app {a b : Tx} (ha : Pln a) (hb : Pln b) : Pln (tApp a b) := fun c hc => by
  have hc : c ∈ (a.1.cps ++ b.1.cps).toList := hc
  rw [Array.toList_append, List.mem_append] at hc
  exact hc.elim (ha c) (hb c)
def cT (t : Tx) (lo hi : Option Int) : Tx := tOf (cutS t.1 lo hi)
theorem cut_mem (x : Str) (lo hi : Option Int) : ∀ c ∈ (cutS x lo hi).cps.toList, c ∈ x.cps.toList := fun c hc => by
  unfold cutS at hc
  exact List.mem_of_mem_drop (List.mem_of_mem_take hc)
theorem cT_val (t : Tx) (lo hi : Option Int) : (cT t lo hi).1 = cutS t.1 lo hi := tOf_val (ok_iff.mpr fun c hc => ok_iff.mp t.2 c (cut_mem _ _ _ c hc))
theorem cT_len (t : Tx) (lo hi : Option Int) : (cT t lo hi).len ≤ t.len := by
  show (cT t lo hi).1.length ≤ t.1.length
  rw [cT_val]
  exact cutS_length _ _ _
theorem pln_cut {t : Tx} (h : Pln t) (lo hi : Option Int) : Pln (cT t lo hi) := fun c hc => by
  rw [cT_val] at hc
  exact h c (cut_mem _ _ _ c hc)
theorem pln_join {s : Tx} (hs : Pln s) : ∀ ps : List Tx, (∀ p ∈ ps, Pln p) → Pln (tJoin s ps)
  | [], _ => fun c hc => by
    have hc : c ∈ (tZ : Tx).1.cps.toList := hc
    have e : (tZ : Tx).1.cps.toList = [] := by decide +kernel
    rw [e] at hc
    cases hc
  | [p], h => by rw [tx_join1]; exact h p List.mem_cons_self
  | p :: q :: r, h => by
    rw [tx_join2]
    exact pln_app (h p List.mem_cons_self) (pln_app hs (pln_join hs (q :: r) fun x m => h x (List.mem_cons_of_mem _ m)))
theorem pln_split {t s : Tx} (h : Pln t) : ∀ x ∈ tSplit t s, Pln x := fun x hx c hc => by
  have jp := join_parts s.1 (Txt.split t.1 s.1)
  rw [PySem.StrLaws.join_split] at jp
  obtain ⟨p, hp, rfl⟩ := List.mem_map.mp hx
  have e : (tOf p).1 = p := tOf_val (ok_iff.mpr fun c hc => ok_iff.mp t.2 c ((jp p hp).2 c hc))
  rw [e] at hc
  exact h c ((jp p hp).2 c hc)
/-- the lengths of parts, each with a sign more -/
def wt (ps : List Tx) : Nat := (ps.map fun p => p.len + 1).sum
theorem wt_app (a b : List Tx) : wt (a ++ b) = wt a + wt b := by unfold wt; rw [List.map_append, List.sum_append]
theorem wt_sub {a b : List Tx} (h : a.Sublist b) : wt a ≤ wt b := by
  induction h with
  | slnil => exact Nat.le_refl _
  | cons p h ih => unfold wt at *; rw [List.map_cons, List.sum_cons]; omega
  | cons_cons p h ih => unfold wt at *; rw [List.map_cons, List.map_cons, List.sum_cons, List.sum_cons]; omega
theorem wt_rev (a : List Tx) : wt a.reverse = wt a := by
  induction a with
  | nil => rfl
  | cons p a ih => rw [List.reverse_cons, wt_app, ih]; unfold wt; rw [List.map_cons, List.sum_cons, List.map_cons, List.sum_cons]; simp; omega
theorem wt_join {s : Tx} (hs : s.len = 1) : ∀ ps : List Tx, ps ≠ [] → (tJoin s ps).len + 1 = wt ps
  | [], h => absurd rfl h
  | [p], _ => by rw [tx_join1]; unfold wt; simp
  | p :: q :: r, _ => by
    have ih := wt_join hs (q :: r) (by simp)
    rw [tx_join2, len_app, len_app, hs]
    have e : wt (p :: q :: r) = p.len + 1 + wt (q :: r) := by unfold wt; rw [List.map_cons, List.sum_cons]
    rw [e, ← ih]; omega
theorem wt_joinB {s : Tx} (hs : s.len = 1) (ps : List Tx) (h : wt ps ≤ 16777216) : JoinB s ps := by
  unfold JoinB
  rw [hs]
  have : (ps.map Tx.len).sum + ps.length * 1 = wt ps := by
    clear h
    induction ps with
    | nil => rfl
    | cons p ps ih =>
      have e : wt (p :: ps) = p.len + 1 + wt ps := by unfold wt; rw [List.map_cons, List.sum_cons]
      rw [e, ← ih, List.map_cons, List.sum_cons, List.length_cons]; omega
  omega
theorem cutG_sub {α : Type} (xs : List α) (lo hi : Option Int) : (cutG xs lo hi).Sublist xs := (List.take_sublist _ _).trans (List.drop_sublist _ _)
def upT (t : Tx) : Tx := tOf (Txt.upper t.1)
def upC (c : Nat) : Nat := if 97 ≤ c ∧ c ≤ 122 then c - 32 else c
theorem up_list {t : Str} (h : ∀ c ∈ t.cps.toList, c < 128) : (Txt.upper t).cps.toList = t.cps.toList.map upC := by
  have one : ∀ c, c < 128 → PySem.Unicode.upperOf c = [upC c] := by decide +kernel
  show (placed t fun _ c => PySem.Unicode.upperOf c).toList = _
  unfold placed
  rw [Array.toList_flatten, Array.toList_mapIdx]
  have key : ∀ (l : List Nat), (∀ c ∈ l, c < 128) → (List.map Array.toList (List.mapIdx (fun _ c => (PySem.Unicode.upperOf c).toArray) l)).flatten = l.map upC := by
    intro l
    induction l with
    | nil => exact fun _ => rfl
    | cons c l ih =>
      intro hl
      rw [List.mapIdx_cons, List.map_cons, List.flatten_cons, List.map_cons, one c (hl c List.mem_cons_self)]
      have := ih fun x m => hl x (List.mem_cons_of_mem _ m)
      rw [show (List.mapIdx (fun i c => (PySem.Unicode.upperOf c).toArray) l) = List.mapIdx (fun _ c => (PySem.Unicode.upperOf c).toArray) l from rfl, this]
      rfl
  exact key _ h
theorem upC_ok {c : Nat} (h : c < 128 ∧ c ≠ 10) : upC c < 128 ∧ upC c ≠ 10 := by
  unfold upC
  split <;> omega
theorem up_val {t : Tx} (h : Pln t) : (upT t).1 = Txt.upper t.1 := tOf_val (ok_iff.mpr fun c hc => by
  rw [up_list fun c hc => (h c hc).1] at hc
  obtain ⟨x, hx, rfl⟩ := List.mem_map.mp hc
  have := upC_ok (h x hx)
  omega)
theorem pln_up {t : Tx} (h : Pln t) : Pln (upT t) := fun c hc => by
  rw [up_val h, up_list fun c hc => (h c hc).1] at hc
  obtain ⟨x, hx, rfl⟩ := List.mem_map.mp hc
  exact upC_ok (h x hx)
theorem up_len {t : Tx} (h : Pln t) : (upT t).len = t.len := by
  show (upT t).1.cps.size = t.1.cps.size
  rw [up_val h, ← Array.length_toList, up_list fun c hc => (h c hc).1, List.length_map, Array.length_toList]
def sgL50 : List Tx := [tS "0", tS "1", tS "2", tS "3", tS "4", tS "5", tS "9", tS " ", tS "-", tS "a", tS "k", tS "s"]
def otL50 : List Tx := [tS "tick", tS "0", tS "5", tS "9", tS "10", tS "-1", tS "00", tS "reads", tS "writes", tS "up", tS "stops", tS "leave", tS ""]
def spA (t : Tx) (at_ : Int) (sg : Tx) : List Tx := [tApp (cT t none (some at_)) (cT t (some (at_ + 1)) none), tApp (tApp (cT t none (some at_)) sg) (cT t (some at_) none), tApp (tApp (cT t none (some at_)) sg) (cT t (some (at_ + 1)) none), tS ""]
def spB (t : Tx) (spot : Int) (ot : Tx) : List Tx := [tJoin (tS " ") (cutG (tSplit t (tS " ")) none (some spot) ++ [ot] ++ cutG (tSplit t (tS " ")) (some (spot + 1)) none), tApp (tApp t (tS " ")) ot, tApp (tS " ") t, tApp t (tS " ")]
def spC (t ot : Tx) : List Tx := [upT t, tJoin (tS " ") (tSplit t (tS " ")).reverse, ot]
theorem sg_ok : ∀ x ∈ sgL50, x.len = 1 ∧ (x.1.cps.toList.all fun c => decide (c < 128) && decide (c ≠ 10)) = true := by decide +kernel
theorem ot_ok : ∀ x ∈ otL50, x.len ≤ 6 ∧ (x.1.cps.toList.all fun c => decide (c < 128) && decide (c ≠ 10)) = true := by decide +kernel
theorem pln_of {x : Tx} (h : (x.1.cps.toList.all fun c => decide (c < 128) && decide (c ≠ 10)) = true) : Pln x := fun c hc => by
  have := List.all_eq_true.mp h c hc
  simpa using this
theorem wt_words (t : Tx) (ht : t.len ≤ 1000) : wt (tSplit t (tS " ")) = t.len + 1 ∧ (tSplit t (tS " ")) ≠ [] := by
  have hn : tSplit t (tS " ") ≠ [] := by
    unfold tSplit
    intro z
    have := List.map_eq_nil_iff.mp z
    unfold Txt.split at this
    split at this
    · cases this
    · split at this
      · cases this
      · rw [PySem.StrLaws.partsBetween_eq] at this
        obtain ⟨p, r, e⟩ := PySem.StrLaws.partsFrom_ne t.1 (tS " ").1.length 0 _
        rw [e] at this
        cases this
  have := wt_join (s := tS " ") (by decide +kernel) _ hn
  rw [tx_join_split] at this
  exact ⟨this.symm, hn⟩
theorem sp_good {t sg ot : Tx} {at_ spot : Int} {m : Nat} (h : Pln t) (hl : t.len ≤ m) (hm : m ≤ 1000) (hs : sg ∈ sgL50) (ho : ot ∈ otL50) : ∀ x ∈ spA t at_ sg ++ spB t spot ot ++ spC t ot, Pln x ∧ x.len ≤ 2 * m + 10 := by
  obtain ⟨ls, ps⟩ := sg_ok sg hs
  obtain ⟨lo, po⟩ := ot_ok ot ho
  have ps := pln_of ps
  have po := pln_of po
  have p0 : Pln (tS "") := pln_of (by decide +kernel)
  have p1 : Pln (tS " ") := pln_of (by decide +kernel)
  have l0 : (tS "" : Tx).len = 0 := by decide +kernel
  have l1 : (tS " " : Tx).len = 1 := by decide +kernel
  have c1 := cT_len t none (some at_)
  have c2 := cT_len t (some (at_ + 1)) none
  have c3 := cT_len t (some at_) none
  obtain ⟨ww, wn⟩ := wt_words t (by omega)
  have hsp := pln_split (s := tS " ") h
  intro x hx
  simp only [spA, spB, spC, List.mem_append, List.mem_cons, List.not_mem_nil, or_false] at hx
  rcases hx with ((rfl | rfl | rfl | rfl) | (rfl | rfl | rfl | rfl)) | (rfl | rfl | rfl)
  · exact ⟨pln_app (pln_cut h _ _) (pln_cut h _ _), by rw [len_app]; omega⟩
  · exact ⟨pln_app (pln_app (pln_cut h _ _) ps) (pln_cut h _ _), by rw [len_app, len_app]; omega⟩
  · exact ⟨pln_app (pln_app (pln_cut h _ _) ps) (pln_cut h _ _), by rw [len_app, len_app]; omega⟩
  · exact ⟨p0, by omega⟩
  · refine ⟨pln_join p1 _ fun p hp => ?_, ?_⟩
    · rcases List.mem_append.mp hp with hp | hp
      · rcases List.mem_append.mp hp with hp | hp
        · exact hsp p ((cutG_sub _ _ _).mem hp)
        · rw [List.mem_singleton.mp hp]; exact po
      · exact hsp p ((cutG_sub _ _ _).mem hp)
    · have a1 := wt_sub (cutG_sub (tSplit t (tS " ")) none (some spot))
      have a2 := wt_sub (cutG_sub (tSplit t (tS " ")) (some (spot + 1)) none)
      have a3 := wt_join l1 (cutG (tSplit t (tS " ")) none (some spot) ++ [ot] ++ cutG (tSplit t (tS " ")) (some (spot + 1)) none) (by simp)
      have a4 : wt [ot] = ot.len + 1 := by unfold wt; simp
      rw [wt_app, wt_app, a4] at a3
      omega
  · exact ⟨pln_app (pln_app h p1) po, by rw [len_app, len_app]; omega⟩
  · exact ⟨pln_app p1 h, by rw [len_app]; omega⟩
  · exact ⟨pln_app h p1, by rw [len_app]; omega⟩
  · exact ⟨pln_up h, by rw [up_len h]; omega⟩
  · refine ⟨pln_join p1 _ fun p hp => hsp p (List.mem_reverse.mp hp), ?_⟩
    have a3 := wt_join l1 (tSplit t (tS " ")).reverse (by simpa using wn)
    rw [wt_rev, ww] at a3
    omega
  · exact ⟨po, by omega⟩

theorem pick_run {h : Hh} {l : Nat} {left : List Int} (hp : h[l]? = some (oL D.int left)) {m : Int} (d : d__law_pick left m) : ∃ h', F__law_pick [.ref l, .int m] h = .ok (.int (v__law_pick left m).1) h' ∧ h'.length = h.length ∧ h'[l]? = some (oL D.int (v__law_pick left m).2) ∧ ∀ j, j ≠ l → h'[j]? = h[j]? :=
  ⟨_, t__law_pick left m h l hp d, List.length_set, List.getElem?_set_self (List.getElem?_eq_some_iff.mp hp).1, fun j hj => List.getElem?_set_ne (Ne.symm hj)⟩
theorem deed_run {h : Hh} {l : Nat} {left : List Int} (hp : h[l]? = some (oL D.int left)) {n : Int} (d : d__law_deed left n) : ∃ h', F__law_deed [.ref l, .int n] h = .ok (eDd (v__law_deed left n).1) h' ∧ h'.length = h.length ∧ h'[l]? = some (oL D.int (v__law_deed left n).2) ∧ ∀ j, j ≠ l → h'[j]? = h[j]? :=
  ⟨_, t__law_deed left n h l hp d, List.length_set, List.getElem?_set_self (List.getElem?_eq_some_iff.mp hp).1, fun j hj => List.getElem?_set_ne (Ne.symm hj)⟩

section
variable {env : DEnv} {H : Hh}
theorem ad_run {a b : ME} {x y : Tx} (ea : a env H = .ok (eX x) H) (eb : b env H = .ok (eX y) H) (hl : x.len + y.len ≤ 16777216) : eOp2 addO a b env H = .ok (eX (tApp x y)) H := by
  unfold eOp2
  rw [ea, bind_ok, eb, bind_ok]
  show lift (if x.1.length + y.1.length ≤ sizeLine then some (D.str (x.1 ++ y.1)) else none) H = _
  rw [if_pos (by rw [sizeLine_eq]; exact hl)]
  rfl
theorem adL_run {a b : ME} {xs ys : List Tx} (ea : a env H = .ok (.lst (xs.map eX)) H) (eb : b env H = .ok (.lst (ys.map eX)) H) (hl : xs.length + ys.length ≤ 16777216) : eOp2 addO a b env H = .ok (.lst ((xs ++ ys).map eX)) H := by
  unfold eOp2
  rw [ea, bind_ok, eb, bind_ok, List.map_append]
  show lift (if (xs.map eX).length + (ys.map eX).length ≤ sizeLine then some (D.lst (xs.map eX ++ ys.map eX)) else none) H = _
  rw [if_pos (by rw [sizeLine_eq, List.length_map, List.length_map]; exact hl)]
  rfl
theorem sl_run {i : Nat} {t : Tx} {lo hi : MO} {l u : Option Int} (e1 : (eSlot i) env H = .ok (eX t) H) (hl : lo env H = .ok l H) (hu : hi env H = .ok u H) (hz : t.len ≤ 16777216) : eSlice (eSlot i) lo hi env H = .ok (eX (cT t l u)) H := by
  unfold eSlice
  rw [e1, bind_ok, hl, bind_ok, hu, bind_ok]
  show lift (if t.1.length ≤ sizeLine then some (D.str (cutS t.1 l u)) else none) H = _
  rw [if_pos (by rw [sizeLine_eq]; exact hz), ← cT_val]
  rfl
theorem slL_run {i : Nat} {xs : List Tx} {lo hi : MO} {l u : Option Int} (e1 : (eSlot i) env H = .ok (.lst (xs.map eX)) H) (hl : lo env H = .ok l H) (hu : hi env H = .ok u H) : eSlice (eSlot i) lo hi env H = .ok (.lst ((cutG xs l u).map eX)) H := by
  unfold eSlice
  rw [e1, bind_ok, hl, bind_ok, hu, bind_ok, ev_slL]
  have : cutG (xs.map eX) l u = (cutG xs l u).map eX := by
    unfold cutG
    rw [List.length_map, List.map_take, List.map_drop]
  rw [this]; rfl
theorem jn_run {e : ME} {xs : List Tx} (ee : e env H = .ok (.lst (xs.map eX)) H) (k : JoinB (tS " ") xs) : eJoin (eC (.str " ")) e env H = .ok (eX (tJoin (tS " ") xs)) H := by
  have so : strsOf (xs.map eX) = some (xs.map (·.1)) := by
    clear k ee
    induction xs with
    | nil => rfl
    | cons x xs ih =>
      rw [List.map_cons, List.map_cons]
      show ((strsOf (xs.map eX)).map fun r => x.1 :: r) = _
      rw [ih]; rfl
  have j := join_of (a := tS " ") (x := .lst (xs.map eX)) (h := H) (ds := xs.map eX) rfl so k
  show ((e env H).bind fun x h2 => lift (joinO (tS " ").1 x h2) h2) = _
  rw [ee, bind_ok, j]; rfl
end
theorem spoilt_run {h : Hh} {l : Nat} {left : List Int} (hp : h[l]? = some (oL D.int left)) (lk : Lk left) {t : Tx} {m : Nat} (ht : Pln t) (hl : t.len ≤ m) (hm : m ≤ 600) :
    ∃ s h' left', F__law_spoilt [.ref l, eX t] h = .ok (eX s) h' ∧ h'.length = h.length ∧ h'[l]? = some (oL D.int left') ∧ Lk left' ∧ (∀ j, j ≠ l → h'[j]? = h[j]?) ∧ Pln s ∧ s.len ≤ 2 * m + 10 := by
  have l1 : (tS " " : Tx).len = 1 := by decide +kernel
  obtain ⟨ww, wn⟩ := wt_words t (by omega)
  obtain ⟨sp1, sp2, sp3⟩ := spl_any t (tS " ") (by decide +kernel) (by omega)
  have wl : 0 < (tSplit t (tS " ")).length := List.length_pos_iff.mpr wn
  generalize hws : tSplit t (tS " ") = ws at ww wn sp2 sp3 wl
  obtain ⟨a1, b1, lk1⟩ := pk lk (m := (t.len : Int) + 1) (by omega)
  obtain ⟨h1, e1, len1, lf1, fr1⟩ := pick_run hp (m := (t.len : Int) + 1) (dpk lk (by omega) (by omega))
  generalize (v__law_pick left ((t.len : Int) + 1)).1 = at_ at a1 b1 e1
  generalize (v__law_pick left ((t.len : Int) + 1)).2 = left1 at lk1 lf1
  obtain ⟨a2, b2, lk2⟩ := pk lk1 (m := (ws.length : Int)) (by omega)
  obtain ⟨h2, e2, len2, lf2, fr2⟩ := pick_run lf1 (m := (ws.length : Int)) (dpk lk1 (by omega) (by omega))
  generalize (v__law_pick left1 (ws.length : Int)).1 = spot at a2 b2 e2
  generalize (v__law_pick left1 (ws.length : Int)).2 = left2 at lk2 lf2
  obtain ⟨a3, b3, lk3⟩ := pk lk2 (m := 12) (by decide)
  obtain ⟨h3, e3, len3, lf3, fr3⟩ := pick_run lf2 (m := 12) (dpk lk2 (by decide) (by decide))
  generalize (v__law_pick left2 12).1 = vs at a3 b3 e3
  generalize (v__law_pick left2 12).2 = left3 at lk3 lf3
  obtain ⟨a4, b4, lk4⟩ := pk lk3 (m := 13) (by decide)
  obtain ⟨h4, e4, len4, lf4, fr4⟩ := pick_run lf3 (m := 13) (dpk lk3 (by decide) (by decide))
  generalize (v__law_pick left3 13).1 = vo at a4 b4 e4
  generalize (v__law_pick left3 13).2 = left4 at lk4 lf4
  obtain ⟨a5, b5, lk5⟩ := pk lk4 (m := 11) (by decide)
  obtain ⟨h5, e5, len5, lf5, fr5⟩ := pick_run lf4 (m := 11) (dpk lk4 (by decide) (by decide))
  generalize (v__law_pick left4 11).1 = vx at a5 b5 e5
  generalize (v__law_pick left4 11).2 = left5 at lk5 lf5
  have hsg := atZ_mem (l := sgL50) a3 b3
  have hot := atZ_mem (l := otL50) a4 b4
  have ixs : ixA (.lst (sgL50.map eX)) (.int vs) h3 = some (eX (atZ sgL50 vs)) := o_ixL eX sgL50 vs (inR_of a3 b3) h3
  have ixo : ixA (.lst (otL50.map eX)) (.int vo) h4 = some (eX (atZ otL50 vo)) := o_ixL eX otL50 vo (inR_of a4 b4) h4
  generalize atZ sgL50 vs = sg at hsg ixs
  generalize atZ otL50 vo = ot at hot ixo
  obtain ⟨lsg, _⟩ := sg_ok sg hsg
  obtain ⟨lot, _⟩ := ot_ok ot hot
  have good := sp_good (at_ := at_) (spot := spot) ht hl (by omega) hsg hot
  have slen : (spA t at_ sg ++ spB t spot ot ++ spC t ot).length = 11 := rfl
  have ixx : ixA (.lst ((spA t at_ sg ++ spB t spot ot ++ spC t ot).map eX)) (.int vx) h5 = some (eX (atZ (spA t at_ sg ++ spB t spot ot ++ spC t ot) vx)) := o_ixL eX (spA t at_ sg ++ spB t spot ot ++ spC t ot) vx (inR_of a5 (by rw [slen]; exact b5)) h5
  have hmem := atZ_mem (l := spA t at_ sg ++ spB t spot ot ++ spC t ot) a5 (by rw [slen]; exact b5)
  refine ⟨atZ (spA t at_ sg ++ spB t spot ot ++ spC t ot) vx, h5, left5, ?_, by omega, lf5, lk5, fun j hj => by rw [fr5 j hj, fr4 j hj, fr3 j hj, fr2 j hj, fr1 j hj], (good _ hmem).1, (good _ hmem).2⟩
  unfold F__law_spoilt
  rw [ev_run2]
  show outR (b__law_spoilt [some (.ref l), some (eX t), none, none, none, none, none, none] h) = _
  have s1 : sAsg (eFrz (aSplit (eSlot 1) (eC (.str " ")))) (MR.gName 2) [some (.ref l), some (eX t), none, none, none, none, none, none] h = .nx [some (.ref l), some (eX t), some (.lst (ws.map eX)), none, none, none, none, none] h := by
    have : aSplit (eSlot 1) (eC (.str " ")) [some (.ref l), some (eX t), none, none, none, none, none, none] h = .ok (ws.map eX) h := by
      rw [ev_split (a := t) (b := tS " ") rfl rfl sp1, hws]
    generalize aSplit (eSlot 1) (eC (.str " ")) = AS at this ⊢
    simp [this]
  have ln1 : ∀ H, lenO [eX t] H = some (.int (t.len : Int)) := fun H => num_len t H (by omega)
  have ln2 : ∀ H, lenO [.lst (ws.map eX)] H = some (.int (ws.length : Int)) := fun H => by
    show some (D.int (((ws.map eX).length : Nat) : Int)) = _
    rw [List.length_map]
  have s2 : sPar 3 4 (aCons (eCall F__law_pick (aCons (eSlot 0) (aCons (eOp2 addO (eOpN lenO (aCons (eSlot 1) aNil)) (eC (.int 1))) aNil))) (aCons (eCall F__law_pick (aCons (eSlot 0) (aCons (eOpN lenO (aCons (eSlot 2) aNil)) aNil))) aNil)) [some (.ref l), some (eX t), some (.lst (ws.map eX)), none, none, none, none, none] h = .nx [some (.ref l), some (eX t), some (.lst (ws.map eX)), some (.int at_), some (.int spot), none, none, none] h2 := by
    generalize ws.map eX = wd at ln2 ⊢
    generalize eX t = td at ln1 ⊢
    simp [ln1, ln2, e1, e2]
  have s3 : sAsg (eOp2 ixA (eFrz (aChs (eC (.str "0123459 -aks")))) (eCall F__law_pick (aCons (eSlot 0) (aCons (eC (.int 12)) aNil)))) (MR.gName 5) [some (.ref l), some (eX t), some (.lst (ws.map eX)), some (.int at_), some (.int spot), none, none, none] h2 = .nx [some (.ref l), some (eX t), some (.lst (ws.map eX)), some (.int at_), some (.int spot), some (eX sg), none, none] h3 := by
    have ec : eFrz (aChs (eC (.str "0123459 -aks"))) [some (.ref l), some (eX t), some (.lst (ws.map eX)), some (.int at_), some (.int spot), none, none, none] h2 = .ok (.lst (sgL50.map eX)) h2 := by
      have k : (signs "0123459 -aks").map D.str = sgL50.map eX := by kernel_rfl
      unfold eFrz aChs eC
      rw [bind_ok]
      dsimp only
      rw [if_pos (by decide +kernel), k, bind_ok]
    generalize eFrz (aChs (eC (.str "0123459 -aks"))) = AS at ec ⊢
    have ex : eOp2 ixA AS (eCall F__law_pick (aCons (eSlot 0) (aCons (eC (.int 12)) aNil))) [some (.ref l), some (eX t), some (.lst (ws.map eX)), some (.int at_), some (.int spot), none, none, none] h2 = .ok (eX sg) h3 := by
      generalize sgL50.map eX = sd at ec ixs
      unfold eOp2
      rw [ec, bind_ok]
      have : eCall F__law_pick (aCons (eSlot 0) (aCons (eC (.int 12)) aNil)) [some (.ref l), some (eX t), some (.lst (ws.map eX)), some (.int at_), some (.int spot), none, none, none] h2 = .ok (.int vs) h3 := e3
      rw [this, bind_ok, ixs]; rfl
    generalize eOp2 ixA AS (eCall F__law_pick (aCons (eSlot 0) (aCons (eC (.int 12)) aNil))) = E at ex ⊢
    simp [ex]
  have s4 : sAsg (eFrz (aCons (eC (.str "tick")) (aCons (eC (.str "0")) (aCons (eC (.str "5")) (aCons (eC (.str "9")) (aCons (eC (.str "10")) (aCons (eC (.str "-1")) (aCons (eC (.str "00")) (aCons (eC (.str "reads")) (aCons (eC (.str "writes")) (aCons (eC (.str "up")) (aCons (eC (.str "stops")) (aCons (eC (.str "leave")) (aCons (eC (.str "")) aNil)))))))))))))) (MR.gName 6) [some (.ref l), some (eX t), some (.lst (ws.map eX)), some (.int at_), some (.int spot), some (eX sg), none, none] h3 = .nx [some (.ref l), some (eX t), some (.lst (ws.map eX)), some (.int at_), some (.int spot), some (eX sg), some (.lst (otL50.map eX)), none] h3 := rfl
  have s5 : sAsg (eOp2 ixA (eSlot 6) (eCall F__law_pick (aCons (eSlot 0) (aCons (eC (.int 13)) aNil)))) (MR.gName 6) [some (.ref l), some (eX t), some (.lst (ws.map eX)), some (.int at_), some (.int spot), some (eX sg), some (.lst (otL50.map eX)), none] h3 = .nx [some (.ref l), some (eX t), some (.lst (ws.map eX)), some (.int at_), some (.int spot), some (eX sg), some (eX ot), none] h4 := by
    have ex : eOp2 ixA (eSlot 6) (eCall F__law_pick (aCons (eSlot 0) (aCons (eC (.int 13)) aNil))) [some (.ref l), some (eX t), some (.lst (ws.map eX)), some (.int at_), some (.int spot), some (eX sg), some (.lst (otL50.map eX)), none] h3 = .ok (eX ot) h4 := by
      generalize otL50.map eX = od at ixo ⊢
      unfold eOp2
      have z : eSlot 6 [some (.ref l), some (eX t), some (.lst (ws.map eX)), some (.int at_), some (.int spot), some (eX sg), some (.lst od), none] h3 = .ok (.lst od) h3 := rfl
      rw [z, bind_ok]
      have : eCall F__law_pick (aCons (eSlot 0) (aCons (eC (.int 13)) aNil)) [some (.ref l), some (eX t), some (.lst (ws.map eX)), some (.int at_), some (.int spot), some (eX sg), some (.lst od), none] h3 = .ok (.int vo) h4 := e4
      rw [this, bind_ok, ixo]; rfl
    generalize eOp2 ixA (eSlot 6) (eCall F__law_pick (aCons (eSlot 0) (aCons (eC (.int 13)) aNil))) = E at ex ⊢
    simp [ex]
  have ct := fun a b => cT_len t a b
  -- the lines put otherwise
  have q1 : ∀ x7 H, eSlice (eSlot 1) oNone (oSome (eSlot 3)) [some (.ref l), some (eX t), some (.lst (ws.map eX)), some (.int at_), some (.int spot), some (eX sg), some (eX ot), x7] H = .ok (eX (cT t none (some at_))) H := fun x7 H => sl_run rfl rfl rfl (by omega)
  have q2 : ∀ x7 H, eSlice (eSlot 1) (oSome (eOp2 addO (eSlot 3) (eC (.int 1)))) oNone [some (.ref l), some (eX t), some (.lst (ws.map eX)), some (.int at_), some (.int spot), some (eX sg), some (eX ot), x7] H = .ok (eX (cT t (some (at_ + 1)) none)) H := fun x7 H => sl_run rfl rfl rfl (by omega)
  have q3 : ∀ x7 H, eSlice (eSlot 1) (oSome (eSlot 3)) oNone [some (.ref l), some (eX t), some (.lst (ws.map eX)), some (.int at_), some (.int spot), some (eX sg), some (eX ot), x7] H = .ok (eX (cT t (some at_) none)) H := fun x7 H => sl_run rfl rfl rfl (by omega)
  have n1 := ct none (some at_)
  have n2 := ct (some (at_ + 1)) none
  have n3 := ct (some at_) none
  have s6 : sAsg (eFrz (aCons (eOp2 addO (eSlice (eSlot 1) oNone (oSome (eSlot 3))) (eSlice (eSlot 1) (oSome (eOp2 addO (eSlot 3) (eC (.int 1)))) oNone)) (aCons (eOp2 addO (eOp2 addO (eSlice (eSlot 1) oNone (oSome (eSlot 3))) (eSlot 5)) (eSlice (eSlot 1) (oSome (eSlot 3)) oNone)) (aCons (eOp2 addO (eOp2 addO (eSlice (eSlot 1) oNone (oSome (eSlot 3))) (eSlot 5)) (eSlice (eSlot 1) (oSome (eOp2 addO (eSlot 3) (eC (.int 1)))) oNone)) (aCons (eC (.str "")) aNil))))) (MR.gName 7) [some (.ref l), some (eX t), some (.lst (ws.map eX)), some (.int at_), some (.int spot), some (eX sg), some (eX ot), none] h4 = .nx [some (.ref l), some (eX t), some (.lst (ws.map eX)), some (.int at_), some (.int spot), some (eX sg), some (eX ot), some (.lst ((spA t at_ sg).map eX))] h4 := by
    have f1 := ad_run (q1 none h4) (q2 none h4) (by omega)
    have f2 := ad_run (ad_run (q1 none h4) (b := eSlot 5) (y := sg) rfl (by omega)) (q3 none h4) (by rw [len_app]; omega)
    have f3 := ad_run (ad_run (q1 none h4) (b := eSlot 5) (y := sg) rfl (by omega)) (q2 none h4) (by rw [len_app]; omega)
    unfold spA
    rw [List.map_cons, List.map_cons, List.map_cons, List.map_cons, List.map_nil]
    have f4 : (eC (.str "")) [some (.ref l), some (eX t), some (.lst (ws.map eX)), some (.int at_), some (.int spot), some (eX sg), some (eX ot), none] h4 = .ok (eX (tS "")) h4 := rfl
    generalize eOp2 addO (eSlice (eSlot 1) oNone (oSome (eSlot 3))) (eSlice (eSlot 1) (oSome (eOp2 addO (eSlot 3) (eC (.int 1)))) oNone) = E1 at f1 ⊢
    generalize eOp2 addO (eOp2 addO (eSlice (eSlot 1) oNone (oSome (eSlot 3))) (eSlot 5)) (eSlice (eSlot 1) (oSome (eSlot 3)) oNone) = E2 at f2 ⊢
    generalize eOp2 addO (eOp2 addO (eSlice (eSlot 1) oNone (oSome (eSlot 3))) (eSlot 5)) (eSlice (eSlot 1) (oSome (eOp2 addO (eSlot 3) (eC (.int 1)))) oNone) = E3 at f3 ⊢
    generalize eC (.str "") = E4 at f4 ⊢
    simp [f1, f2, f3, f4]
  have s7 : sAsg (eOp2 addO (eSlot 7) (eFrz (aCons (eJoin (eC (.str " ")) (eOp2 addO (eOp2 addO (eSlice (eSlot 2) oNone (oSome (eSlot 4))) (eFrz (aCons (eSlot 6) aNil))) (eSlice (eSlot 2) (oSome (eOp2 addO (eSlot 4) (eC (.int 1)))) oNone))) (aCons (eOp2 addO (eOp2 addO (eSlot 1) (eC (.str " "))) (eSlot 6)) (aCons (eOp2 addO (eC (.str " ")) (eSlot 1)) (aCons (eOp2 addO (eSlot 1) (eC (.str " "))) aNil)))))) (MR.gName 7) [some (.ref l), some (eX t), some (.lst (ws.map eX)), some (.int at_), some (.int spot), some (eX sg), some (eX ot), some (.lst ((spA t at_ sg).map eX))] h4 = .nx [some (.ref l), some (eX t), some (.lst (ws.map eX)), some (.int at_), some (.int spot), some (eX sg), some (eX ot), some (.lst ((spA t at_ sg ++ spB t spot ot).map eX))] h4 := by
    generalize hx7 : spA t at_ sg = xs7
    have hx7l : xs7.length = 4 := by rw [← hx7]; rfl
    have g1 : eSlice (eSlot 2) oNone (oSome (eSlot 4)) [some (.ref l), some (eX t), some (.lst (ws.map eX)), some (.int at_), some (.int spot), some (eX sg), some (eX ot), some (.lst (xs7.map eX))] h4 = .ok (.lst ((cutG ws none (some spot)).map eX)) h4 := slL_run rfl rfl rfl
    have g2 : eSlice (eSlot 2) (oSome (eOp2 addO (eSlot 4) (eC (.int 1)))) oNone [some (.ref l), some (eX t), some (.lst (ws.map eX)), some (.int at_), some (.int spot), some (eX sg), some (eX ot), some (.lst (xs7.map eX))] h4 = .ok (.lst ((cutG ws (some (spot + 1)) none).map eX)) h4 := slL_run rfl rfl rfl
    have c1 := wt_sub (cutG_sub ws none (some spot))
    have c2 := wt_sub (cutG_sub ws (some (spot + 1)) none)
    have d1 := (cutG_sub ws none (some spot)).length_le
    have d2 := (cutG_sub ws (some (spot + 1)) none).length_le
    have c3 : wt [ot] = ot.len + 1 := by unfold wt; simp
    have g3 := adL_run g1 (b := eFrz (aCons (eSlot 6) aNil)) (ys := [ot]) rfl (by rw [List.length_singleton]; omega)
    have g4 := adL_run g3 g2 (by rw [List.length_append, List.length_singleton]; omega)
    have f1 := jn_run g4 (wt_joinB l1 _ (by rw [wt_app, wt_app, c3]; omega))
    have f2 := ad_run (env := [some (.ref l), some (eX t), some (.lst (ws.map eX)), some (.int at_), some (.int spot), some (eX sg), some (eX ot), some (.lst (xs7.map eX))]) (H := h4) (ad_run (a := eSlot 1) (b := eC (.str " ")) (x := t) (y := tS " ") rfl rfl (by omega)) (b := eSlot 6) (y := ot) rfl (by rw [len_app]; omega)
    have f3 := ad_run (env := [some (.ref l), some (eX t), some (.lst (ws.map eX)), some (.int at_), some (.int spot), some (eX sg), some (eX ot), some (.lst (xs7.map eX))]) (H := h4) (a := eC (.str " ")) (b := eSlot 1) (x := tS " ") (y := t) rfl rfl (by omega)
    have f4 := ad_run (env := [some (.ref l), some (eX t), some (.lst (ws.map eX)), some (.int at_), some (.int spot), some (eX sg), some (eX ot), some (.lst (xs7.map eX))]) (H := h4) (a := eSlot 1) (b := eC (.str " ")) (x := t) (y := tS " ") rfl rfl (by omega)
    have eB : eFrz (aCons (eJoin (eC (.str " ")) (eOp2 addO (eOp2 addO (eSlice (eSlot 2) oNone (oSome (eSlot 4))) (eFrz (aCons (eSlot 6) aNil))) (eSlice (eSlot 2) (oSome (eOp2 addO (eSlot 4) (eC (.int 1)))) oNone))) (aCons (eOp2 addO (eOp2 addO (eSlot 1) (eC (.str " "))) (eSlot 6)) (aCons (eOp2 addO (eC (.str " ")) (eSlot 1)) (aCons (eOp2 addO (eSlot 1) (eC (.str " "))) aNil)))) [some (.ref l), some (eX t), some (.lst (ws.map eX)), some (.int at_), some (.int spot), some (eX sg), some (eX ot), some (.lst (xs7.map eX))] h4 = .ok (.lst ((spB t spot ot).map eX)) h4 := by
      unfold spB
      rw [hws, List.map_cons, List.map_cons, List.map_cons, List.map_cons, List.map_nil]
      generalize eJoin (eC (.str " ")) (eOp2 addO (eOp2 addO (eSlice (eSlot 2) oNone (oSome (eSlot 4))) (eFrz (aCons (eSlot 6) aNil))) (eSlice (eSlot 2) (oSome (eOp2 addO (eSlot 4) (eC (.int 1)))) oNone)) = E1 at f1 ⊢
      generalize eOp2 addO (eOp2 addO (eSlot 1) (eC (.str " "))) (eSlot 6) = E2 at f2 ⊢
      generalize eOp2 addO (eC (.str " ")) (eSlot 1) = E3 at f3 ⊢
      generalize eOp2 addO (eSlot 1) (eC (.str " ")) = E4 at f4 ⊢
      simp [f1, f2, f3, f4]
    have ex := adL_run (a := eSlot 7) (xs := xs7) rfl eB (by rw [hx7l]; show 4 + 4 ≤ _; decide)
    generalize eOp2 addO (eSlot 7) _ = E at ex ⊢
    simp [ex]
  have eU : ∀ x7 H, eUpper (eSlot 1) [some (.ref l), some (eX t), some (.lst (ws.map eX)), some (.int at_), some (.int spot), some (eX sg), some (eX ot), x7] H = .ok (eX (upT t)) H := fun x7 H => by
    show lift (if t.1.length ≤ 5592405 then some (D.str (Txt.upper t.1)) else none) H = _
    rw [if_pos (by have : t.1.length ≤ m := hl; omega), ← up_val ht]; rfl
  have eR : ∀ x7 H, eJoin (eC (.str " ")) (eRev (eSlot 2)) [some (.ref l), some (eX t), some (.lst (ws.map eX)), some (.int at_), some (.int spot), some (eX sg), some (eX ot), x7] H = .ok (eX (tJoin (tS " ") ws.reverse)) H := fun x7 H => by
    refine jn_run ?_ (wt_joinB l1 _ (by rw [wt_rev, ww]; omega))
    rw [List.map_reverse]; rfl
  unfold b__law_spoilt
  rw [sq_nx s1, sq_nx s2, sq_nx s3, sq_nx s4, sq_nx s5, sq_nx s6, sq_nx s7]
  generalize hx7 : spA t at_ sg ++ spB t spot ot = xs7 at ixx ⊢
  have hx7l : xs7.length = 8 := by rw [← hx7]; rfl
  have eC3 : eFrz (aCons (eUpper (eSlot 1)) (aCons (eJoin (eC (.str " ")) (eRev (eSlot 2))) (aCons (eSlot 6) aNil))) [some (.ref l), some (eX t), some (.lst (ws.map eX)), some (.int at_), some (.int spot), some (eX sg), some (eX ot), some (.lst (xs7.map eX))] h4 = .ok (.lst ((spC t ot).map eX)) h4 := by
    have f1 := eU (some (.lst (xs7.map eX))) h4
    have f2 := eR (some (.lst (xs7.map eX))) h4
    unfold spC
    rw [hws, List.map_cons, List.map_cons, List.map_cons, List.map_nil]
    generalize eUpper (eSlot 1) = E1 at f1 ⊢
    generalize eJoin (eC (.str " ")) (eRev (eSlot 2)) = E2 at f2 ⊢
    simp [f1, f2]
  have ex := adL_run (a := eSlot 7) (xs := xs7) rfl eC3 (by rw [hx7l]; show 8 + 3 ≤ _; decide)
  generalize eOp2 addO (eSlot 7) (eFrz (aCons (eUpper (eSlot 1)) (aCons (eJoin (eC (.str " ")) (eRev (eSlot 2))) (aCons (eSlot 6) aNil)))) = E at ex ⊢
  have ep : eCall F__law_pick (aCons (eSlot 0) (aCons (eC (.int 11)) aNil)) [some (.ref l), some (eX t), some (.lst (ws.map eX)), some (.int at_), some (.int spot), some (eX sg), some (eX ot), some (.lst (xs7.map eX))] h4 = .ok (.int vx) h5 := e5
  generalize (xs7 ++ spC t ot).map eX = xx at ex ixx
  show outR ((eOp2 ixA E (eCall F__law_pick (aCons (eSlot 0) (aCons (eC (.int 11)) aNil))) [some (.ref l), some (eX t), some (.lst (ws.map eX)), some (.int at_), some (.int spot), some (eX sg), some (eX ot), some (.lst (xs7.map eX))] h4).st _ fun d h1 => .rt d h1) = _
  unfold eOp2
  rw [ex, bind_ok, ep, bind_ok, ixx]
  rfl

structure W50 (h : Hh) (l p : Nat) (n : Nat) (left : List Int) : Prop where
  lf : h[l]? = some (oL D.int left)
  lk : Lk left
  dp : h[p]? = some (.dK (dictD (dsA n) []))
  ne : l ≠ p
theorem W50.keep {h h' : Hh} {l p n : Nat} {left left' : List Int} (T : W50 h l p n left) (hl : h'[l]? = some (oL D.int left')) (lk : Lk left') (f : ∀ j, j ≠ l → h'[j]? = h[j]?) : W50 h' l p n left' :=
  ⟨hl, lk, (f _ (Ne.symm T.ne)).trans T.dp, T.ne⟩
theorem W50.more {h : Hh} {l p n : Nat} {left : List Int} (T : W50 h l p n left) (o : O) : W50 (h ++ [o]) l p n left :=
  ⟨by rw [List.getElem?_append_left (List.getElem?_eq_some_iff.mp T.lf).1]; exact T.lf, T.lk, by rw [List.getElem?_append_left (List.getElem?_eq_some_iff.mp T.dp).1]; exact T.dp, T.ne⟩
/-- lines as they are handed on -/
def LnOk (m : Nat) (ts : List Tx) : Prop := ∀ t ∈ ts, Pln t ∧ t.len ≤ m
theorem deed_txt : ∀ n : Nat, n < 6 → ((dsA n).all fun d => decide ((txD d).len ≤ 12) && ((txD d).1.cps.toList.all fun c => decide (c < 128) && decide (c ≠ 10))) = true := by decide +kernel
theorem deed_ln {n : Nat} (n5 : n ≤ 5) {d : Deed} (D : DdOk n d) : Pln (txD d) ∧ (txD d).len ≤ 12 := by
  have := List.all_eq_true.mp (deed_txt n (by omega)) d (dsA_mem.mpr D)
  rw [Bool.and_eq_true] at this
  exact ⟨pln_of this.2, of_decide_eq_true this.1⟩
/-- the lines of drawn deeds -/
theorem lines_comp {l p n : Nat} (n0 : 1 ≤ n) (n5 : n ≤ 5) (x0 x1 x4 x5 x7 x8 x9 x10 x11 x12 x13 : Option D) : ∀ (xs : List D) {h : Hh} {left : List Int}, W50 h l p n left → ∀ x6,
    ∃ ts h' left', compL none (.name 6) (fun _ h => .ok true h) (eCall F__law_deed_text (aCons (eCall F__law_deed (aCons (eSlot 2) (aCons (eSlot 3) aNil))) aNil)) [x0, x1, some (.ref l), some (.int n), x4, x5, x6, x7, x8, x9, x10, x11, x12, x13] xs h = .ok (ts.map eX) h' ∧
      W50 h' l p n left' ∧ h'.length = h.length ∧ ts.length = xs.length ∧ LnOk 12 ts
  | [], h, left, T, x6 => ⟨[], h, left, by rw [ev_comp_nil]; rfl, T, rfl, rfl, fun t ht => nomatch ht⟩
  | x :: xs, h, left, T, x6 => by
    obtain ⟨dd, lk2, DD⟩ := law_deed_of T.lk (n := (n : Int)) (by omega) (by omega)
    have kk : ((n : Int)).toNat = n := by omega
    rw [kk] at DD
    obtain ⟨h2, e2, len2, lf2, fr2⟩ := deed_run T.lf dd
    generalize (v__law_deed left n).1 = d at DD e2
    generalize (v__law_deed left n).2 = left2 at lk2 lf2
    have T2 := T.keep lf2 lk2 fr2
    obtain ⟨t1, t2⟩ := law_deed50 (by omega : n ≤ 10) DD
    have et := t__law_deed_text d h2 t2
    rw [t1] at et
    obtain ⟨ts, h3, left3, e3, T3, len3, tl, tok⟩ := lines_comp n0 n5 x0 x1 x4 x5 x7 x8 x9 x10 x11 x12 x13 xs T2 x6
    refine ⟨txD d :: ts, h3, left3, ?_, T3, by omega, by rw [List.length_cons, List.length_cons, tl], fun t ht => ?_⟩
    · rw [ev_comp_cons, List.map_cons]
      generalize eDd d = ddd at e2 et
      generalize eX (txD d) = tt at et ⊢
      generalize hE : eCall F__law_deed_text (aCons (eCall F__law_deed (aCons (eSlot 2) (aCons (eSlot 3) aNil))) aNil) = E at e3 ⊢
      have ee : E [x0, x1, some (.ref l), some (.int n), x4, x5, some x, x7, x8, x9, x10, x11, x12, x13] h = .ok tt h2 := by
        rw [← hE]
        simp [e2, et]
      simp [ee, e3]
    · rcases List.mem_cons.mp ht with rfl | ht
      · exact deed_ln n5 DD
      · exact tok t ht
def bnd : Nat → Nat → Nat
  | 0, m => m
  | k + 1, m => bnd k (2 * m + 10)
theorem bnd_le : ∀ (k m : Nat), m ≤ bnd k m
  | 0, m => Nat.le_refl _
  | k + 1, m => by have := bnd_le k (2 * m + 10); show m ≤ bnd k (2 * m + 10); omega
theorem LnOk.mono {m m' : Nat} {ts : List Tx} (h : LnOk m ts) (le : m ≤ m') : LnOk m' ts := fun t ht => ⟨(h t ht).1, by have := (h t ht).2; omega⟩
section
variable {l p n q : Nat}
theorem change_step {h : Hh} {left : List Int} {ms : List Tx} {m : Nat} (T : W50 h l p n left) (hq : h[q]? = some (oL eX ms)) (nl : q ≠ l) (np : q ≠ p) (hm : ms ≠ []) (hk : ms.length ≤ 100) (ok : LnOk m ms) (m6 : m ≤ 600) (t : D) (x0 x1 x3 x5 x6 x8 x9 x10 x11 x12 x13 : Option D) :
    ∃ h' left' ms' y9, bodyT (.name 8) L_law_0 t [x0, x1, some (.ref l), x3, some (.ref p), x5, x6, some (.ref q), x8, x9, x10, x11, x12, x13] h = .nx [x0, x1, some (.ref l), x3, some (.ref p), x5, x6, some (.ref q), some t, y9, x10, x11, x12, x13] h' ∧
      W50 h' l p n left' ∧ h'[q]? = some (oL eX ms') ∧ ms' ≠ [] ∧ ms'.length = ms.length ∧ LnOk (2 * m + 10) ms' ∧ h'.length = h.length := by
  have ml : 0 < ms.length := List.length_pos_iff.mpr hm
  obtain ⟨a1, b1, lk1⟩ := pk T.lk (m := (ms.length : Int)) (by omega)
  obtain ⟨h1, e1, len1, lf1, fr1⟩ := pick_run T.lf (m := (ms.length : Int)) (dpk T.lk (by omega) (by omega))
  generalize (v__law_pick left (ms.length : Int)).1 = at_ at a1 b1 e1
  generalize (v__law_pick left (ms.length : Int)).2 = left1 at lk1 lf1
  have T1 := T.keep lf1 lk1 fr1
  have hq1 : h1[q]? = some (oL eX ms) := (fr1 q nl).trans hq
  have hin : inR ms at_ := inR_of a1 b1
  have hmem := atZ_mem (l := ms) a1 b1
  have ix : ixA (.ref q) (.int at_) h1 = some (eX (atZ ms at_)) := o_ixO eX ms at_ hin h1 q hq1
  generalize atZ ms at_ = tt at hmem ix
  obtain ⟨s, h2, left2, e2, len2, lf2, lk2, fr2, ps, ls⟩ := spoilt_run lf1 lk1 (ok tt hmem).1 (ok tt hmem).2 m6
  have T2 := T1.keep lf2 lk2 fr2
  have hq2 : h2[q]? = some (oL eX ms) := (fr2 q nl).trans hq1
  obtain ⟨j, rfl⟩ : ∃ j : Nat, at_ = j := ⟨at_.toNat, by omega⟩
  have hj : j < ms.length := by omega
  have sj : ixN (ms.map eX).length (j : Int) = some j := by
    rw [List.length_map]
    unfold ixN
    simp; omega
  have es : setO (.ref q) (.int j) (eX s) h2 = some (h2.set q (oL eX (ms.set j s))) := by
    unfold setO
    dsimp only
    rw [hq2]
    show ((ixN (ms.map eX).length (j : Int)).map fun n => h2.set q (O.lst ((ms.map eX).set n (eX s)))) = _
    rw [sj, Option.map_some, ← List.map_set]; rfl
  have hql := (List.getElem?_eq_some_iff.mp hq2).1
  refine ⟨h2.set q (oL eX (ms.set j s)), left2, ms.set j s, some (.int j), ?_, ⟨?_, lk2, ?_, T2.ne⟩, List.getElem?_set_self hql, ?_, List.length_set, fun t ht => ?_, by rw [List.length_set]; omega⟩
  · show L_law_0 [x0, x1, some (.ref l), x3, some (.ref p), x5, x6, some (.ref q), some t, x9, x10, x11, x12, x13] h = _
    have ln : lenO [.ref q] h = some (.int (ms.length : Int)) := by
      have := o_lenO eX ms h q hq
      exact this
    generalize eX tt = td at ix e2
    generalize eX s = sd at e2 es
    unfold L_law_0
    simp [-ev_ixR, ln, e1, ix, e2, es]
  · rw [List.getElem?_set_ne nl]; exact T2.lf
  · rw [List.getElem?_set_ne np]; exact T2.dp
  · intro z
    have := congrArg List.length z
    rw [List.length_set] at this
    exact hm (List.length_eq_zero_iff.mp this)
  · rcases List.mem_or_eq_of_mem_set ht with ht | rfl
    · exact ⟨(ok t ht).1, by have := (ok t ht).2; omega⟩
    · exact ⟨ps, ls⟩
theorem changes_run (x0 x1 x3 x5 x6 x10 x11 x12 x13 : Option D) : ∀ (xs : List Int) {h : Hh} {left : List Int} {ms : List Tx} {m : Nat}, W50 h l p n left → h[q]? = some (oL eX ms) → q ≠ l → q ≠ p → ms ≠ [] → ms.length ≤ 100 → LnOk m ms → bnd xs.length m ≤ 600 → ∀ x8 x9,
    ∃ h' left' ms' y8 y9, forL none (bodyT (.name 8) L_law_0) (xs.map D.int) [x0, x1, some (.ref l), x3, some (.ref p), x5, x6, some (.ref q), x8, x9, x10, x11, x12, x13] h = .nx [x0, x1, some (.ref l), x3, some (.ref p), x5, x6, some (.ref q), y8, y9, x10, x11, x12, x13] h' ∧
      W50 h' l p n left' ∧ h'[q]? = some (oL eX ms') ∧ ms' ≠ [] ∧ ms'.length = ms.length ∧ LnOk 600 ms'
  | [], h, left, ms, m, T, hq, nl, np, hm, hk, ok, hb, x8, x9 => ⟨h, left, ms, x8, x9, ev_for_nil .., T, hq, hm, rfl, ok.mono hb⟩
  | x :: xs, h, left, ms, m, T, hq, nl, np, hm, hk, ok, hb, x8, x9 => by
    have hb : bnd xs.length (2 * m + 10) ≤ 600 := hb
    have := bnd_le xs.length (2 * m + 10)
    obtain ⟨h1, left1, ms1, y9, e1, T1, hq1, hm1, hl1, ok1, _⟩ := change_step T hq nl np hm hk ok (by omega) (.int x) x0 x1 x3 x5 x6 x8 x9 x10 x11 x12 x13
    obtain ⟨h2, left2, ms2, z8, z9, e2, T2, hq2, hm2, hl2, ok2⟩ := changes_run x0 x1 x3 x5 x6 x10 x11 x12 x13 xs T1 hq1 nl np hm1 (by omega) ok1 hb (some (.int x)) y9
    refine ⟨h2, left2, ms2, z8, z9, ?_, T2, hq2, hm2, by omega, ok2⟩
    rw [List.map_cons, ev_for_cons, e1, ev_lb_nx]
    exact e2
end

noncomputable def badI (n : Int) : List Tx → Nat → List Nat
  | [], _ => []
  | t :: ts, i => if (v_deed_in n t).isSome = true then badI n ts (i + 1) else i :: badI n ts (i + 1)
theorem badI_ok {n : Int} : ∀ (ts : List Tx) (i : Nat), (linesOk n ts = true → badI n ts i = []) ∧ (linesOk n ts = false → ∃ r, badI n ts i = badL n ts i :: r)
  | [], i => ⟨fun _ => rfl, (fun z => by cases z)⟩
  | t :: ts, i => by
    have eo : linesOk n (t :: ts) = ((v_deed_in n t).isSome && linesOk n ts) := rfl
    have eb : badL n (t :: ts) i = if (v_deed_in n t).isSome = true then badL n ts (i + 1) else i := rfl
    have ei : badI n (t :: ts) i = if (v_deed_in n t).isSome = true then badI n ts (i + 1) else i :: badI n ts (i + 1) := rfl
    rw [eo, eb, ei]
    obtain ⟨h1, h2⟩ := badI_ok ts (i + 1)
    cases c : (v_deed_in n t).isSome with
    | true => rw [Bool.true_and, if_pos rfl, if_pos rfl]; exact ⟨h1, h2⟩
    | false => rw [Bool.false_and, if_neg (by decide), if_neg (by decide)]; exact ⟨(fun z => by cases z), fun _ => ⟨_, rfl⟩⟩
section
variable {h : Hh} {l p n q : Nat} {left : List Int}
theorem bad_comp (n5 : n ≤ 5) (dp : h[p]? = some (.dK (dictD (dsA n) []))) {g : Option (Nat × List D)} (hg : gOk g h) (x0 x1 x2 x3 x5 x6 x7 x8 x9 x10 x11 x12 x13 : Option D) : ∀ (ts : List Tx) (i : Nat),
    compL g (.tup [9, 13]) (tE (eOp2 (inKO true) (eSlot 13) (eSlot 4))) (eSlot 9) [x0, x1, x2, x3, some (.ref p), x5, x6, x7, x8, x9, x10, x11, x12, x13] ((ts.zipIdx i).map fun z => D.wtp [.int (z.2 : Int), eX z.1]) h = .ok ((badI n ts i).map fun k : Nat => D.int (k : Int)) h
  | [], i => by rw [List.zipIdx_nil, List.map_nil]; unfold compL; rw [if_pos hg]; rfl
  | t :: ts, i => by
    have ih := bad_comp n5 dp hg x0 x1 x2 x3 x5 x6 x7 x8 x9 x10 x11 x12 x13 ts (i + 1)
    rw [List.zipIdx_cons, List.map_cons]
    have dl := dict_line (by omega : n ≤ 10) t
    have ek : inKO true (eX t) (.ref p) h = some (.bl (!(v_deed_in n t).isSome)) := by
      have e1 : dictOf (.ref p) h = some (dictD (dsA n) []) := by
        show (match h[p]? with | some (.dK kvs) => some kvs | _ => none) = _
        rw [dp]
      have e2 : inKO true (eX t) (.ref p) h = (match dictOf (.ref p) h, some (Sum.inr t.1 : Key) with
        | some kvs, some k => some (D.bl (if true = true then !(getG kvs k).isSome else (getG kvs k).isSome))
        | _, _ => none) := rfl
      rw [e2, e1]
      dsimp only
      rw [if_pos rfl, dl, Option.isSome_map]
    have ei : badI n (t :: ts) i = if (v_deed_in n t).isSome = true then badI n ts (i + 1) else i :: badI n ts (i + 1) := rfl
    rw [ei]
    unfold compL
    rw [if_pos hg]
    have et : tE (eOp2 (inKO true) (eSlot 13) (eSlot 4)) [x0, x1, x2, x3, some (.ref p), x5, x6, x7, x8, some (.int (i : Int)), x10, x11, x12, some (eX t)] h = .ok (!(v_deed_in n t).isSome) h := by
      generalize (!(v_deed_in n t).isSome) = b at ek ⊢
      generalize eX t = td at ek ⊢
      simp [ek]
    show ((tE (eOp2 (inKO true) (eSlot 13) (eSlot 4)) [x0, x1, x2, x3, some (.ref p), x5, x6, x7, x8, some (.int (i : Int)), x10, x11, x12, some (eX t)] h).bind _) = _
    rw [et, bind_ok]
    cases c : (v_deed_in n t).isSome with
    | true =>
      rw [if_neg (by decide), if_pos rfl]
      exact ih
    | false =>
      rw [if_pos (by decide), if_neg (by decide)]
      show ((Res.ok (D.int (i : Int)) h).bind _) = _
      rw [bind_ok, ih]; rfl
noncomputable def dueD (n : Int) (t : Tx) : D := match v_deed_in n t with
  | some d => eDd d
  | none => .non
theorem due_comp (n5 : n ≤ 5) (dp : h[p]? = some (.dK (dictD (dsA n) []))) {g : Option (Nat × List D)} (hg : gOk g h) (x0 x1 x2 x3 x5 x6 x7 x8 x9 x10 x11 x12 x13 : Option D) : ∀ (ts : List Tx),
    compL g (.name 13) (fun _ h => .ok true h) (eDGet1 (eSlot 4) (eSlot 13)) [x0, x1, x2, x3, some (.ref p), x5, x6, x7, x8, x9, x10, x11, x12, x13] (ts.map eX) h = .ok (ts.map (dueD n)) h
  | [] => by unfold compL; rw [List.map_nil]; dsimp only; rw [if_pos hg]; rfl
  | t :: ts => by
    have ih := due_comp n5 dp hg x0 x1 x2 x3 x5 x6 x7 x8 x9 x10 x11 x12 x13 ts
    rw [List.map_cons]
    have dl := dict_line (by omega : n ≤ 10) t
    have e1 : dictOf (.ref p) h = some (dictD (dsA n) []) := by
      show (match h[p]? with | some (.dK kvs) => some kvs | _ => none) = _
      rw [dp]
    have ee : eDGet1 (eSlot 4) (eSlot 13) [x0, x1, x2, x3, some (.ref p), x5, x6, x7, x8, x9, x10, x11, x12, some (eX t)] h = .ok (dueD n t) h := by
      show (if (dictOf (.ref p) h).isSome = true then lift ((getO (.ref p) (eX t) h).map fun (o : Option D) => o.getD D.non) h else .stuck) = _
      rw [e1, if_pos (show (some (dictD (dsA n) [])).isSome = true from rfl)]
      have e2 : getO (.ref p) (eX t) h = getO' (dictOf (.ref p) h) (some (Sum.inr t.1)) := rfl
      rw [e2, e1]
      show lift (some ((getG (dictD (dsA n) []) (Sum.inr t.1)).getD D.non)) h = _
      rw [dl]
      unfold dueD
      cases v_deed_in n t <;> rfl
    unfold compL
    rw [if_pos hg]
    show ((Res.ok true h).bind fun k h1 => if k = true then (eDGet1 (eSlot 4) (eSlot 13) [x0, x1, x2, x3, some (.ref p), x5, x6, x7, x8, x9, x10, x11, x12, some (eX t)] h1).bind _ else _) = _
    rw [bind_ok, if_pos rfl, ee, bind_ok, ih]; rfl
theorem due_ok {n : Int} {ts : List Tx} (c : linesOk n ts = true) : ts.map (dueD n) = (ts.map fun l => (v_deed_in n l).getD default).map eDd := by
  rw [List.map_map]
  refine List.map_congr_left fun t ht => ?_
  have := List.all_eq_true.mp c t ht
  unfold dueD
  show _ = eDd ((v_deed_in n t).getD default)
  cases v : v_deed_in n t with
  | none => rw [v] at this; cases this
  | some d => rfl
end

theorem for_src {M : Int} (h1 : -1000000 ≤ M) (h2 : M ≤ 1000000) {e : ME} {T : Tg} {b : MS} {env : DEnv} {h h1' : Hh} {r : RS} (q : e env h = .ok (.int M) h1') (l : forL none (bodyT T b) ((rngT 0 M).map D.int) env h1' = r) (nr : ∃ e h, r = .nx e h) : sFor (iA rng1 (aCons e aNil)) T b env h = r := by
  have e2 : (aCons e aNil) env h = .ok [.int M] h1' := by simp [q]
  have es : iA rng1 (aCons e aNil) env h = .ok ⟨(rngT 0 M).map D.int, none⟩ h1' := by
    rw [← rng_map]
    unfold iA
    rw [e2, bind_ok]
    show lift (if -1000000 ≤ M ∧ M ≤ 1000000 then some (⟨rangeD 0 M, none⟩ : Src) else none) h1' = _
    rw [if_pos ⟨h1, h2⟩]; rfl
  unfold sFor
  rw [es]
  obtain ⟨e1, h3, rfl⟩ := nr
  exact l
theorem asg_run {e : ME} {i : Nat} {env : DEnv} {h h' : Hh} {d : D} (q : e env h = .ok d h') : sAsg e (MR.gName i) env h = .nx (env.set i (some d)) h' := by
  simp [q]
theorem frz_comp {mi : MI} {T : Tg} {t : MT} {e : ME} {vs : List Nat} {env : DEnv} {h h1 h2 : Hh} {src : Src} {xs : List D} (hs : mi env h = .ok src h1) (hc : compL src.live T t e (wipeE env vs) src.items h1 = .ok xs h2) : eFrz (aComp mi T t e vs) env h = .ok (.lst xs) h2 := by
  unfold eFrz aComp
  rw [hs, bind_ok, hc]; rfl
theorem turn_run50 {h : Hh} {l p n : Nat} {left : List Int} {ts : List Tx} (n5 : n ≤ 5) (T : W50 h l p n left) (hp : p < h.length) (hl : l < h.length) (tn : ts ≠ []) (tl : ts.length ≤ 12) (ok : LnOk 12 ts) (t : D) (x0 x1 x6 x7 x8 x9 x10 x11 x12 x13 : Option D) :
    ∃ h' left' y7 y8 y9 y10 y11, bodyT (.name 6) L_law_1 t [x0, x1, some (.ref l), some (.int n), some (.ref p), some (.lst (ts.map eX)), x6, x7, x8, x9, x10, x11, x12, x13] h = .nx [x0, x1, some (.ref l), some (.int n), some (.ref p), some (.lst (ts.map eX)), some t, y7, y8, y9, y10, y11, x12, x13] h' ∧
      W50 h' l p n left' ∧ h.length ≤ h'.length := by
  have T0 := T.more (oL eX ts)
  have hq0 : (h ++ [oL eX ts])[h.length]? = some (oL eX ts) := by simp
  obtain ⟨a1, b1, lk1⟩ := pk T0.lk (m := 3) (by decide)
  obtain ⟨h1, e1, len1, lf1, fr1⟩ := pick_run T0.lf (m := 3) (dpk T0.lk (by decide) (by decide))
  generalize (v__law_pick left 3).1 = v at a1 b1 e1
  generalize (v__law_pick left 3).2 = left1 at lk1 lf1
  have T1 := T0.keep lf1 lk1 fr1
  have hq1 : h1[h.length]? = some (oL eX ts) := (fr1 _ (by omega)).trans hq0
  obtain ⟨h2, left2, ms, y8, y9, e2, T2, hq2, hm2, hl2, ok2⟩ := changes_run (q := h.length) x0 x1 (some (.int n)) (some (.lst (ts.map eX))) (some t) x10 x11 x12 x13 (rngT 0 (1 + v)) T1 hq1 (by omega) (by omega) tn (by omega) ok (by
    rw [rngT_len]
    have hv : v = 0 ∨ v = 1 ∨ v = 2 := by omega
    rcases hv with rfl | rfl | rfl <;> decide) x8 x9
  have hle : h.length ≤ h2.length := by have := (List.getElem?_eq_some_iff.mp hq2).1; omega
  -- the rows that are none, what is due
  have gk : gOk (some (h.length, ms.map eX)) h2 := fun i ds z => by cases z; exact hq2
  have bc := bad_comp n5 T2.dp gk x0 x1 (some (.ref l)) (some (.int n)) (some (.lst (ts.map eX))) (some t) (some (.ref h.length)) y8 none x10 x11 x12 none ms 0
  have sE : ∀ (x9 x10 x11 : Option D), iA enm (aCons (eSlot 7) aNil) [x0, x1, some (.ref l), some (.int n), some (.ref p), some (.lst (ts.map eX)), some t, some (.ref h.length), y8, x9, x10, x11, x12, x13] h2 = .ok ⟨(ms.zipIdx 0).map fun z => D.wtp [.int (z.2 : Int), eX z.1], some (h.length, ms.map eX)⟩ h2 := fun x9 x10 x11 => by
    have es : seqOf (.ref h.length) h2 = some ⟨ms.map eX, some (h.length, ms.map eX)⟩ := by
      show (match h2[h.length]? with | some (.lst ds) => some (⟨ds, some (h.length, ds)⟩ : Src) | _ => none) = _
      rw [hq2]; rfl
    have en : enm [.ref h.length] h2 = some ⟨(ms.zipIdx 0).map fun z => D.wtp [.int (z.2 : Int), eX z.1], some (h.length, ms.map eX)⟩ := by
      show (seqOf (.ref h.length) h2).map (fun src => (⟨enumD src.items, src.live⟩ : Src)) = _
      rw [es]
      show some (⟨enumD (ms.map eX), _⟩ : Src) = _
      unfold enumD
      rw [List.zipIdx_map, List.map_map]; rfl
    have a0 : (aCons (eSlot 7) aNil) [x0, x1, some (.ref l), some (.int n), some (.ref p), some (.lst (ts.map eX)), some t, some (.ref h.length), y8, x9, x10, x11, x12, x13] h2 = .ok [.ref h.length] h2 := rfl
    unfold iA
    rw [a0, bind_ok, en]; rfl
  have sD : ∀ (x9 x10 x11 : Option D), iOf (eSlot 7) [x0, x1, some (.ref l), some (.int n), some (.ref p), some (.lst (ts.map eX)), some t, some (.ref h.length), y8, x9, x10, x11, x12, x13] h2 = .ok ⟨ms.map eX, some (h.length, ms.map eX)⟩ h2 := fun x9 x10 x11 => by
    have es : srcOf (.ref h.length) h2 = some ⟨ms.map eX, some (h.length, ms.map eX)⟩ := by
      show seqOf (.ref h.length) h2 = _
      show (match h2[h.length]? with | some (.lst ds) => some (⟨ds, some (h.length, ds)⟩ : Src) | _ => none) = _
      rw [hq2]; rfl
    show lift (srcOf (.ref h.length) h2) h2 = _
    rw [es]; rfl
  have dc := fun y10 => due_comp n5 T2.dp gk x0 x1 (some (.ref l)) (some (.int n)) (some (.lst (ts.map eX))) (some t) (some (.ref h.length)) y8 y9 y10 x11 x12 none ms
  have s3 := asg_run (i := 10) (frz_comp (mi := iA enm (aCons (eSlot 7) aNil)) (T := .tup [9, 13]) (t := tE (eOp2 (inKO true) (eSlot 13) (eSlot 4))) (e := eSlot 9) (vs := [9, 13]) (sE y9 x10 x11) bc)
  have du := frz_comp (mi := iOf (eSlot 7)) (T := .name 13) (t := fun _ h => .ok true h) (e := eDGet1 (eSlot 4) (eSlot 13)) (vs := [13]) (sD y9 (some (.lst ((badI n ms 0).map fun k : Nat => D.int (k : Int)))) x11) (dc _)
  have s4 : sAsg (eOpN tupleO (aCons (eFrz (aComp (iOf (eSlot 7)) (.name 13) (fun _ h => .ok true h) (eDGet1 (eSlot 4) (eSlot 13)) [13])) aNil)) (MR.gName 11) [x0, x1, some (.ref l), some (.int n), some (.ref p), some (.lst (ts.map eX)), some t, some (.ref h.length), y8, y9, some (.lst ((badI n ms 0).map fun k : Nat => D.int (k : Int))), x11, x12, x13] h2 = .nx [x0, x1, some (.ref l), some (.int n), some (.ref p), some (.lst (ts.map eX)), some t, some (.ref h.length), y8, y9, some (.lst ((badI n ms 0).map fun k : Nat => D.int (k : Int))), some (.tup (ms.map (dueD n))), x12, x13] h2 := by
    refine asg_run (i := 11) (d := .tup (ms.map (dueD n))) ?_
    have a0 : (aCons (eFrz (aComp (iOf (eSlot 7)) (.name 13) (fun _ h => .ok true h) (eDGet1 (eSlot 4) (eSlot 13)) [13])) aNil) [x0, x1, some (.ref l), some (.int n), some (.ref p), some (.lst (ts.map eX)), some t, some (.ref h.length), y8, y9, some (.lst ((badI n ms 0).map fun k : Nat => D.int (k : Int))), x11, x12, x13] h2 = .ok [.lst (ms.map (dueD n))] h2 := by
      generalize eFrz (aComp (iOf (eSlot 7)) (.name 13) (fun _ h => .ok true h) (eDGet1 (eSlot 4) (eSlot 13)) [13]) = EE at du ⊢
      simp [du]
    unfold eOpN
    rw [a0, bind_ok]; rfl
  -- what is read
  have l1 : (tS "\n" : Tx).len = 1 := by decide +kernel
  have jb : JoinB (tS "\n") ms := by
    refine joinB_of (m := 600) (fun y hy => (ok2 y hy).2) ?_
    rw [l1]
    have : ms.length ≤ 12 := by omega
    have := Nat.mul_le_mul_right 601 this
    omega
  have jr : ∀ (x10 x11 : Option D), eJoin (eC (.str "\n")) (eSlot 7) [x0, x1, some (.ref l), some (.int n), some (.ref p), some (.lst (ts.map eX)), some t, some (.ref h.length), y8, y9, x10, x11, x12, x13] h2 = .ok (eX (tJoin (tS "\n") ms)) h2 := fun x10 x11 => by
    have so : ∀ xs : List Tx, strsOf (xs.map eX) = some (xs.map (·.1)) := fun xs => by
      induction xs with
      | nil => rfl
      | cons x xs ih =>
        rw [List.map_cons, List.map_cons]
        show ((strsOf (xs.map eX)).map fun r => x.1 :: r) = _
        rw [ih]; rfl
    have sd : seqD (.ref h.length) h2 = some (ms.map eX) := by
      show seqL (.ref h.length) h2 = _
      show (match h2[h.length]? with | some (.lst ds) => some ds | _ => none) = _
      rw [hq2]; rfl
    have j := join_of (a := tS "\n") (x := .ref h.length) (h := h2) (ds := ms.map eX) sd (so ms) jb
    show lift (joinO (tS "\n").1 (.ref h.length) h2) h2 = _
    rw [j]; rfl
  have m10 : ∀ x ∈ ms, 10 ∉ x.1.cps.toList := fun x hx hc => ((ok2 x hx).1 10 hc).2 rfl
  have m6 : ∀ x ∈ ms, x.len ≤ 640 := fun x hx => by have := (ok2 x hx).2; omega
  have nb : neO (.lst ((badI n ms 0).map fun k : Nat => D.int (k : Int))) (.lst []) h2 = some (.bl (!decide (badI n ms 0 = []))) := by
    have := o_ne (eL D.int) ((badI n ms 0).map fun k : Nat => (k : Int)) [] (h := h2)
    have e3 : (eL D.int) ((badI n ms 0).map fun k : Nat => (k : Int)) = .lst ((badI n ms 0).map fun k : Nat => D.int (k : Int)) := by
      show D.lst (List.map D.int (List.map _ _)) = _
      rw [List.map_map]; rfl
    rw [e3] at this
    refine this.trans ?_
    congr 2
    cases badI n ms 0 <;> rfl
  have ne1 : eqO (.ref h.length) (.lst [.str ""]) h2 = some (.bl (decide (ms = [tS ""]))) := o_eqO eX ms [tS ""] (h := h2) (p := h.length) (hp := hq2)
  -- the end: found is due
  have fin : ∃ X, F__law_read [.int n, eX (tJoin (tS "\n") ms)] h2 = .ok X h2 ∧ F__law_same [X, X] h2 = .ok (.bl true) h2 ∧
      ∃ y11, sSeq (sIf (tE (eOp2 neO (eSlot 10) (eFrz aNil))) (sAsg (eTup (aCons (eC (.str "*")) (aCons (eOp2 ixA (eSlot 10) (eC (.int 0))) aNil))) (MR.gName 11)) MR.sNext)
        (sSeq (sIf (tE (eOp2 eqO (eSlot 7) (eFrz (aCons (eC (.str "")) aNil)))) (sAsg (eTup aNil) (MR.gName 11)) MR.sNext)
        (sIf (tNot (tE (eCall F__law_same (aCons (eCall F__law_read (aCons (eSlot 3) (aCons (eJoin (eC (.str "\n")) (eSlot 7)) aNil))) (aCons (eSlot 11) aNil))))) (sRet (eC (.bl false))) MR.sNext)) [x0, x1, some (.ref l), some (.int n), some (.ref p), some (.lst (ts.map eX)), some t, some (.ref h.length), y8, y9, some (.lst ((badI n ms 0).map fun k : Nat => D.int (k : Int))), some (.tup (ms.map (dueD n))), x12, x13] h2 =
        (sIf (tNot (tE (eCall F__law_same (aCons (eCall F__law_read (aCons (eSlot 3) (aCons (eJoin (eC (.str "\n")) (eSlot 7)) aNil))) (aCons (eSlot 11) aNil))))) (sRet (eC (.bl false))) MR.sNext) [x0, x1, some (.ref l), some (.int n), some (.ref p), some (.lst (ts.map eX)), some t, some (.ref h.length), y8, y9, some y11, some X, x12, x13] h2 := by
    obtain ⟨k1, k2⟩ := badI_ok (n := (n : Int)) ms 0
    by_cases em : ms = [tS ""]
    · refine ⟨eS eDd [], ?_, t__law_same (e := eS eDd) rfl h2, ?_⟩
      · rw [em]; exact empty_read h2
      · rw [em, decide_eq_true rfl] at ne1
        cases c : linesOk n ms with
        | true =>
          have b0 := k1 c
          rw [b0, decide_eq_true rfl] at nb
          rw [b0]
          rw [List.map_nil] at nb ⊢
          have nb : neO (.lst []) (.lst []) h2 = some (.bl false) := nb
          refine ⟨.lst [], ?_⟩
          generalize ms.map (dueD n) = dd
          simp [nb, ne1]
          rfl
        | false =>
          obtain ⟨r, b0⟩ := k2 c
          rw [b0, decide_eq_false (by simp)] at nb
          rw [b0]
          rw [List.map_cons] at nb ⊢
          have nb : neO (.lst (D.int ((badL n ms 0 : Nat) : Int) :: r.map fun k : Nat => D.int (k : Int))) (.lst []) h2 = some (.bl true) := nb
          have ix : ixA (.lst (D.int ((badL n ms 0 : Nat) : Int) :: r.map fun k : Nat => D.int (k : Int))) (.int 0) h2 = some (.int (badL n ms 0 : Nat)) := by
            have := o_ixL D.int ((badL n ms 0 : Int) :: r.map fun k : Nat => (k : Int)) 0 (inR_of (by decide) (by simp)) h2
            have e3 : (eL D.int) ((badL n ms 0 : Int) :: r.map fun k : Nat => (k : Int)) = .lst (D.int ((badL n ms 0 : Nat) : Int) :: r.map fun k : Nat => D.int (k : Int)) := by
              show D.lst (List.map D.int (_ :: List.map _ _)) = _
              rw [List.map_cons, List.map_map]; rfl
            rw [e3] at this
            exact this
          refine ⟨.lst (D.int ((badL n ms 0 : Nat) : Int) :: r.map fun k : Nat => D.int (k : Int)), ?_⟩
          generalize ms.map (dueD n) = dd
          generalize (D.int ((badL n ms 0 : Nat) : Int) :: r.map fun k : Nat => D.int (k : Int)) = bl at nb ix ⊢
          generalize ((badL n ms 0 : Nat) : Int) = bi at ix
          simp [nb, ne1, ix]
          rfl
    · rw [decide_eq_false em] at ne1
      obtain ⟨r1, r2⟩ := lines_read (n := n) hm2 em m10 m6 (by omega) h2
      cases c : linesOk n ms with
      | true =>
        refine ⟨_, r1 c, t__law_same (e := eS eDd) rfl h2, ?_⟩
        have b0 := k1 c
        rw [b0, decide_eq_true rfl] at nb
        rw [b0, due_ok c]
        rw [List.map_nil] at nb ⊢
        have nb : neO (.lst []) (.lst []) h2 = some (.bl false) := nb
        refine ⟨.lst [], ?_⟩
        show _ = (sIf _ _ _) [x0, x1, some (.ref l), some (.int n), some (.ref p), some (.lst (ts.map eX)), some t, some (.ref h.length), y8, y9, some (.lst []), some (.tup ((ms.map fun l => (v_deed_in n l).getD default).map eDd)), x12, x13] h2
        generalize (ms.map fun l => (v_deed_in n l).getD default).map eDd = dd
        simp [nb, ne1]
      | false =>
        refine ⟨_, r2 c, t__law_same (e := eT2 eX D.int) (x := (tS "*", ((badL n ms 0 : Nat) : Int))) rfl h2, ?_⟩
        obtain ⟨r, b0⟩ := k2 c
        rw [b0, decide_eq_false (by simp)] at nb
        rw [b0]
        rw [List.map_cons] at nb ⊢
        have nb : neO (.lst (D.int ((badL n ms 0 : Nat) : Int) :: r.map fun k : Nat => D.int (k : Int))) (.lst []) h2 = some (.bl true) := nb
        have ix : ixA (.lst (D.int ((badL n ms 0 : Nat) : Int) :: r.map fun k : Nat => D.int (k : Int))) (.int 0) h2 = some (.int (badL n ms 0 : Nat)) := by
          have := o_ixL D.int ((badL n ms 0 : Int) :: r.map fun k : Nat => (k : Int)) 0 (inR_of (by decide) (by simp)) h2
          have e3 : (eL D.int) ((badL n ms 0 : Int) :: r.map fun k : Nat => (k : Int)) = .lst (D.int ((badL n ms 0 : Nat) : Int) :: r.map fun k : Nat => D.int (k : Int)) := by
            show D.lst (List.map D.int (_ :: List.map _ _)) = _
            rw [List.map_cons, List.map_map]; rfl
          rw [e3] at this
          exact this
        refine ⟨.lst (D.int ((badL n ms 0 : Nat) : Int) :: r.map fun k : Nat => D.int (k : Int)), ?_⟩
        generalize ms.map (dueD n) = dd
        generalize (D.int ((badL n ms 0 : Nat) : Int) :: r.map fun k : Nat => D.int (k : Int)) = bl at nb ix ⊢
        generalize ((badL n ms 0 : Nat) : Int) = bi at ix ⊢
        simp [nb, ne1, ix]
  obtain ⟨X, f1, f2, y11, f3⟩ := fin
  refine ⟨h2, left2, some (.ref h.length), y8, y9, some y11, some X, ?_, T2, hle⟩
  show L_law_1 [x0, x1, some (.ref l), some (.int n), some (.ref p), some (.lst (ts.map eX)), some t, x7, x8, x9, x10, x11, x12, x13] h = _
  have s1 : sAsg (eNew (aSeq (eSlot 5))) (MR.gName 7) [x0, x1, some (.ref l), some (.int n), some (.ref p), some (.lst (ts.map eX)), some t, x7, x8, x9, x10, x11, x12, x13] h = .nx [x0, x1, some (.ref l), some (.int n), some (.ref p), some (.lst (ts.map eX)), some t, some (.ref h.length), x8, x9, x10, x11, x12, x13] (h ++ [oL eX ts]) := rfl
  have p2 : eOp2 addO (eC (.int 1)) (eCall F__law_pick (aCons (eSlot 2) (aCons (eC (.int 3)) aNil))) [x0, x1, some (.ref l), some (.int n), some (.ref p), some (.lst (ts.map eX)), some t, some (.ref h.length), x8, x9, x10, x11, x12, x13] (h ++ [oL eX ts]) = .ok (.int (1 + v)) h1 := by
    generalize h ++ [oL eX ts] = hh at e1 ⊢
    generalize ts.map eX = td
    simp [e1]
  have s2 := for_src (by omega) (by omega) p2 e2 ⟨_, _, rfl⟩
  have last : (sIf (tNot (tE (eCall F__law_same (aCons (eCall F__law_read (aCons (eSlot 3) (aCons (eJoin (eC (.str "\n")) (eSlot 7)) aNil))) (aCons (eSlot 11) aNil))))) (sRet (eC (.bl false))) MR.sNext) [x0, x1, some (.ref l), some (.int n), some (.ref p), some (.lst (ts.map eX)), some t, some (.ref h.length), y8, y9, some y11, some X, x12, x13] h2 = .nx [x0, x1, some (.ref l), some (.int n), some (.ref p), some (.lst (ts.map eX)), some t, some (.ref h.length), y8, y9, some y11, some X, x12, x13] h2 := by
    have j1 := jr (some y11) (some X)
    generalize eJoin (eC (.str "\n")) (eSlot 7) = J at j1 ⊢
    generalize eX (tJoin (tS "\n") ms) = jt at j1 f1
    generalize ts.map eX = td at j1 ⊢
    simp [j1, f1, f2]
  unfold L_law_1
  rw [sq_nx s1, sq_nx s2, sq_nx s3]
  refine (sq_nx s4).trans ?_
  rw [f3, last]

theorem turns_run50 {l p n : Nat} {ts : List Tx} (n5 : n ≤ 5) (tn : ts ≠ []) (tl : ts.length ≤ 12) (ok : LnOk 12 ts) (x0 x1 x12 x13 : Option D) : ∀ (xs : List Int) {h : Hh} {left : List Int}, W50 h l p n left → p < h.length → l < h.length → ∀ x6 x7 x8 x9 x10 x11,
    ∃ h' left' y6 y7 y8 y9 y10 y11, forL none (bodyT (.name 6) L_law_1) (xs.map D.int) [x0, x1, some (.ref l), some (.int n), some (.ref p), some (.lst (ts.map eX)), x6, x7, x8, x9, x10, x11, x12, x13] h = .nx [x0, x1, some (.ref l), some (.int n), some (.ref p), some (.lst (ts.map eX)), y6, y7, y8, y9, y10, y11, x12, x13] h' ∧ W50 h' l p n left'
  | [], h, left, T, hp, hl, x6, x7, x8, x9, x10, x11 => ⟨h, left, x6, x7, x8, x9, x10, x11, ev_for_nil .., T⟩
  | x :: xs, h, left, T, hp, hl, x6, x7, x8, x9, x10, x11 => by
    obtain ⟨h1, left1, y7, y8, y9, y10, y11, e1, T1, le⟩ := turn_run50 n5 T hp hl tn tl ok (.int x) x0 x1 x6 x7 x8 x9 x10 x11 x12 x13
    obtain ⟨h2, left2, z6, z7, z8, z9, z10, z11, e2, T2⟩ := turns_run50 n5 tn tl ok x0 x1 x12 x13 xs T1 (by omega) (by omega) (some (.int x)) y7 y8 y9 y10 y11
    refine ⟨h2, left2, z6, z7, z8, z9, z10, z11, ?_, T2⟩
    rw [List.map_cons, ev_for_cons, e1, ev_lb_nx]
    exact e2
theorem cell50 (ns : List Int) {k : Int} (k0 : 0 ≤ k) (k1 : k < 1000000) (h : Hh) (x1 x2 x3 x4 x5 x6 x7 x8 x9 x10 x11 x12 x13 : Option D) :
    ∃ h' env', bodyT (.name 1) L_law_2 (.int k) [some (.scr ns), x1, x2, x3, x4, x5, x6, x7, x8, x9, x10, x11, x12, x13] h = .nx (some (.scr ns) :: env') h' ∧ env'.length = 13 := by
  have e1 := t__law_left ns k h ⟨k0, k1⟩
  have lk := lk_left ns k
  generalize v__law_left ns k = left at e1 lk
  have lf0 : (h ++ [oL D.int left])[h.length]? = some (oL D.int left) := by simp
  obtain ⟨a2, b2, lk2⟩ := pk lk (m := 5) (by decide)
  obtain ⟨h2, e2, len2, lf2, fr2⟩ := pick_run lf0 (m := 5) (dpk lk (by decide) (by decide))
  rw [List.length_append, List.length_singleton] at len2
  generalize (v__law_pick left 5).2 = left2 at lk2 lf2
  obtain ⟨n, hn⟩ : ∃ n : Nat, (1 : Int) + (v__law_pick left 5).1 = n := ⟨((1 : Int) + (v__law_pick left 5).1).toNat, by omega⟩
  generalize (v__law_pick left 5).1 = v at a2 b2 e2 hn
  have n0 : 1 ≤ n := by omega
  have n5 : n ≤ 5 := by omega
  have e3 := deeds_run (n := n) (h := h2) (by omega)
  have T3 : W50 (h2 ++ [.dK (dictD (dsA n) [])]) h.length h2.length n left2 := ⟨by rw [List.getElem?_append_left (by omega)]; exact lf2, lk2, by simp, by omega⟩
  obtain ⟨a4, b4, lk4⟩ := pk lk2 (m := 12) (by decide)
  obtain ⟨h4, e4, len4, lf4, fr4⟩ := pick_run T3.lf (m := 12) (dpk lk2 (by decide) (by decide))
  rw [List.length_append, List.length_singleton] at len4
  generalize (v__law_pick left2 12).1 = w at a4 b4 e4
  generalize (v__law_pick left2 12).2 = left4 at lk4 lf4
  have T4 := T3.keep lf4 lk4 fr4
  obtain ⟨ts, h5, left5, e5, T5, len5, tl, tok⟩ := lines_comp n0 n5 (some (.scr ns)) (some (.int k)) (some (.ref h2.length)) x5 x7 x8 x9 x10 x11 x12 x13 ((rngT 0 (1 + w)).map D.int) T4 none
  rw [List.length_map, rngT_len] at tl
  have tn : ts ≠ [] := fun z => by rw [z] at tl; simp at tl; omega
  obtain ⟨h6, left6, y6, y7, y8, y9, y10, y11, e6, T6⟩ := turns_run50 n5 tn (by omega) tok (some (.scr ns)) (some (.int k)) x12 x13 (rngT 0 4) T5 (by omega) (by omega) x6 x7 x8 x9 x10 x11
  refine ⟨h6, [some (.int k), some (.ref h.length), some (.int (n : Nat)), some (.ref h2.length), some (.lst (ts.map eX)), y6, y7, y8, y9, y10, y11, x12, x13], ?_, rfl⟩
  show L_law_2 [some (.scr ns), some (.int k), x2, x3, x4, x5, x6, x7, x8, x9, x10, x11, x12, x13] h = _
  have s1 : sAsg (eCall F__law_left (aCons (eSlot 0) (aCons (eSlot 1) aNil))) (MR.gName 2) [some (.scr ns), some (.int k), x2, x3, x4, x5, x6, x7, x8, x9, x10, x11, x12, x13] h = .nx [some (.scr ns), some (.int k), some (.ref h.length), x3, x4, x5, x6, x7, x8, x9, x10, x11, x12, x13] (h ++ [oL D.int left]) := by
    simp [e1]
  have s2 : sAsg (eOp2 addO (eC (.int 1)) (eCall F__law_pick (aCons (eSlot 2) (aCons (eC (.int 5)) aNil)))) (MR.gName 3) [some (.scr ns), some (.int k), some (.ref h.length), x3, x4, x5, x6, x7, x8, x9, x10, x11, x12, x13] (h ++ [oL D.int left]) = .nx [some (.scr ns), some (.int k), some (.ref h.length), some (.int (n : Nat)), x4, x5, x6, x7, x8, x9, x10, x11, x12, x13] h2 := by
    simp [e2, hn]
  have s3 : sAsg (eCall F__law_deeds (aCons (eSlot 3) aNil)) (MR.gName 4) [some (.scr ns), some (.int k), some (.ref h.length), some (.int (n : Nat)), x4, x5, x6, x7, x8, x9, x10, x11, x12, x13] h2 = .nx [some (.scr ns), some (.int k), some (.ref h.length), some (.int (n : Nat)), some (.ref h2.length), x5, x6, x7, x8, x9, x10, x11, x12, x13] (h2 ++ [.dK (dictD (dsA n) [])]) := by
    simp [e3]
  have s4 : sAsg (eFrz (aComp (iA rng1 (aCons (eOp2 addO (eC (.int 1)) (eCall F__law_pick (aCons (eSlot 2) (aCons (eC (.int 12)) aNil)))) aNil)) (.name 6) (fun _ h => .ok true h) (eCall F__law_deed_text (aCons (eCall F__law_deed (aCons (eSlot 2) (aCons (eSlot 3) aNil))) aNil)) [6])) (MR.gName 5) [some (.scr ns), some (.int k), some (.ref h.length), some (.int (n : Nat)), some (.ref h2.length), x5, x6, x7, x8, x9, x10, x11, x12, x13] (h2 ++ [.dK (dictD (dsA n) [])]) = .nx [some (.scr ns), some (.int k), some (.ref h.length), some (.int (n : Nat)), some (.ref h2.length), some (.lst (ts.map eX)), x6, x7, x8, x9, x10, x11, x12, x13] h5 := by
    refine asg_run (i := 5) ?_
    have ep : eOp2 addO (eC (.int 1)) (eCall F__law_pick (aCons (eSlot 2) (aCons (eC (.int 12)) aNil))) [some (.scr ns), some (.int k), some (.ref h.length), some (.int (n : Nat)), some (.ref h2.length), x5, x6, x7, x8, x9, x10, x11, x12, x13] (h2 ++ [.dK (dictD (dsA n) [])]) = .ok (.int (1 + w)) h4 := by
      generalize h2 ++ [O.dK (dictD (dsA n) [])] = hh at e4 ⊢
      simp [e4]
    refine frz_comp (src := ⟨(rngT 0 (1 + w)).map D.int, none⟩) (h1 := h4) ?_ e5
    generalize eOp2 addO (eC (.int 1)) (eCall F__law_pick (aCons (eSlot 2) (aCons (eC (.int 12)) aNil))) = E at ep ⊢
    generalize h2 ++ [O.dK (dictD (dsA n) [])] = hh at ep ⊢
    have e7 : (aCons E aNil) [some (.scr ns), some (.int k), some (.ref h.length), some (.int (n : Nat)), some (.ref h2.length), x5, x6, x7, x8, x9, x10, x11, x12, x13] hh = .ok [.int (1 + w)] h4 := by simp [ep]
    rw [← rng_map]
    unfold iA
    rw [e7, bind_ok]
    show lift (if -1000000 ≤ 1 + w ∧ 1 + w ≤ 1000000 then some (⟨rangeD 0 (1 + w), none⟩ : Src) else none) h4 = _
    rw [if_pos ⟨by omega, by omega⟩]; rfl
  have s5 := for_src (T := .name 6) (b := L_law_1) (e := eC (.int 4)) (M := 4) (by decide) (by decide) rfl e6 ⟨_, _, rfl⟩
  unfold L_law_2
  rw [sq_nx s1, sq_nx s2, sq_nx s3, sq_nx s4, s5]
theorem cells50 (ns : List Int) : ∀ (xs : List Int), (∀ x ∈ xs, 0 ≤ x ∧ x < 1000000) → ∀ (h : Hh) (env : DEnv), env.length = 13 →
    ∃ h' env', forL none (bodyT (.name 1) L_law_2) (xs.map D.int) (some (.scr ns) :: env) h = .nx (some (.scr ns) :: env') h' ∧ env'.length = 13
  | [], _, h, env, hl => ⟨h, _, ev_for_nil .., hl⟩
  | x :: xs, hx, h, env, hl => by
    match env, hl with
    | [x1, x2, x3, x4, x5, x6, x7, x8, x9, x10, x11, x12, x13], _ =>
      obtain ⟨h1, env1, e, l1⟩ := cell50 ns (hx x List.mem_cons_self).1 (hx x List.mem_cons_self).2 h x1 x2 x3 x4 x5 x6 x7 x8 x9 x10 x11 x12 x13
      obtain ⟨h2, env2, e2, l2⟩ := cells50 ns xs (fun y hy => hx y (List.mem_cons_of_mem _ hy)) h1 env1 l1
      refine ⟨h2, env2, ?_, l2⟩
      rw [List.map_cons, ev_for_cons, e, ev_lb_nx]
      exact e2
theorem thing_step {x : D} {h : Hh} (hx : isiO [x, .glb (.ty "str")] h = some (.bl false)) (x0 x1 x2 x3 x4 x5 x6 x7 x8 x9 x10 x11 x12 x13 : Option D) : bodyT (.name 12) L_law_3 x [x0, x1, x2, x3, x4, x5, x6, x7, x8, x9, x10, x11, x12, x13] h = .nx [x0, x1, x2, x3, x4, x5, x6, x7, x8, x9, x10, x11, some x, x13] h := by
  have e := thing_read hx
  have nq : neO (.tup [.str "*", .non]) (.tup [.str "*", .non]) h = some (.bl false) := by
    have := o_ne (eT2 eX (eO D.int)) (tS "*", none) (tS "*", none) (h := h)
    rw [decide_eq_true rfl] at this
    exact this
  show L_law_3 [x0, x1, x2, x3, x4, x5, x6, x7, x8, x9, x10, x11, some x, x13] h = _
  unfold L_law_3
  simp [e, nq]
theorem law_true (ns : List Int) (hns : ns.length ≤ 63) : ∃ h', F_law [.scr ns] [] = .ok (.bl true) h' := by
  have hM : 0 ≤ (2 : Int) + (if (ns.length : Int) < (8 : Int) then (ns.length : Int) else (8 : Int)) ∧ (2 : Int) + (if (ns.length : Int) < (8 : Int) then (ns.length : Int) else (8 : Int)) ≤ 1000 := by
    split <;> omega
  obtain ⟨h', env', e, el⟩ := cells50 ns (rngT 0 ((2 : Int) + (if (ns.length : Int) < (8 : Int) then (ns.length : Int) else (8 : Int)))) (fun x hx => by have := mem_rngT.mp hx; omega) [] [none, none, none, none, none, none, none, none, none, none, none, none, none] rfl
  refine ⟨h' ++ [.dK []], ?_⟩
  unfold F_law
  rw [ev_run1]
  have ex : (eOp2 addO (eC (.int 2)) (eOpN min2O (aCons (eC (.int 8)) (aCons (eOpN lenO (aCons (eSlot 0) aNil)) aNil)))) [some (.scr ns), none, none, none, none, none, none, none, none, none, none, none, none, none] [] = .ok (.int ((2 : Int) + (if (ns.length : Int) < (8 : Int) then (ns.length : Int) else (8 : Int)))) [] := rfl
  have s1 := for_src (T := .name 1) (b := L_law_2) (by omega) (by omega) ex e ⟨_, _, rfl⟩
  show outR (b_law [some (.scr ns), none, none, none, none, none, none, none, none, none, none, none, none, none] []) = _
  unfold b_law
  rw [sq_nx s1]
  match env', el with
  | [x1, x2, x3, x4, x5, x6, x7, x8, x9, x10, x11, x12, x13], _ =>
    have i1 : isiO [.non, .glb (.ty "str")] (h' ++ [.dK []]) = some (.bl false) := rfl
    have i2 : isiO [.int 7, .glb (.ty "str")] (h' ++ [.dK []]) = some (.bl false) := rfl
    have i3 : isiO [.bl false, .glb (.ty "str")] (h' ++ [.dK []]) = some (.bl false) := rfl
    have i4 : isiO [.tup [], .glb (.ty "str")] (h' ++ [.dK []]) = some (.bl false) := rfl
    have i5 : isiO [.lst [.str "tick"], .glb (.ty "str")] (h' ++ [.dK []]) = some (.bl false) := rfl
    have i6 : isiO [.tup [.str "tick"], .glb (.ty "str")] (h' ++ [.dK []]) = some (.bl false) := rfl
    have i7 : isiO [.ref h'.length, .glb (.ty "str")] (h' ++ [.dK []]) = some (.bl false) := by
      have hx : (h' ++ [O.dK []])[h'.length]? = some (.dK []) := by simp
      have et : tyName (.ref h'.length) (h' ++ [O.dK []]) = some "dict" := by
        unfold tyName
        dsimp only
        rw [hx]
      show (tyName (.ref h'.length) (h' ++ [O.dK []])).bind (fun t => (kitB t "str").map D.bl) = _
      rw [et]; rfl
    have ei : iOf (eTup (aCons (eC .non) (aCons (eC (.int 7)) (aCons (eC (.bl false)) (aCons (eTup aNil) (aCons (eFrz (aCons (eC (.str "tick")) aNil)) (aCons (eTup (aCons (eC (.str "tick")) aNil)) (aCons (eDict0) aNil)))))))) [some (.scr ns), x1, x2, x3, x4, x5, x6, x7, x8, x9, x10, x11, x12, x13] h' = .ok ⟨[.non, .int 7, .bl false, .tup [], .lst [.str "tick"], .tup [.str "tick"], .ref h'.length], none⟩ (h' ++ [.dK []]) := rfl
    have s2 : sFor (iOf (eTup (aCons (eC .non) (aCons (eC (.int 7)) (aCons (eC (.bl false)) (aCons (eTup aNil) (aCons (eFrz (aCons (eC (.str "tick")) aNil)) (aCons (eTup (aCons (eC (.str "tick")) aNil)) (aCons (eDict0) aNil))))))))) (.name 12) L_law_3 [some (.scr ns), x1, x2, x3, x4, x5, x6, x7, x8, x9, x10, x11, x12, x13] h' = .nx [some (.scr ns), x1, x2, x3, x4, x5, x6, x7, x8, x9, x10, x11, some (.ref h'.length), x13] (h' ++ [.dK []]) := by
      unfold sFor
      rw [ei]
      show forL none _ [.non, .int 7, .bl false, .tup [], .lst [.str "tick"], .tup [.str "tick"], .ref h'.length] _ _ = _
      rw [ev_for_cons, thing_step i1, ev_lb_nx, ev_for_cons, thing_step i2, ev_lb_nx, ev_for_cons, thing_step i3, ev_lb_nx, ev_for_cons, thing_step i4, ev_lb_nx, ev_for_cons, thing_step i5, ev_lb_nx, ev_for_cons, thing_step i6, ev_lb_nx, ev_for_cons, thing_step i7, ev_lb_nx, ev_for_nil]
    rw [sq_nx s2]
    rfl

end LK
end
theorem MR.kitm_of {w : PySem.World} {K : PySem.W.Frag} {h : PySem.Heap} (X : K.In h) {a : PySem.Addr} {kvs : List (PySem.Str × PySem.Str)} {es : Array PySem.DictEntry} {n : Nat} (l : K.lookup a = some ⟨.type "dict", none, .dict es n, #[]⟩) (k : PySem.W.KeysLit w.params es.toList) (s : (a == PySem.sysModules) = false) (nd : (kvs.map (·.1)).Nodup) (e : MR.EntS es.toList kvs) : MR.KItm K w a kvs := ⟨s, nd, es, n, l, k, e⟩
set_option maxHeartbeats 0 in
theorem PySem.Challenge.cw_manyreaders_k50_rows_refused_by_their_li_holds : PySem.Challenge.rw_manyreaders_k50_rows_refused_by_their_li.Holds := by
  w_on; o_law; k_head; (case hw => w_witness2)
  k_fill
  refine L2.walk_of (l := PySem.Challenge.rw_manyreaders_k50_rows_refused_by_their_li) (n := 63) (k := 11) (x := "_law_script") (CX := fun w => L2.CX PySem.Challenge.rw_manyreaders_k50_rows_refused_by_their_li.prog w) (sp := fun w => MR.spD ⟨PySem.Challenge.rw_manyreaders_k50_rows_refused_by_their_li.prog, w, _⟩ 1 LK.F_law) rfl (by decide) rfl ⟨rfl, by decide, by decide⟩ (fun w h Y => PySem.W.kIn_of Y) ?F (fun w H a ns hl hO hS => MR.sp_law (by decide) LK.law_true H a ns hl hO hS) (fun _ _ _ _ _ h => MR.cx_law h)
  case F =>
    intro w mg fa h KX G hmg
    have T : LK.Txt PySem.Challenge.rw_manyreaders_k50_rows_refused_by_their_li.prog w (L2.KOf KX) mg := by
      refine' ⟨MR.mkXc KX G ?ua_GuestError ?ukp_GuestError ?ucl_GuestError ?uga_GuestError ?ugt_GuestError ?uex_GuestError ?uty_GuestError ?uck_GuestError ?ucs_GuestError ?uct_GuestError ?umo_GuestError ?uhd_GuestError,
        MR.mkXc KX G ?ua_NoDeed ?ukp_NoDeed ?ucl_NoDeed ?uga_NoDeed ?ugt_NoDeed ?uex_NoDeed ?uty_NoDeed ?uck_NoDeed ?ucs_NoDeed ?uct_NoDeed ?umo_NoDeed ?uhd_NoDeed,
        MR.mkXc KX G ?ua_NoText ?ukp_NoText ?ucl_NoText ?uga_NoText ?ugt_NoText ?uex_NoText ?uty_NoText ?uck_NoText ?ucs_NoText ?uct_NoText ?umo_NoText ?uhd_NoText,
        MR.mkXc KX G ?ua_TooMany ?ukp_TooMany ?ucl_TooMany ?uga_TooMany ?ugt_TooMany ?uex_TooMany ?uty_TooMany ?uck_TooMany ?ucs_TooMany ?uct_TooMany ?umo_TooMany ?uhd_TooMany,
        MR.mkXc KX G ?ua_NoLine ?ukp_NoLine ?ucl_NoLine ?uga_NoLine ?ugt_NoLine ?uex_NoLine ?uty_NoLine ?uck_NoLine ?ucs_NoLine ?uct_NoLine ?umo_NoLine ?uhd_NoLine,
        MR.mkXi KX ?ycls_NoDeed ?yrv_NoDeed ?ysa_NoDeed ?yex_NoDeed ?yty_NoDeed ?ykp_NoDeed ?yiC_NoDeed ?yl_NoDeed ?yc_NoDeed ?ykf_NoDeed ?ytI_NoDeed ?yno_NoDeed (fun _ _ _ _ _ _ us hl => match us, hl with | [_, _], _ => rfl),
        MR.mkXiD KX ?ycls_NoText ?yrv_NoText ?ysa_NoText ?yex_NoText ?yty_NoText ?ykp_NoText ?yiC_NoText ?yl_NoText ?ylT_NoText ?yc_NoText ?ykf_NoText ?ytI_NoText ?yno_NoText (fun _ _ _ _ _ _ _ us its hl hi => match us, hl, its, hi with | [_, _], _, [_], _ => ⟨_, rfl, rfl⟩),
        MR.mkXp KX ?zq_GuestError,
        MR.mkXp KX ?zq_TooMany,
        MR.mkXp KX ?zq_NoLine,
        MR.mkXb KX ?zrd_GuestError ?zga_GuestError ?zk_GuestError,
        MR.mkSub KX ?zs_GuestError_GuestError,
        MR.mkSub KX ?zs_GuestError_NoDeed,
        ?zd_GuestError_NoDeed,
        MR.mkSub KX ?zs_GuestError_NoLine,
        ?zd_GuestError_NoLine,
        MR.mkSub KX ?zs_GuestError_NoText,
        ?zd_GuestError_NoText,
        MR.mkSub KX ?zs_GuestError_TooMany,
        ?zd_GuestError_TooMany,
        MR.mkSub KX ?zs_GuestError_ValueError,
        MR.mkSub KX ?zs_NoDeed_GuestError,
        MR.mkSub KX ?zs_NoDeed_NoDeed,
        MR.mkSub KX ?zs_NoDeed_NoLine,
        ?zd_NoDeed_NoLine,
        MR.mkSub KX ?zs_NoDeed_NoText,
        ?zd_NoDeed_NoText,
        MR.mkSub KX ?zs_NoDeed_TooMany,
        ?zd_NoDeed_TooMany,
        MR.mkSub KX ?zs_NoDeed_ValueError,
        MR.mkSub KX ?zs_NoLine_GuestError,
        MR.mkSub KX ?zs_NoLine_NoDeed,
        ?zd_NoLine_NoDeed,
        MR.mkSub KX ?zs_NoLine_NoLine,
        MR.mkSub KX ?zs_NoLine_NoText,
        ?zd_NoLine_NoText,
        MR.mkSub KX ?zs_NoLine_TooMany,
        ?zd_NoLine_TooMany,
        MR.mkSub KX ?zs_NoLine_ValueError,
        MR.mkSub KX ?zs_NoText_GuestError,
        MR.mkSub KX ?zs_NoText_NoDeed,
        ?zd_NoText_NoDeed,
        MR.mkSub KX ?zs_NoText_NoLine,
        ?zd_NoText_NoLine,
        MR.mkSub KX ?zs_NoText_NoText,
        MR.mkSub KX ?zs_NoText_TooMany,
        ?zd_NoText_TooMany,
        MR.mkSub KX ?zs_NoText_ValueError,
        MR.mkSub KX ?zs_TooMany_GuestError,
        MR.mkSub KX ?zs_TooMany_NoDeed,
        ?zd_TooMany_NoDeed,
        MR.mkSub KX ?zs_TooMany_NoLine,
        ?zd_TooMany_NoLine,
        MR.mkSub KX ?zs_TooMany_NoText,
        ?zd_TooMany_NoText,
        MR.mkSub KX ?zs_TooMany_TooMany,
        MR.mkSub KX ?zs_TooMany_ValueError,
        MR.mkFd KX G ?a0 ?l0 ?d0 ?k0 (fun _ _ _ _ _ _ us hl => match us, hl with | [_, _, _], _ => rfl),
        MR.mkFd KX G ?a1 ?l1 ?d1 ?k1 (fun _ _ _ _ _ _ us hl => match us, hl with | [_, _], _ => rfl),
        MR.mkFd KX G ?a2 ?l2 ?d2 ?k2 (fun _ _ _ _ _ _ us hl => match us, hl with | [_, _], _ => rfl),
        MR.mkFd KX G ?a3 ?l3 ?d3 ?k3 (fun _ _ _ _ _ _ us hl => match us, hl with | [_, _, _], _ => rfl),
        MR.mkFd KX G ?a4 ?l4 ?d4 ?k4 (fun _ _ _ _ _ _ us hl => match us, hl with | [_, _], _ => rfl),
        MR.mkFd KX G ?a5 ?l5 ?d5 ?k5 (fun _ _ _ _ _ _ us hl => match us, hl with | [_, _], _ => rfl),
        MR.mkFd KX G ?a6 ?l6 ?d6 ?k6 (fun _ _ _ _ _ _ us hl => match us, hl with | [_, _], _ => rfl),
        MR.mkFd KX G ?a7 ?l7 ?d7 ?k7 (fun _ _ _ _ _ _ us hl => match us, hl with | [], _ => rfl),
        MR.mkFd KX G ?a8 ?l8 ?d8 ?k8 (fun _ _ _ _ _ _ us hl => match us, hl with | [_, _], _ => rfl),
        MR.mkFd KX G ?a9 ?l9 ?d9 ?k9 (fun _ _ _ _ _ _ us hl => match us, hl with | [_, _], _ => rfl),
        MR.mkFd KX G ?a10 ?l10 ?d10 ?k10 (fun _ _ _ _ _ _ us hl => match us, hl with | [_, _], _ => rfl),
        MR.mkFd KX G ?a11 ?l11 ?d11 ?k11 (fun _ _ _ _ _ _ us hl => match us, hl with | [_, _], _ => rfl),
        MR.mkFd KX G ?a12 ?l12 ?d12 ?k12 (fun _ _ _ _ _ _ us hl => match us, hl with | [_], _ => rfl),
        MR.mkFd KX G ?a13 ?l13 ?d13 ?k13 (fun _ _ _ _ _ _ us hl => match us, hl with | [_], _ => rfl),
        MR.mkFd KX G ?a14 ?l14 ?d14 ?k14 (fun _ _ _ _ _ _ us hl => match us, hl with | [_, _], _ => rfl),
        MR.mkFd KX G ?a15 ?l15 ?d15 ?k15 (fun _ _ _ _ _ _ us hl => match us, hl with | [_, _], _ => rfl),
        MR.mkFd KX G ?a16 ?l16 ?d16 ?k16 (fun _ _ _ _ _ _ us hl => match us, hl with | [_], _ => rfl),
        MR.mkTupS (xs := ["read", "write"]) KX G ?ca0 ?cl0 ?cr0 ?cz0,
        MR.mkTupS (xs := ["up", "down", "leave", "stop"]) KX G ?ca1 ?cl1 ?cr1 ?cz1,
        MR.mkInt KX G ?ca2,
        MR.mkStr KX G ?ca3,
        _,
        MR.cnRef KX G ?fa_VERBS,
        MR.kitm_of KX ?fl_VERBS ?fk_VERBS ?ms_VERBS ?mn_VERBS ?me_VERBS,
        PySem.W.mg_none_of KX G ?n_ValueError,
        PySem.W.mg_none_of KX G ?n_all,
        PySem.W.mg_none_of KX G ?n_bool,
        PySem.W.mg_none_of KX G ?n_dict,
        PySem.W.mg_none_of KX G ?n_enumerate,
        PySem.W.mg_none_of KX G ?n_int,
        PySem.W.mg_none_of KX G ?n_isinstance,
        PySem.W.mg_none_of KX G ?n_len,
        PySem.W.mg_none_of KX G ?n_list,
        PySem.W.mg_none_of KX G ?n_max,
        PySem.W.mg_none_of KX G ?n_min,
        PySem.W.mg_none_of KX G ?n_range,
        PySem.W.mg_none_of KX G ?n_str,
        PySem.W.mg_none_of KX G ?n_tuple,
        PySem.W.mg_none_of KX G ?n_zip⟩
      (case ua_GuestError => k_is)
      (case ukp_GuestError => k_is)
      (case ucl_GuestError => k_is)
      (case uga_GuestError => k_is)
      (case ugt_GuestError => k_is)
      (case uex_GuestError => k_is)
      (case uty_GuestError => k_is)
      (case uck_GuestError => k_is)
      (case ucs_GuestError => k_is)
      (case uct_GuestError => k_is)
      (case umo_GuestError => k_is)
      (case uhd_GuestError => k_is)
      (case ua_NoDeed => k_is)
      (case ukp_NoDeed => k_is)
      (case ucl_NoDeed => k_is)
      (case uga_NoDeed => k_is)
      (case ugt_NoDeed => k_is)
      (case uex_NoDeed => k_is)
      (case uty_NoDeed => k_is)
      (case uck_NoDeed => k_is)
      (case ucs_NoDeed => k_is)
      (case uct_NoDeed => k_is)
      (case umo_NoDeed => k_is)
      (case uhd_NoDeed => k_is)
      (case ua_NoText => k_is)
      (case ukp_NoText => k_is)
      (case ucl_NoText => k_is)
      (case uga_NoText => k_is)
      (case ugt_NoText => k_is)
      (case uex_NoText => k_is)
      (case uty_NoText => k_is)
      (case uck_NoText => k_is)
      (case ucs_NoText => k_is)
      (case uct_NoText => k_is)
      (case umo_NoText => k_is)
      (case uhd_NoText => k_is)
      (case ua_TooMany => k_is)
      (case ukp_TooMany => k_is)
      (case ucl_TooMany => k_is)
      (case uga_TooMany => k_is)
      (case ugt_TooMany => k_is)
      (case uex_TooMany => k_is)
      (case uty_TooMany => k_is)
      (case uck_TooMany => k_is)
      (case ucs_TooMany => k_is)
      (case uct_TooMany => k_is)
      (case umo_TooMany => k_is)
      (case uhd_TooMany => k_is)
      (case ua_NoLine => k_is)
      (case ukp_NoLine => k_is)
      (case ucl_NoLine => k_is)
      (case uga_NoLine => k_is)
      (case ugt_NoLine => k_is)
      (case uex_NoLine => k_is)
      (case uty_NoLine => k_is)
      (case uck_NoLine => k_is)
      (case ucs_NoLine => k_is)
      (case uct_NoLine => k_is)
      (case umo_NoLine => k_is)
      (case uhd_NoLine => k_is)
      (case ycls_NoDeed => dsimp only [MR.mkXc]; k_is)
      (case yrv_NoDeed => rfl)
      (case ysa_NoDeed => dsimp only [MR.mkXc]; k_is)
      (case yex_NoDeed => dsimp only [MR.mkXc]; k_is)
      (case yty_NoDeed => dsimp only [MR.mkXc]; k_is)
      (case ykp_NoDeed => dsimp only [MR.mkXc]; k_is)
      (case yiC_NoDeed => dsimp only [MR.mkXc]; k_is)
      (case yl_NoDeed => k_is)
      (case yc_NoDeed => k_is)
      (case ykf_NoDeed => k_is)
      (case ytI_NoDeed => k_is)
      (case yno_NoDeed => dsimp only [MR.mkXc]; k_is)
      (case ycls_NoText => dsimp only [MR.mkXc]; k_is)
      (case yrv_NoText => rfl)
      (case ysa_NoText => dsimp only [MR.mkXc]; k_is)
      (case yex_NoText => dsimp only [MR.mkXc]; k_is)
      (case yty_NoText => dsimp only [MR.mkXc]; k_is)
      (case ykp_NoText => dsimp only [MR.mkXc]; k_is)
      (case yiC_NoText => dsimp only [MR.mkXc]; k_is)
      (case yl_NoText => k_is)
      (case ylT_NoText => k_is)
      (case yc_NoText => k_is)
      (case ykf_NoText => k_is)
      (case ytI_NoText => k_is)
      (case yno_NoText => dsimp only [MR.mkXc]; k_is)
      (case zq_GuestError => dsimp only [MR.mkXc]; k_exc)
      (case zq_TooMany => dsimp only [MR.mkXc]; k_exc)
      (case zq_NoLine => dsimp only [MR.mkXc]; k_exc)
      (case zrd_GuestError => dsimp only [MR.mkXc]; k_is)
      (case zga_GuestError => dsimp only [MR.mkXc]; k_is)
      (case zk_GuestError => dsimp only [MR.mkXc]; k_is)
      (case zs_GuestError_GuestError => dsimp only [MR.mkXc]; k_is)
      (case zs_GuestError_NoDeed => dsimp only [MR.mkXc]; k_is)
      (case zd_GuestError_NoDeed => dsimp only [MR.mkXc]; decide)
      (case zs_GuestError_NoLine => dsimp only [MR.mkXc]; k_is)
      (case zd_GuestError_NoLine => dsimp only [MR.mkXc]; decide)
      (case zs_GuestError_NoText => dsimp only [MR.mkXc]; k_is)
      (case zd_GuestError_NoText => dsimp only [MR.mkXc]; decide)
      (case zs_GuestError_TooMany => dsimp only [MR.mkXc]; k_is)
      (case zd_GuestError_TooMany => dsimp only [MR.mkXc]; decide)
      (case zs_GuestError_ValueError => dsimp only [MR.mkXc]; k_is)
      (case zs_NoDeed_GuestError => dsimp only [MR.mkXc]; k_is)
      (case zs_NoDeed_NoDeed => dsimp only [MR.mkXc]; k_is)
      (case zs_NoDeed_NoLine => dsimp only [MR.mkXc]; k_is)
      (case zd_NoDeed_NoLine => dsimp only [MR.mkXc]; decide)
      (case zs_NoDeed_NoText => dsimp only [MR.mkXc]; k_is)
      (case zd_NoDeed_NoText => dsimp only [MR.mkXc]; decide)
      (case zs_NoDeed_TooMany => dsimp only [MR.mkXc]; k_is)
      (case zd_NoDeed_TooMany => dsimp only [MR.mkXc]; decide)
      (case zs_NoDeed_ValueError => dsimp only [MR.mkXc]; k_is)
      (case zs_NoLine_GuestError => dsimp only [MR.mkXc]; k_is)
      (case zs_NoLine_NoDeed => dsimp only [MR.mkXc]; k_is)
      (case zd_NoLine_NoDeed => dsimp only [MR.mkXc]; decide)
      (case zs_NoLine_NoLine => dsimp only [MR.mkXc]; k_is)
      (case zs_NoLine_NoText => dsimp only [MR.mkXc]; k_is)
      (case zd_NoLine_NoText => dsimp only [MR.mkXc]; decide)
      (case zs_NoLine_TooMany => dsimp only [MR.mkXc]; k_is)
      (case zd_NoLine_TooMany => dsimp only [MR.mkXc]; decide)
      (case zs_NoLine_ValueError => dsimp only [MR.mkXc]; k_is)
      (case zs_NoText_GuestError => dsimp only [MR.mkXc]; k_is)
      (case zs_NoText_NoDeed => dsimp only [MR.mkXc]; k_is)
      (case zd_NoText_NoDeed => dsimp only [MR.mkXc]; decide)
      (case zs_NoText_NoLine => dsimp only [MR.mkXc]; k_is)
      (case zd_NoText_NoLine => dsimp only [MR.mkXc]; decide)
      (case zs_NoText_NoText => dsimp only [MR.mkXc]; k_is)
      (case zs_NoText_TooMany => dsimp only [MR.mkXc]; k_is)
      (case zd_NoText_TooMany => dsimp only [MR.mkXc]; decide)
      (case zs_NoText_ValueError => dsimp only [MR.mkXc]; k_is)
      (case zs_TooMany_GuestError => dsimp only [MR.mkXc]; k_is)
      (case zs_TooMany_NoDeed => dsimp only [MR.mkXc]; k_is)
      (case zd_TooMany_NoDeed => dsimp only [MR.mkXc]; decide)
      (case zs_TooMany_NoLine => dsimp only [MR.mkXc]; k_is)
      (case zd_TooMany_NoLine => dsimp only [MR.mkXc]; decide)
      (case zs_TooMany_NoText => dsimp only [MR.mkXc]; k_is)
      (case zd_TooMany_NoText => dsimp only [MR.mkXc]; decide)
      (case zs_TooMany_TooMany => dsimp only [MR.mkXc]; k_is)
      (case zs_TooMany_ValueError => dsimp only [MR.mkXc]; k_is)
      (case a0 => k_is)
      (case l0 => k_is)
      (case d0 => k_is)
      (case k0 => k_is)
      (case a1 => k_is)
      (case l1 => k_is)
      (case d1 => k_is)
      (case k1 => k_is)
      (case a2 => k_is)
      (case l2 => k_is)
      (case d2 => k_is)
      (case k2 => k_is)
      (case a3 => k_is)
      (case l3 => k_is)
      (case d3 => k_is)
      (case k3 => k_is)
      (case a4 => k_is)
      (case l4 => k_is)
      (case d4 => k_is)
      (case k4 => k_is)
      (case a5 => k_is)
      (case l5 => k_is)
      (case d5 => k_is)
      (case k5 => k_is)
      (case a6 => k_is)
      (case l6 => k_is)
      (case d6 => k_is)
      (case k6 => k_is)
      (case a7 => k_is)
      (case l7 => k_is)
      (case d7 => k_is)
      (case k7 => k_is)
      (case a8 => k_is)
      (case l8 => k_is)
      (case d8 => k_is)
      (case k8 => k_is)
      (case a9 => k_is)
      (case l9 => k_is)
      (case d9 => k_is)
      (case k9 => k_is)
      (case a10 => k_is)
      (case l10 => k_is)
      (case d10 => k_is)
      (case k10 => k_is)
      (case a11 => k_is)
      (case l11 => k_is)
      (case d11 => k_is)
      (case k11 => k_is)
      (case a12 => k_is)
      (case l12 => k_is)
      (case d12 => k_is)
      (case k12 => k_is)
      (case a13 => k_is)
      (case l13 => k_is)
      (case d13 => k_is)
      (case k13 => k_is)
      (case a14 => k_is)
      (case l14 => k_is)
      (case d14 => k_is)
      (case k14 => k_is)
      (case a15 => k_is)
      (case l15 => k_is)
      (case d15 => k_is)
      (case k15 => k_is)
      (case a16 => k_is)
      (case l16 => k_is)
      (case d16 => k_is)
      (case k16 => k_is)
      (case ca0 => k_is)
      (case cl0 => k_is)
      (case ca1 => k_is)
      (case cl1 => k_is)
      (case ca2 => k_is)
      (case ca3 => k_is)
      (case fa_VERBS => k_is)
      (case fl_VERBS => k_is)
      (case n_ValueError => k_is)
      (case n_all => k_is)
      (case n_bool => k_is)
      (case n_dict => k_is)
      (case n_enumerate => k_is)
      (case n_int => k_is)
      (case n_isinstance => k_is)
      (case n_len => k_is)
      (case n_list => k_is)
      (case n_max => k_is)
      (case n_min => k_is)
      (case n_range => k_is)
      (case n_str => k_is)
      (case n_tuple => k_is)
      (case n_zip => k_is)
      (case ms_VERBS => decide)
      (case mn_VERBS => decide)
      (case me_VERBS => exact ⟨⟨_, rfl⟩, ⟨_, rfl⟩, ⟨_, rfl⟩, ⟨_, rfl⟩, ⟨_, rfl⟩, ⟨_, rfl⟩, ⟨_, rfl⟩, ⟨_, rfl⟩, ⟨_, rfl⟩, ⟨_, rfl⟩, ⟨_, rfl⟩, ⟨_, rfl⟩, trivial⟩)
      (case fk_VERBS => exact ⟨⟨_, _, rfl, rfl⟩, ⟨_, _, rfl, rfl⟩, ⟨_, _, rfl, rfl⟩, ⟨_, _, rfl, rfl⟩, ⟨_, _, rfl, rfl⟩, ⟨_, _, rfl, rfl⟩, trivial⟩)
      (case cr0 => exact MR.strs_vals [("read", _), ("write", _)])
      (case cz0 => decide)
      (case cr1 => exact MR.strs_vals [("up", _), ("down", _), ("leave", _), ("stop", _)])
      (case cz1 => decide)
    have e := hmg.symm.trans T.p_law.g
    cases e
    exact ⟨T.p_law.fd, fun s v => T.p_law.r s [v] rfl, fun base _ _ => LK.ok_law T⟩
