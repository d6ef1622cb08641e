import PyProof.Rows.All
import PySem.Challenge.RW_manyreaders_k49_rules_and_rooms_refused
import Wide.All
import OpenK.AllK
import Wide.FinOn
import HandS.ForMost
import HandS.ForExc
import HandS.IsInst
import HandS.Deep
import HandS.TryOnly
import HandS.CallSlots
import HandS.WordsExc
import HandS.Walk
import KE.KDictKeyed
import KE.GoesNew
import HandS.Iter
import HandS.Zip
import HandS.Wide
import HandS.TupAny
import HandS.Style
import HandS.More
import HandS.Ends
import HandS.TupMul
import HandS.SetFor
import HandS.Conv
import HandS.Small
import HandS.Strs
import HandS.CallLocal
import HandS.TupSets
import HandS.FStr
import HandS.Text
import PyProof.StrBlock2
import PyProof.CallStr
import HandS.ExcInit
import HandS.ClsMeth
import HandS.RaiseMore
import HandS.Defaults
import PyProof.FString2
import KE.KExcIs
import HandS.ExcIs
import KE.KDictDisplayH
import KE.KDictCopyH
import KE.KDictPairs
import KE.KTupSum
import HandS.TupLen
import PyProof.AutoSeq1
import KE.KSlice
import HandS.NoneIn
import PyProof.NeData
import HandS.HotCalls
import HandS.SuiteRaise
import HandS.RaiseFrom
import HandS.ExcInitHot
import PyProof.ListStr
import PyProof.Rows.StrOver
import HandS.StrMore
import HandS.Flow
set_option Elab.async false
set_option linter.all false
set_option maxRecDepth 100000
namespace MR
open PySem PySem.Spec PyProof.Rows L2

inductive D where
  | non | bl (b : Bool) | int (i : Int) | str (x : Str)
  | tup (xs : List D) | lst (xs : List D)
  /-- a pair that a walk hands out: to be taken apart -/
  | wtp (xs : List D)
  | ref (i : Nat) | glb (v : V)
  | scr (ns : List Int)
  /-- a dict that stands still: its keys, its values -/
  | dct (ks ds : List D)

structure Exn where
  cls : Str
  fld : Option (Str × D)

inductive O where
  | lst (xs : List D)
  | dK (kvs : List (Key × D))
  | dN (kvs : List (D × D))
  | ins (x : Str) (fs : List (Str × D))
  /-- an exception that was caught and noted -/
  | exc (x : Exn)

abbrev Hh := List O
abbrev DEnv := List (Option D)
inductive Res (α : Type) where
  | ok (a : α) (h : Hh)
  | err (x : Exn) (h : Hh)
  | stuck

def Res.bind {α β : Type} (r : Res α) (f : α → Hh → Res β) : Res β :=
  match r with
  | .ok a h => f a h
  | .err x h => .err x h
  | .stuck => .stuck
theorem bind_ok {α β : Type} (a : α) (h : Hh) (f : α → Hh → Res β) : (Res.ok a h).bind f = f a h := rfl
theorem bind_err {α β : Type} (x : Exn) (h : Hh) (f : α → Hh → Res β) : (Res.err x h : Res α).bind f = .err x h := rfl
theorem bind_stuck {α β : Type} (f : α → Hh → Res β) : (Res.stuck : Res α).bind f = .stuck := rfl
def lift {α : Type} (o : Option α) (h : Hh) : Res α := match o with | some a => .ok a h | none => .stuck

abbrev ME := DEnv → Hh → Res D
abbrev MT := DEnv → Hh → Res Bool
abbrev MA := DEnv → Hh → Res (List D)

/-- what is fixed through the law's run -/
structure Gm where
  P : Program
  w : World
  K : PySem.W.Frag

/-- where the things that may change stand; what is set apart -/
structure Rm where
  at_ : List Addr
  res : List Addr
def Rm.add (rho : Rm) (p : Addr) : Rm := ⟨rho.at_ ++ [p], rho.res⟩
def Rm.hold (rho : Rm) (p : Addr) : Rm := ⟨rho.at_, p :: rho.res⟩

/-- a tuple, of which it is known that it has no dict -/
def SqTS (K : PySem.W.Frag) (H : Hp) (a : Addr) (vs : List V) : Prop :=
  (∃ o : Obj, H a = some (.frz o (.tup vs)) ∧ o.dict = none) ∨
    ∃ (o : Obj) (its : Array Value) (n : Nat), K.lookup a = some o ∧ o.cls = .type "tuple" ∧ o.dict = none ∧ o.data = .seq its n ∧ its.size ≤ sizeLine ∧ Vals vs its.toList
theorem SqTS.t {K : PySem.W.Frag} {H : Hp} {a : Addr} {vs : List V} (h : SqTS K H a vs) : SqT K H a vs := by
  rcases h with ⟨o, h, _⟩ | ⟨o, its, n, a, b, _, c⟩
  · exact .inl (.inr ⟨o, h⟩)
  · exact .inr ⟨o, its, n, a, b, c⟩
/-- a dict whose keys are tuples: its entries as they stand -/
def dictRaw (a : Addr) (es : Array DictEntry) (h : Heap) : Prop := ∃ o ep, h.get? a = some o ∧ o.ExactDict ∧ o.data = .dict es ep

mutual
/-- a key by value -/
def nk : D → Option NestedKey
  | .non => some NestedKey.none
  | .bl b => some (NestedKey.num (if b then 1 else 0))
  | .int i => some (NestedKey.num i)
  | .str x => some (NestedKey.text x)
  | .tup ds => (nks ds).map NestedKey.tup
  | .wtp _ => none
  | .lst _ => none
  | .ref _ => none
  | .glb _ => none
  | .scr _ => none
  | .dct _ _ => none
def nks : List D → Option (List NestedKey)
  | [] => some []
  | d :: ds => match nk d, nks ds with
    | some k, some ks => some (k :: ks)
    | _, _ => none
end

mutual
def Den (G : Gm) (rho : Rm) (H : Hp) : D → V → Prop
  | .non, v => v = .non
  | .bl b, v => v = .bl b
  | .int i, v => v = .int i
  | .str x, v => v = .str x
  | .tup ds, v => ∃ a vs, v = .ref a ∧ SqTS G.K H a vs ∧ vs.length ≤ sizeLine ∧ Dens G rho H ds vs
  | .wtp ds, v => ∃ a vs, v = .ref a ∧ SqT G.K H a vs ∧ vs.length ≤ sizeLine ∧ Dens G rho H ds vs
  | .lst ds, v => ∃ a vs, v = .ref a ∧ H a = some (.lst vs) ∧ a ∉ rho.at_ ∧ a ∉ rho.res ∧ vs.length ≤ sizeLine ∧ Dens G rho H ds vs
  | .ref i, v => ∃ a, rho.at_[i]? = some a ∧ v = .ref a
  | .glb u, v => v = u
  | .scr ns, v => ∃ a, v = .ref a ∧ ((∃ o, H a = some (.frz o (.lst (ns.map V.int)))) ∨ ∃ (o : Obj) (its : Array Value) (n : Nat), G.K.lookup a = some o ∧ o.cls = .type "list" ∧ o.dict = none ∧ o.data = .seq its n ∧ its.size ≤ sizeLine ∧ Vals (ns.map V.int) its.toList) ∧ ns.length ≤ sizeLine
  | .dct ks ds, v => ∃ (a : Addr) (xs : List (NestedKey × Addr × Value)) (es : Array DictEntry) (us : List V), v = .ref a ∧ H a = some (.ext (dictRaw a es)) ∧ a ∉ rho.at_ ∧ a ∉ rho.res ∧ (a == sysModules) = false ∧ xs.length ≤ sizeLine ∧
      nks ks = some (xs.map (·.1)) ∧ Vals us (xs.map (·.2.2)) ∧ es.toList = xs.map (entryOfKey (nestedKind G.P G.w)) ∧ (xs.map (·.1)).Nodup ∧ (∀ x ∈ xs, x.1.depth ≤ 8) ∧ Dens G rho H ks (xs.map fun x => V.ref x.2.1) ∧ Dens G rho H ds us
def Dens (G : Gm) (rho : Rm) (H : Hp) : List D → List V → Prop
  | [], vs => vs = []
  | d :: ds, vs => ∃ v r, vs = v :: r ∧ Den G rho H d v ∧ Dens G rho H ds r
end

def Fields (G : Gm) (rho : Rm) (H : Hp) : List (Str × D) → List (Str × V) → Prop :=
  Paired fun p q => p.1 = q.1 ∧ Den G rho H p.2 q.2

/-- an exception's field: a number or None -/
def PlD (y : D) (v : V) : Prop := (y = .non ∧ v = .non) ∨ ∃ i, y = .int i ∧ v = .int i
/-- an exception in the air: its class, its dict -/
def ExD (G : Gm) (rho : Rm) (H : Hp) (x : Exn) (c : Value) (d : Option Addr) : Prop :=
  (∃ C, PySem.W.nsIn G.K mainGlobals x.cls = some (some (.ref C)) ∧ c = .ref C) ∧ match x.fld with
    | none => d = none
    | some (f, y) => ∃ a v, d = some a ∧ H a = some (.xd [(f, v)]) ∧ a ∉ rho.at_ ∧ a ∉ rho.res ∧ PlD y v
/-- an exception as it stands -/
def exAt (a : Addr) (c : Value) (d : Option Addr) : HO := .ext fun h => ∃ (oe : Obj) (vs : Array Value), h.get? a = some oe ∧ oe.cls = c ∧ oe.dict = d ∧ oe.data = .fields vs
def ObD (G : Gm) (rho : Rm) (H : Hp) (a : Addr) : O → Prop
  | .lst ds => ∃ vs, H a = some (.lst vs) ∧ vs.length ≤ sizeLine ∧ Dens G rho H ds vs
  | .dK kvs => ∃ fvs, H a = some (.dK fvs) ∧ fvs.length ≤ sizeLine ∧ Paired (fun (p : Key × D) (q : Key × V) => p.1 = q.1 ∧ Den G rho H p.2 q.2) kvs fvs
  | .dN kvs => ∃ xs : List (NestedKey × Addr × Value), (a == sysModules) = false ∧ xs.length ≤ sizeLine ∧ ∃ es, H a = some (.ext (dictRaw a es)) ∧
      Paired (fun (p : D × D) (q : NestedKey × Addr × Value) => nk p.1 = some q.1 ∧ Den G rho H p.1 (.ref q.2.1) ∧ ∃ v, RelV v q.2.2 ∧ Den G rho H p.2 v) kvs xs ∧
      es.toList = xs.map (entryOfKey (nestedKind G.P G.w)) ∧ (xs.map (·.1)).Nodup ∧ ∀ x ∈ xs, x.1.depth ≤ 8
  | .ins x fs => ∃ C dx fvs, PySem.W.nsIn G.K mainGlobals x = some (some (.ref C)) ∧ H a = some (.ins C dx fvs) ∧ H dx = some (.own a) ∧ Fields G rho H fs fvs
  | .exc x => ∃ c d, ExD G rho H x c d ∧ H a = some (exAt a c d)

structure Rep (G : Gm) (rho : Rm) (hh : Hh) (H : Hp) : Prop where
  nd : rho.at_.Nodup
  hd : ∀ a ∈ rho.res, ∃ o, H a = some o
  len : rho.at_.length = hh.length
  ob : ∀ (i : Nat) (a : Addr) (o : O), rho.at_[i]? = some a → hh[i]? = some o → ObD G rho H a o

structure Step (rho : Rm) (H : Hp) (rho' : Rm) (H' : Hp) : Prop where
  ext : ∃ e, rho'.at_ = rho.at_ ++ e ∧ ∀ a ∈ e, H a = none
  new : ∀ a ∈ rho'.res, a ∈ rho.res ∨ H a = none
  kept : ∀ a ∈ rho.res, a ∈ rho'.res
  keep : ∀ a o, H a = some o → a ∉ rho.at_ → H' a = some o
  there : ∀ a o, H a = some o → ∃ o', H' a = some o'

def EnvD (G : Gm) (rho : Rm) (H : Hp) (env : DEnv) (σ : L2.St) : Prop :=
  env.length = σ.length ∧ ∀ (i : Nat) (d : D), env[i]? = some (some d) → ∃ v, σ[i]? = some (some v) ∧ Den G rho H d v

section
variable {G : Gm} {rho rho' rho'' : Rm} {H H' H'' : Hp}
theorem Step.refl : Step rho H rho H := ⟨⟨[], by simp, by simp⟩, fun _ h => .inl h, fun _ h => h, fun _ _ h _ => h, fun _ o h => ⟨o, h⟩⟩
theorem Step.back (a : Step rho H rho' H') {x : Addr} (hx : H' x = none) : H x = none := by
  cases q : H x with
  | none => rfl
  | some o =>
    obtain ⟨o', h'⟩ := a.there x o q
    rw [h'] at hx; cases hx
theorem Step.trans (a : Step rho H rho' H') (b : Step rho' H' rho'' H'') : Step rho H rho'' H'' := by
  obtain ⟨e, ee, he⟩ := a.ext
  obtain ⟨e', ee', he'⟩ := b.ext
  refine ⟨⟨e ++ e', by rw [ee', ee, List.append_assoc], fun x hx => ?_⟩, fun x hx => ?_, fun x hx => b.kept x (a.kept x hx), fun x o h hx => ?_, fun x o h => ?_⟩
  · rcases List.mem_append.mp hx with h | h
    · exact he x h
    · exact a.back (he' x h)
  · rcases b.new x hx with h | h
    · exact a.new x h
    · exact .inr (a.back h)
  · have h1 := a.keep x o h hx
    refine b.keep x o h1 fun hm => ?_
    rw [ee] at hm
    rcases List.mem_append.mp hm with h2 | h2
    · exact hx h2
    · have := he x h2
      rw [h] at this; cases this
  · obtain ⟨o', h'⟩ := a.there x o h
    exact b.there x o' h'
theorem Step.get (a : Step rho H rho' H') {i : Nat} {x : Addr} (h : rho.at_[i]? = some x) : rho'.at_[i]? = some x := by
  obtain ⟨e, ee, _⟩ := a.ext
  have hi : i < rho.at_.length := (List.getElem?_eq_some_iff.mp h).1
  rw [ee, List.getElem?_append_left hi]; exact h
theorem Step.out (a : Step rho H rho' H') {x : Addr} {o : HO} (h : H x = some o) (hx : x ∉ rho.at_) : x ∉ rho'.at_ := by
  obtain ⟨e, ee, he⟩ := a.ext
  intro hm
  rw [ee] at hm
  rcases List.mem_append.mp hm with h2 | h2
  · exact hx h2
  · have := he x h2
    rw [h] at this; cases this
theorem Step.outR (a : Step rho H rho' H') {x : Addr} {o : HO} (h : H x = some o) (hx : x ∉ rho.res) : x ∉ rho'.res := fun hm => by
  rcases a.new x hm with h2 | h2
  · exact hx h2
  · rw [h] at h2; cases h2
/-- back to what was there: what has been made is forgotten -/
theorem Step.drop (a : Step rho H rho' H') : Step rho H rho H' := ⟨⟨[], by simp, by simp⟩, fun _ h => .inl h, fun _ h => h, a.keep, a.there⟩
/-- a new thing is laid, not tracked as changing -/
theorem Step.laid {p : Addr} {o : HO} (h : H p = none) : Step rho H rho (upd H p o) :=
  ⟨⟨[], by simp, by simp⟩, fun _ h => .inl h, fun _ h => h, fun x o' hx _ => by rw [upd_ne (ne_of_none hx h)]; exact hx, fun x o' hx => ⟨o', by rw [upd_ne (ne_of_none hx h)]; exact hx⟩⟩
/-- a new thing is laid that may change -/
theorem Step.laidN {p : Addr} {o : HO} (h : H p = none) : Step rho H (rho.add p) (upd H p o) :=
  ⟨⟨[p], rfl, by simpa using h⟩, fun _ h => .inl h, fun _ h => h, fun x o' hx _ => by rw [upd_ne (ne_of_none hx h)]; exact hx, fun x o' hx => ⟨o', by rw [upd_ne (ne_of_none hx h)]; exact hx⟩⟩
/-- a new thing is laid and set apart -/
theorem Step.laidR {p : Addr} {o : HO} (h : H p = none) : Step rho H (rho.hold p) (upd H p o) :=
  ⟨⟨[], by simp [Rm.hold], by simp⟩, fun x hx => by
    rcases List.mem_cons.mp hx with e | hx
    · rw [e]; exact .inr h
    · exact .inl hx, fun _ h => List.mem_cons_of_mem _ h, fun x o' hx _ => by rw [upd_ne (ne_of_none hx h)]; exact hx, fun x o' hx => ⟨o', by rw [upd_ne (ne_of_none hx h)]; exact hx⟩⟩
/-- a thing that may change is changed -/
theorem Step.put {p : Addr} {o : HO} (h : p ∈ rho.at_) : Step rho H rho (upd H p o) :=
  ⟨⟨[], by simp, by simp⟩, fun _ h => .inl h, fun _ h => h, fun x o' hx hn => by rw [upd_ne (fun e => hn (by rw [e]; exact h))]; exact hx, fun x o' hx => by
    by_cases e : x = p
    · subst e; exact ⟨o, upd_same⟩
    · exact ⟨o', by rw [upd_ne e]; exact hx⟩⟩
/-- a thing made since is changed -/
theorem Step.since {p : Addr} {o : HO} (a : Step rho H rho' H') (h : H p = none) : Step rho H rho' (upd H' p o) :=
  ⟨a.ext, a.new, a.kept, fun x o' hx hn => by rw [upd_ne (ne_of_none hx h)]; exact a.keep x o' hx hn, fun x o' hx => by
    obtain ⟨o2, h2⟩ := a.there x o' hx
    exact ⟨o2, by rw [upd_ne (ne_of_none hx h)]; exact h2⟩⟩

/-- what may change is no tuple -/
theorem ObD.mut {a : Addr} {o : O} (x : ObD G rho H a o) : ∃ u, H a = some u ∧ Mut (some u) := by
  cases o with
  | lst ds => obtain ⟨vs, e, _⟩ := x; exact ⟨_, e, True.intro⟩
  | dK kvs => obtain ⟨vs, e, _⟩ := x; exact ⟨_, e, True.intro⟩
  | dN kvs => obtain ⟨xs, _, _, es, e, _⟩ := x; exact ⟨_, e, True.intro⟩
  | ins C fs => obtain ⟨_, dx, fvs, _, e, _⟩ := x; exact ⟨_, e, True.intro⟩
  | exc x => obtain ⟨_, _, _, e⟩ := x; exact ⟨_, e, True.intro⟩
theorem Rep.mut {hh : Hh} (R : Rep G rho hh H) {a : Addr} (h : a ∈ rho.at_) : ∃ u, H a = some u ∧ Mut (some u) := by
  obtain ⟨i, hi, e⟩ := List.mem_iff_getElem.mp h
  have h1 : rho.at_[i]? = some a := by rw [List.getElem?_eq_getElem hi, e]
  have h2 : i < hh.length := by rw [← R.len]; exact hi
  exact (R.ob i a hh[i] h1 (List.getElem?_eq_getElem h2)).mut

theorem rd_step (S : Step rho H rho' H') {a : Addr} {u : HO} (h : Rd H a u) (n : a ∉ rho.at_) : Rd H' a u := by
  rcases h with h | ⟨o, h⟩
  · exact .inl (S.keep a u h n)
  · exact .inr ⟨o, S.keep a _ h n⟩
theorem sqT_step {hh : Hh} (R : Rep G rho hh H) (S : Step rho H rho' H') {a : Addr} {vs : List V} (h : SqT G.K H a vs) : SqT G.K H' a vs := by
  rcases h with h | h
  · refine .inl (rd_step S h fun hm => ?_)
    obtain ⟨u, e, mu⟩ := R.mut hm
    rcases h with h | ⟨o, h⟩
    · rw [h] at e; cases e; exact mu
    · rw [h] at e; cases e; exact mu
  · exact .inr h
theorem sqTS_step {hh : Hh} (R : Rep G rho hh H) (S : Step rho H rho' H') {a : Addr} {vs : List V} (h : SqTS G.K H a vs) : SqTS G.K H' a vs := by
  rcases h with ⟨o, h, d⟩ | h
  · refine .inl ⟨o, S.keep a _ h fun hm => ?_, d⟩
    obtain ⟨u, e, mu⟩ := R.mut hm
    rw [h] at e; cases e; exact mu
  · exact .inr h
mutual
theorem Den.step {hh : Hh} (R : Rep G rho hh H) (S : Step rho H rho' H') : ∀ (d : D) (v : V), Den G rho H d v → Den G rho' H' d v
  | .non, _, h => h
  | .bl _, _, h => h
  | .int _, _, h => h
  | .str _, _, h => h
  | .tup ds, v, h => by
    rw [Den] at h ⊢
    obtain ⟨a, vs, e, q, l, ds'⟩ := h
    exact ⟨a, vs, e, sqTS_step R S q, l, Dens.step R S ds vs ds'⟩
  | .wtp ds, v, h => by
    rw [Den] at h ⊢
    obtain ⟨a, vs, e, q, l, ds'⟩ := h
    exact ⟨a, vs, e, sqT_step R S q, l, Dens.step R S ds vs ds'⟩
  | .lst ds, v, h => by
    rw [Den] at h ⊢
    obtain ⟨a, vs, e, q, n, n2, l, ds'⟩ := h
    exact ⟨a, vs, e, S.keep a _ q n, S.out q n, S.outR q n2, l, Dens.step R S ds vs ds'⟩
  | .ref i, v, h => by
    rw [Den] at h ⊢
    obtain ⟨a, e, q⟩ := h
    exact ⟨a, S.get e, q⟩
  | .glb _, _, h => h
  | .scr ns, v, h => by
    rw [Den] at h ⊢
    obtain ⟨a, e, q, l⟩ := h
    refine ⟨a, e, ?_, l⟩
    rcases q with ⟨o, q⟩ | q
    · exact .inl ⟨o, S.keep a _ q fun hm => by
        obtain ⟨u, e, mu⟩ := R.mut hm
        rw [q] at e; cases e; exact mu⟩
    · exact .inr q
  | .dct ks ds, v, h => by
    rw [Den] at h ⊢
    obtain ⟨a, xs, es, us, e, q, n, n2, l1, l2, k1, k2, k3, k4, k5, d1, d2⟩ := h
    exact ⟨a, xs, es, us, e, S.keep a _ q n, S.out q n, S.outR q n2, l1, l2, k1, k2, k3, k4, k5, Dens.step R S ks _ d1, Dens.step R S ds us d2⟩
theorem Dens.step {hh : Hh} (R : Rep G rho hh H) (S : Step rho H rho' H') : ∀ (ds : List D) (vs : List V), Dens G rho H ds vs → Dens G rho' H' ds vs
  | [], _, h => h
  | d :: ds, vs, h => by
    rw [Dens] at h ⊢
    obtain ⟨v, r, e, a, b⟩ := h
    exact ⟨v, r, e, Den.step R S d v a, Dens.step R S ds r b⟩
end
theorem EnvD.step {hh : Hh} (R : Rep G rho hh H) (S : Step rho H rho' H') {env : DEnv} {σ : L2.St} (h : EnvD G rho H env σ) : EnvD G rho' H' env σ :=
  ⟨h.1, fun i d e => let ⟨v, e1, e2⟩ := h.2 i d e; ⟨v, e1, Den.step R S d v e2⟩⟩
theorem Fields.step {hh : Hh} (R : Rep G rho hh H) (S : Step rho H rho' H') {fs : List (Str × D)} {fvs : List (Str × V)} (h : Fields G rho H fs fvs) : Fields G rho' H' fs fvs :=
  Paired.mapP h fun p q r => ⟨r.1, Den.step R S _ _ r.2⟩

theorem ExD.step {hh : Hh} (R : Rep G rho hh H) (S : Step rho H rho' H') {x : Exn} {c : Value} {d : Option Addr} (h : ExD G rho H x c d) : ExD G rho' H' x c d := by
  obtain ⟨e, h⟩ := h
  refine ⟨e, ?_⟩
  cases q : x.fld with
  | none => rw [q] at h; exact h
  | some p =>
    obtain ⟨f, y⟩ := p
    rw [q] at h
    obtain ⟨a, v, e1, e2, n, n2, e3⟩ := h
    exact ⟨a, v, e1, S.keep a _ e2 n, S.out e2 n, S.outR e2 n2, e3⟩
theorem ExD.turn {rho rho' : Rm} {x : Exn} {c : Value} {d : Option Addr} (h : ExD G rho H x c d) (t : ∀ a, a ∉ rho.at_ → a ∉ rho.res → a ∉ rho'.at_ ∧ a ∉ rho'.res) : ExD G rho' H x c d := by
  obtain ⟨e, h⟩ := h
  refine ⟨e, ?_⟩
  cases q : x.fld with
  | none => rw [q] at h; exact h
  | some p =>
    obtain ⟨f, y⟩ := p
    rw [q] at h
    obtain ⟨a, v, e1, e2, n, n2, e3⟩ := h
    exact ⟨a, v, e1, e2, (t a n n2).1, (t a n n2).2, e3⟩
theorem ExD.put {rho : Rm} {x : Exn} {c : Value} {d : Option Addr} {p : Addr} {o : HO} (h : ExD G rho H x c d) (hp : p ∈ rho.at_ ∨ p ∈ rho.res) : ExD G rho (upd H p o) x c d := by
  obtain ⟨e, h⟩ := h
  refine ⟨e, ?_⟩
  cases q : x.fld with
  | none => rw [q] at h; exact h
  | some p =>
    obtain ⟨f, y⟩ := p
    rw [q] at h
    obtain ⟨a, v, e1, e2, n, n2, e3⟩ := h
    exact ⟨a, v, e1, by rw [upd_ne (fun z => by subst z; exact hp.elim n n2)]; exact e2, n, n2, e3⟩
/-- an object that is not touched -/
theorem ObD.step {hh : Hh} (R : Rep G rho hh H) (S : Step rho H rho' H') {a : Addr} {o : O} (x : ObD G rho H a o) (h : ∀ u, H a = some u → H' a = some u) (ho : ∀ dx, H dx = some (.own a) → H' dx = some (.own a)) : ObD G rho' H' a o := by
  cases o with
  | lst ds => obtain ⟨vs, e, l, q⟩ := x; exact ⟨vs, h _ e, l, Dens.step R S ds vs q⟩
  | dK kvs => obtain ⟨vs, e, l, q⟩ := x; exact ⟨vs, h _ e, l, Paired.mapP q fun p q r => ⟨r.1, Den.step R S _ _ r.2⟩⟩
  | dN kvs =>
    obtain ⟨xs, l0, l1, es, e, q, r⟩ := x
    exact ⟨xs, l0, l1, es, h _ e, Paired.mapP q fun p q r => ⟨r.1, Den.step R S _ _ r.2.1, let ⟨v, a, b⟩ := r.2.2; ⟨v, a, Den.step R S _ _ b⟩⟩, r⟩
  | ins C fs => obtain ⟨c, dx, fvs, g, e, o, q⟩ := x; exact ⟨c, dx, fvs, g, h _ e, ho _ o, q.step R S⟩
  | exc x => obtain ⟨c, d, q, e⟩ := x; exact ⟨c, d, q.step R S, h _ e⟩
/-- no changing thing is an own dict -/
theorem Rep.own {hh : Hh} (R : Rep G rho hh H) {dx a : Addr} (h : H dx = some (.own a)) : dx ∉ rho.at_ := fun hm => by
  obtain ⟨u, e, mu⟩ := R.mut hm
  rw [h] at e; cases e; exact mu

/-- a new thing is laid beside -/
theorem Rep.laid {hh : Hh} (R : Rep G rho hh H) {p : Addr} {o : HO} (h : H p = none) : Rep G rho hh (upd H p o) :=
  ⟨R.nd, fun a m => let ⟨o', e⟩ := R.hd a m; ⟨o', by rw [upd_ne (ne_of_none e h)]; exact e⟩, R.len, fun i a o' e1 e2 => (R.ob i a o' e1 e2).step R (.laid h) (fun u q => by rw [upd_ne (ne_of_none q h)]; exact q) fun dx q => by rw [upd_ne (ne_of_none q h)]; exact q⟩
theorem Rep.step {hh : Hh} (R : Rep G rho hh H) (S : Step rho H rho H') (h : ∀ a ∈ rho.at_, H' a = H a) : Rep G rho hh H' :=
  ⟨R.nd, fun a m => let ⟨o', e⟩ := R.hd a m; S.there a o' e, R.len, fun i a o' e1 e2 => (R.ob i a o' e1 e2).step R S (fun u q => by rw [h a (List.mem_of_getElem? e1)]; exact q) fun dx q => S.keep dx _ q (R.own q)⟩
/-- a new thing that may change -/
theorem Rep.laidN {hh : Hh} (R : Rep G rho hh H) {p : Addr} {o : HO} {ob : O} (h : H p = none) (new : ObD G (rho.add p) (upd H p o) p ob) : Rep G (rho.add p) (hh ++ [ob]) (upd H p o) := by
  have np : p ∉ rho.at_ := fun hm => by
    obtain ⟨u, e, _⟩ := R.mut hm
    rw [h] at e; cases e
  refine ⟨?_, fun a m => let ⟨o', e⟩ := R.hd a m; ⟨o', by rw [upd_ne (ne_of_none e h)]; exact e⟩, by simp [Rm.add, R.len], fun i a o' e1 e2 => ?_⟩
  · show (rho.at_ ++ [p]).Nodup
    rw [List.nodup_append]
    exact ⟨R.nd, by simp, fun x hx y hy e => np (by simp at hy; subst hy; exact e ▸ hx)⟩
  · have e1 : (rho.at_ ++ [p])[i]? = some a := e1
    by_cases hi : i < rho.at_.length
    · rw [List.getElem?_append_left hi] at e1
      rw [List.getElem?_append_left (by rw [← R.len]; exact hi)] at e2
      exact (R.ob i a o' e1 e2).step R (.laidN h) (fun u q => by rw [upd_ne (ne_of_none q h)]; exact q) fun dx q => by rw [upd_ne (ne_of_none q h)]; exact q
    · have hl : i < (rho.at_ ++ [p]).length := (List.getElem?_eq_some_iff.mp e1).1
      have e : i = rho.at_.length := by simp at hl; omega
      subst e
      rw [List.getElem?_append_right (Nat.le_refl _)] at e1
      rw [R.len, List.getElem?_append_right (Nat.le_refl _)] at e2
      simp at e1 e2
      subst e1; subst e2
      exact new
/-- a thing is changed -/
theorem Rep.put {hh : Hh} (R : Rep G rho hh H) {i : Nat} {p : Addr} {o : HO} {ob : O} (hp : rho.at_[i]? = some p) (new : ObD G rho (upd H p o) p ob) : Rep G rho (hh.set i ob) (upd H p o) := by
  have mp : p ∈ rho.at_ := List.mem_of_getElem? hp
  refine ⟨R.nd, fun a m => let ⟨o', e⟩ := R.hd a m; (Step.put mp).there a o' e, by simp [R.len], fun j a o' e1 e2 => ?_⟩
  by_cases hj : j = i
  · subst hj
    rw [hp] at e1; cases e1
    have hl : j < hh.length := by rw [← R.len]; exact (List.getElem?_eq_some_iff.mp hp).1
    rw [List.getElem?_set_self hl] at e2
    cases e2
    exact new
  · rw [List.getElem?_set_ne (Ne.symm hj)] at e2
    have ne : a ≠ p := fun e => by
      subst e
      obtain ⟨h1, q1⟩ := List.getElem?_eq_some_iff.mp e1
      obtain ⟨h2, q2⟩ := List.getElem?_eq_some_iff.mp hp
      exact hj ((List.getElem_inj R.nd).mp (q1.trans q2.symm))
    exact (R.ob j a o' e1 e2).step R (.put mp) (fun u q => by rw [upd_ne ne]; exact q) fun dx q => by
      rw [upd_ne (fun e => R.own q (by rw [e]; exact mp))]; exact q
theorem Dens.length {ds : List D} : ∀ {vs : List V}, Dens G rho H ds vs → ds.length = vs.length := by
  induction ds with
  | nil => intro vs h; rw [Dens] at h; subst h; rfl
  | cons d ds ih =>
    intro vs h
    rw [Dens] at h
    obtain ⟨v, r, rfl, _, q⟩ := h
    simp [ih q]
theorem Dens.append {ds es : List D} : ∀ {vs ws : List V}, Dens G rho H ds vs → Dens G rho H es ws → Dens G rho H (ds ++ es) (vs ++ ws) := by
  induction ds with
  | nil => intro vs ws h q; rw [Dens] at h; subst h; exact q
  | cons d ds ih =>
    intro vs ws h q
    rw [Dens] at h
    obtain ⟨v, r, rfl, a, b⟩ := h
    show Dens G rho H (d :: (ds ++ es)) _
    rw [Dens]
    exact ⟨v, r ++ ws, rfl, a, ih b q⟩
theorem Dens.get {ds : List D} : ∀ {vs : List V} {i : Nat} {d : D}, Dens G rho H ds vs → ds[i]? = some d → ∃ v, vs[i]? = some v ∧ Den G rho H d v := by
  induction ds with
  | nil => intro vs i d h e; simp at e
  | cons x ds ih =>
    intro vs i d h e
    rw [Dens] at h
    obtain ⟨v, r, rfl, a, b⟩ := h
    cases i with
    | zero => simp at e; subst e; exact ⟨v, rfl, a⟩
    | succ i =>
      obtain ⟨w, e1, e2⟩ := ih b (by simpa using e)
      exact ⟨w, by simpa using e1, e2⟩
mutual
def bel (n : Nat) : D → Bool
  | .ref i => decide (i < n)
  | .tup ds => bels n ds
  | .wtp ds => bels n ds
  | .lst ds => bels n ds
  | .non => true
  | .bl _ => true
  | .int _ => true
  | .str _ => true
  | .glb _ => true
  | .scr _ => true
  | .dct ks ds => bels n ks && bels n ds
def bels (n : Nat) : List D → Bool
  | [] => true
  | d :: ds => bel n d && bels n ds
end
mutual
theorem Den.bel : ∀ (d : D) (v : V), Den G rho H d v → bel rho.at_.length d = true
  | .non, _, _ => rfl
  | .bl _, _, _ => rfl
  | .int _, _, _ => rfl
  | .str _, _, _ => rfl
  | .tup ds, v, h => by
    rw [Den] at h
    obtain ⟨a, vs, _, _, _, q⟩ := h
    rw [MR.bel]; exact Dens.bel ds vs q
  | .wtp ds, v, h => by
    rw [Den] at h
    obtain ⟨a, vs, _, _, _, q⟩ := h
    rw [MR.bel]; exact Dens.bel ds vs q
  | .lst ds, v, h => by
    rw [Den] at h
    obtain ⟨a, vs, _, _, _, _, _, q⟩ := h
    rw [MR.bel]; exact Dens.bel ds vs q
  | .ref i, v, h => by
    rw [Den] at h
    obtain ⟨a, e, _⟩ := h
    rw [MR.bel]; exact decide_eq_true (List.getElem?_eq_some_iff.mp e).1
  | .glb _, _, _ => rfl
  | .scr _, _, _ => rfl
  | .dct ks ds, v, h => by
    rw [Den] at h
    obtain ⟨a, xs, es, us, _, _, _, _, _, _, _, _, _, _, _, d1, d2⟩ := h
    rw [MR.bel, Dens.bel ks _ d1, Dens.bel ds us d2]; rfl
theorem Dens.bel : ∀ (ds : List D) (vs : List V), Dens G rho H ds vs → bels rho.at_.length ds = true
  | [], _, _ => rfl
  | d :: ds, vs, h => by
    rw [Dens] at h
    obtain ⟨v, r, _, a, b⟩ := h
    rw [MR.bels, Den.bel d v a, Dens.bel ds r b]; rfl
end
mutual
/-- fewer things that may change -/
theorem Den.res (h1 : ∃ e, rho'.at_ = rho.at_ ++ e) (h2 : ∀ a, a ∉ rho'.at_ → a ∉ rho'.res → a ∉ rho.res) : ∀ (d : D) (v : V), Den G rho' H d v → MR.bel rho.at_.length d = true → Den G rho H d v
  | .non, _, h, _ => h
  | .bl _, _, h, _ => h
  | .int _, _, h, _ => h
  | .str _, _, h, _ => h
  | .tup ds, v, h, b => by
    rw [Den] at h ⊢
    rw [MR.bel] at b
    obtain ⟨a, vs, e1, q, l, d⟩ := h
    exact ⟨a, vs, e1, q, l, Dens.res h1 h2 ds vs d b⟩
  | .wtp ds, v, h, b => by
    rw [Den] at h ⊢
    rw [MR.bel] at b
    obtain ⟨a, vs, e1, q, l, d⟩ := h
    exact ⟨a, vs, e1, q, l, Dens.res h1 h2 ds vs d b⟩
  | .lst ds, v, h, b => by
    rw [Den] at h ⊢
    rw [MR.bel] at b
    obtain ⟨a, vs, e1, q, n, n2, l, d⟩ := h
    obtain ⟨e, ee⟩ := h1
    exact ⟨a, vs, e1, q, fun hm => n (by rw [ee]; exact List.mem_append_left _ hm), h2 a n n2, l, Dens.res ⟨e, ee⟩ h2 ds vs d b⟩
  | .ref i, v, h, b => by
    rw [Den] at h ⊢
    rw [MR.bel] at b
    obtain ⟨a, e1, q⟩ := h
    obtain ⟨e, ee⟩ := h1
    rw [ee, List.getElem?_append_left (of_decide_eq_true b)] at e1
    exact ⟨a, e1, q⟩
  | .glb _, _, h, _ => h
  | .scr _, _, h, _ => h
  | .dct ks ds, v, h, b => by
    rw [Den] at h ⊢
    rw [MR.bel, Bool.and_eq_true] at b
    obtain ⟨a, xs, es, us, e1, q, n, n2, l1, l2, k1, k2, k3, k4, k5, d1, d2⟩ := h
    obtain ⟨e, ee⟩ := h1
    exact ⟨a, xs, es, us, e1, q, fun hm => n (by rw [ee]; exact List.mem_append_left _ hm), h2 a n n2, l1, l2, k1, k2, k3, k4, k5, Dens.res ⟨e, ee⟩ h2 ks _ d1 b.1, Dens.res ⟨e, ee⟩ h2 ds us d2 b.2⟩
theorem Dens.res (h1 : ∃ e, rho'.at_ = rho.at_ ++ e) (h2 : ∀ a, a ∉ rho'.at_ → a ∉ rho'.res → a ∉ rho.res) : ∀ (ds : List D) (vs : List V), Dens G rho' H ds vs → MR.bels rho.at_.length ds = true → Dens G rho H ds vs
  | [], _, h, _ => h
  | d :: ds, vs, h, b => by
    rw [Dens] at h ⊢
    rw [MR.bels, Bool.and_eq_true] at b
    obtain ⟨v, r, e1, x, y⟩ := h
    exact ⟨v, r, e1, Den.res h1 h2 d v x b.1, Dens.res h1 h2 ds r y b.2⟩
end
theorem Paired.and_left {α β : Type} {F : α → β → Prop} {q : α → Prop} : ∀ {l₁ : List α} {l₂ : List β}, Paired F l₁ l₂ → (∀ a b, F a b → q a) → ∀ a ∈ l₁, q a
  | _, _, .nil, _, _, h => nomatch h
  | _, _, .cons r t, f, a, h => by
    rcases List.mem_cons.mp h with e | h
    · rw [e]; exact f _ _ r
    · exact Paired.and_left t f a h
theorem Paired.strong {α β : Type} {F F' : α → β → Prop} {q : α → Prop} : ∀ {l₁ : List α} {l₂ : List β}, Paired F l₁ l₂ → (∀ a ∈ l₁, q a) → (∀ a b, q a → F a b → F' a b) → Paired F' l₁ l₂
  | _, _, .nil, _, _ => .nil
  | _, _, .cons r t, h, f => .cons (f _ _ (h _ List.mem_cons_self) r) (Paired.strong t (fun a m => h a (List.mem_cons_of_mem _ m)) f)
def O.bel (n : Nat) : O → Prop
  | .lst ds => bels n ds = true
  | .dK kvs => ∀ p ∈ kvs, MR.bel n p.2 = true
  | .dN kvs => ∀ p ∈ kvs, MR.bel n p.1 = true ∧ MR.bel n p.2 = true
  | .ins _ fs => ∀ p ∈ fs, MR.bel n p.2 = true
  | .exc _ => True
theorem ObD.bel {a : Addr} {o : O} (x : ObD G rho H a o) : O.bel rho.at_.length o := by
  cases o with
  | lst ds => obtain ⟨vs, _, _, q⟩ := x; exact Dens.bel _ _ q
  | dK kvs => obtain ⟨vs, _, _, q⟩ := x; exact Paired.and_left q fun p q r => Den.bel _ _ r.2
  | dN kvs => obtain ⟨xs, _, _, es, _, q, _⟩ := x; exact Paired.and_left q fun p q r => ⟨Den.bel _ _ r.2.1, let ⟨_, _, z⟩ := r.2.2; Den.bel _ _ z⟩
  | ins C fs => obtain ⟨c, dx, fvs, _, _, _, q⟩ := x; exact Paired.and_left q fun p q r => Den.bel _ _ r.2
  | exc x => exact True.intro
theorem ObD.res (h1 : ∃ e, rho'.at_ = rho.at_ ++ e) (h2 : ∀ a, a ∉ rho'.at_ → a ∉ rho'.res → a ∉ rho.res) {a : Addr} {o : O} (x : ObD G rho' H a o) (b : O.bel rho.at_.length o) : ObD G rho H a o := by
  cases o with
  | lst ds => obtain ⟨vs, h, l, q⟩ := x; exact ⟨vs, h, l, Dens.res h1 h2 _ _ q b⟩
  | dK kvs => obtain ⟨vs, h, l, q⟩ := x; exact ⟨vs, h, l, Paired.strong q b fun p q z r => ⟨r.1, Den.res h1 h2 _ _ r.2 z⟩⟩
  | dN kvs =>
    obtain ⟨xs, l0, l1, es, h, q, r⟩ := x
    exact ⟨xs, l0, l1, es, h, Paired.strong q b fun p q z r => ⟨r.1, Den.res h1 h2 _ _ r.2.1 z.1, let ⟨v, c, d⟩ := r.2.2; ⟨v, c, Den.res h1 h2 _ _ d z.2⟩⟩, r⟩
  | ins C fs => obtain ⟨c, dx, fvs, g, h, o, q⟩ := x; exact ⟨c, dx, fvs, g, h, o, Paired.strong q b fun p q z r => ⟨r.1, Den.res h1 h2 _ _ r.2 z⟩⟩
  | exc x => obtain ⟨c, d, q, e⟩ := x; exact ⟨c, d, q.turn fun a n n2 => ⟨fun hm => n (by obtain ⟨e, ee⟩ := h1; rw [ee]; exact List.mem_append_left _ hm), h2 a n n2⟩, e⟩
/-- what has been made is forgotten -/
theorem Rep.drop {hh g : Hh} (R0 : Rep G rho hh H) (S : Step rho H rho' H') (h1 : ∃ e, rho'.at_ = rho.at_ ++ e) (h2 : ∀ a, a ∉ rho'.at_ → a ∉ rho'.res → a ∉ rho.res) (R : Rep G rho' (hh ++ g) H') : Rep G rho hh H' :=
  ⟨R0.nd, fun a m => let ⟨o', e⟩ := R0.hd a m; S.there a o' e, R0.len, fun i a o e1 e2 => (R.ob i a o (by obtain ⟨e, ee⟩ := h1; rw [ee, List.getElem?_append_left (List.getElem?_eq_some_iff.mp e1).1]; exact e1) (by rw [List.getElem?_append_left (List.getElem?_eq_some_iff.mp e2).1]; exact e2)).res h1 h2 (R0.ob i a o e1 e2).bel⟩
/-- what was set apart is free -/
theorem Rep.free {hh : Hh} {res : List Addr} (R : Rep G rho hh H) (h : ∀ a, a ∈ res → a ∈ rho.res) : Rep G ⟨rho.at_, res⟩ hh H :=
  ⟨R.nd, fun a m => R.hd a (h a m), R.len, fun i a o e1 e2 => (R.ob i a o e1 e2).res (rho := ⟨rho.at_, res⟩) (rho' := rho) ⟨[], by simp⟩ (fun a _ n hm => n (h a hm)) (R.ob i a o e1 e2).bel⟩
/-- a dict's keys and values -/
theorem dn_split {kvs : List (D × D)} {xs : List (NestedKey × Addr × Value)} (h : Paired (fun (p : D × D) (q : NestedKey × Addr × Value) => nk p.1 = some q.1 ∧ Den G rho H p.1 (.ref q.2.1) ∧ ∃ v, RelV v q.2.2 ∧ Den G rho H p.2 v) kvs xs) :
    ∃ us, nks (kvs.map (·.1)) = some (xs.map (·.1)) ∧ Vals us (xs.map (·.2.2)) ∧ Dens G rho H (kvs.map (·.1)) (xs.map fun x => V.ref x.2.1) ∧ Dens G rho H (kvs.map (·.2)) us := by
  induction h with
  | nil => exact ⟨[], rfl, .nil, rfl, rfl⟩
  | @cons p q ps qs r t ih =>
    obtain ⟨us, a, b, c, d⟩ := ih
    obtain ⟨r1, r2, v, r3, r4⟩ := r
    refine ⟨v :: us, ?_, .cons r3 b, ?_, ?_⟩
    · rw [List.map_cons, nks, r1, a]; rfl
    · rw [List.map_cons, List.map_cons, Dens]; exact ⟨_, _, rfl, r2, c⟩
    · rw [List.map_cons, Dens]; exact ⟨_, _, rfl, r4, d⟩
end
end MR

namespace MR
open PySem PySem.Spec PyProof.Rows L2

section
variable {α β : Type}
def PostE (G : Gm) (Rl : Rm → Hp → α → β → Prop) (W : XK) (rho : Rm) (H : Hp) (r : Res α) (Q : β → Hp → Prop) : Prop :=
  match r with
  | .ok a hh => ∀ rho' H' b, Step rho H rho' H' → Rep G rho' hh H' → Rl rho' H' a b → Q b H'
  | .err x hh => ∀ rho' H' c d, Step rho H rho' H' → Rep G rho' hh H' → ExD G rho' H' x c d → W c d H'
  | .stuck => False
variable {G : Gm} {Rl : Rm → Hp → α → β → Prop} {W : XK} {rho rho' : Rm} {H H' : Hp} {Q Q' : β → Hp → Prop}
theorem PostE.start {r : Res α} (h : PostE G Rl W rho H r Q) (S : Step rho H rho' H') : PostE G Rl W rho' H' r Q := by
  cases r with
  | ok a hh => exact fun rho2 H2 b S2 R2 q => h rho2 H2 b (S.trans S2) R2 q
  | err x hh => exact fun rho2 H2 c d S2 R2 q => h rho2 H2 c d (S.trans S2) R2 q
  | stuck => exact h
end

abbrev Cx.gm (X : Cx) : Gm := ⟨X.prog, X.w, X.K⟩

abbrev wAt (W : WX) (σ : L2.St) : XK := fun c d H => W c d σ H
def TD (G : Gm) (W : WX) (m : ME) : TE := fun σ H Q => ∃ rho env hh, Rep G rho hh H ∧ EnvD G rho H env σ ∧ PostE G (Den G) (wAt W σ) rho H (m env hh) Q
def TDt (G : Gm) (W : WX) (m : MT) : TT := fun σ H Q => ∃ rho env hh, Rep G rho hh H ∧ EnvD G rho H env σ ∧ PostE G (fun _ _ a b => a = b) (wAt W σ) rho H (m env hh) Q
def TDa (G : Gm) (W : WX) (m : MA) : TA := fun σ H Q => ∃ rho env hh, Rep G rho hh H ∧ EnvD G rho H env σ ∧ PostE G (Dens G) (wAt W σ) rho H (m env hh) Q
/-- a new list: it stands apart -/
def TDl (G : Gm) (W : WX) (m : MA) : TE := fun σ H Q => ∃ rho env hh, Rep G rho hh H ∧ EnvD G rho H env σ ∧
  match m env hh with
  | .ok ds hh' => ∀ rho' H' p vs, Step rho H rho' H' → Rep G rho' hh' H' → H' p = some (.lst vs) → p ∈ rho'.res → p ∉ rho'.at_ → H p = none → vs.length ≤ sizeLine → Dens G rho' H' ds vs → Q (.ref p) H'
  | .err x hh' => ∀ rho' H' c d, Step rho H rho' H' → Rep G rho' hh' H' → ExD G rho' H' x c d → W c d σ H'
  | .stuck => False

structure DE (X : Cx) (e : Expr) (m : ME) : Prop where
  run : ∀ W, Takes X W → PE X e (TD (Cx.gm X) W m)
structure DT (X : Cx) (e : Expr) (m : MT) : Prop where
  run : ∀ W, Takes X W → PT X e (TDt (Cx.gm X) W m)
structure DW (X : Cx) (e : Expr) (m : MT) : Prop where
  run : ∀ W, Takes X W → PW X e (TDt (Cx.gm X) W m)
structure DA (X : Cx) (es : List Expr) (m : MA) : Prop where
  run : ∀ W, Takes X W → PA X es (TDa (Cx.gm X) W m)
structure DL (X : Cx) (e : Expr) (m : MA) : Prop where
  run : ∀ W, Takes X W → PE X e (TDl (Cx.gm X) W m)

theorem pe_weak {X : Cx} {e : Expr} {t t' : TE} (h : PE X e t) (i : ∀ σ H Q, t' σ H Q → t σ H Q) : PE X e t' := ⟨fun pins s σ H Q I q => h.run pins s σ H Q I (i σ H Q q)⟩
theorem pt_weak {X : Cx} {e : Expr} {t t' : TT} (h : PT X e t) (i : ∀ σ H Q, t' σ H Q → t σ H Q) : PT X e t' := ⟨fun pins s σ H Q I q => h.run pins s σ H Q I (i σ H Q q)⟩
theorem pw_weak {X : Cx} {e : Expr} {t t' : TT} (h : PW X e t) (i : ∀ σ H Q, t' σ H Q → t σ H Q) : PW X e t' := ⟨fun wh pins s σ H Q I q => h.run wh pins s σ H Q I (i σ H Q q)⟩
theorem pa_weak {X : Cx} {e : List Expr} {t t' : TA} (h : PA X e t) (i : ∀ σ H Q, t' σ H Q → t σ H Q) : PA X e t' := ⟨fun pos pins s σ H Q I q => h.run pos pins s σ H Q I (i σ H Q q)⟩

section
variable {α β : Type} {G : Gm} {W : WX} {σ : L2.St} {H : Hp} {Rl : Rm → Hp → α → β → Prop} {Q : β → Hp → Prop}
/-- the state at a place, and what is wanted from there -/
def At (G : Gm) (W : WX) (σ : L2.St) (H : Hp) (Rl : Rm → Hp → α → β → Prop) (Q : β → Hp → Prop) (f : DEnv → Hh → Res α) : Prop :=
  ∃ rho env hh, Rep G rho hh H ∧ EnvD G rho H env σ ∧ PostE G Rl (wAt W σ) rho H (f env hh) Q
theorem At.seq {m : ME} {f : DEnv → D → Hh → Res α} (h : At G W σ H Rl Q fun env hh => (m env hh).bind (f env)) :
    TD G W m σ H fun v H1 => ∃ rho env hh d, Rep G rho hh H1 ∧ EnvD G rho H1 env σ ∧ Den G rho H1 d v ∧ PostE G Rl (wAt W σ) rho H1 (f env d hh) Q := by
  obtain ⟨rho, env, hh, R, E, p⟩ := h
  refine ⟨rho, env, hh, R, E, ?_⟩
  have p : PostE G Rl (wAt W σ) rho H ((m env hh).bind (f env)) Q := p
  cases e : m env hh with
  | ok d hh1 =>
    rw [e, bind_ok] at p
    exact fun rho1 H1 v S R1 q => ⟨rho1, env, hh1, d, R1, E.step R S, q, p.start S⟩
  | err x hh1 => rw [e, bind_err] at p; exact p
  | stuck => rw [e, bind_stuck] at p; exact p
theorem At.seqT {m : MT} {f : DEnv → Bool → Hh → Res α} (h : At G W σ H Rl Q fun env hh => (m env hh).bind (f env)) :
    TDt G W m σ H fun b H1 => At G W σ H1 Rl Q fun env hh => f env b hh := by
  obtain ⟨rho, env, hh, R, E, p⟩ := h
  refine ⟨rho, env, hh, R, E, ?_⟩
  have p : PostE G Rl (wAt W σ) rho H ((m env hh).bind (f env)) Q := p
  cases e : m env hh with
  | ok d hh1 =>
    rw [e, bind_ok] at p
    exact fun rho1 H1 v S R1 q => ⟨rho1, env, hh1, R1, E.step R S, by subst q; exact p.start S⟩
  | err x hh1 => rw [e, bind_err] at p; exact p
  | stuck => rw [e, bind_stuck] at p; exact p
theorem At.seqA {m : MA} {f : DEnv → List D → Hh → Res α} (h : At G W σ H Rl Q fun env hh => (m env hh).bind (f env)) :
    TDa G W m σ H fun vs H1 => ∃ rho env hh ds, Rep G rho hh H1 ∧ EnvD G rho H1 env σ ∧ Dens G rho H1 ds vs ∧ PostE G Rl (wAt W σ) rho H1 (f env ds hh) Q := by
  obtain ⟨rho, env, hh, R, E, p⟩ := h
  refine ⟨rho, env, hh, R, E, ?_⟩
  have p : PostE G Rl (wAt W σ) rho H ((m env hh).bind (f env)) Q := p
  cases e : m env hh with
  | ok d hh1 =>
    rw [e, bind_ok] at p
    exact fun rho1 H1 v S R1 q => ⟨rho1, env, hh1, d, R1, E.step R S, q, p.start S⟩
  | err x hh1 => rw [e, bind_err] at p; exact p
  | stuck => rw [e, bind_stuck] at p; exact p
/-- one more, what is known of a first value kept -/
theorem At.seq2 {m : ME} {f : DEnv → D → D → Hh → Res α} {v1 : V} (h : ∃ rho env hh d, Rep G rho hh H ∧ EnvD G rho H env σ ∧ Den G rho H d v1 ∧ PostE G Rl (wAt W σ) rho H ((m env hh).bind (f env d)) Q) :
    TD G W m σ H fun v H1 => ∃ rho env hh d1 d2, Rep G rho hh H1 ∧ EnvD G rho H1 env σ ∧ Den G rho H1 d1 v1 ∧ Den G rho H1 d2 v ∧ PostE G Rl (wAt W σ) rho H1 (f env d1 d2 hh) Q := by
  obtain ⟨rho, env, hh, d1, R, E, q1, p⟩ := h
  refine ⟨rho, env, hh, R, E, ?_⟩
  cases e : m env hh with
  | ok d hh1 =>
    rw [e, bind_ok] at p
    exact fun rho1 H1 v S R1 q => ⟨rho1, env, hh1, d1, d, R1, E.step R S, Den.step R S _ _ q1, q, p.start S⟩
  | err x hh1 => rw [e, bind_err] at p; exact p
  | stuck => rw [e, bind_stuck] at p; exact p
theorem At.seq2A {m : MA} {f : DEnv → D → List D → Hh → Res α} {v1 : V} (h : ∃ rho env hh d, Rep G rho hh H ∧ EnvD G rho H env σ ∧ Den G rho H d v1 ∧ PostE G Rl (wAt W σ) rho H ((m env hh).bind (f env d)) Q) :
    TDa G W m σ H fun vs H1 => ∃ rho env hh d1 ds, Rep G rho hh H1 ∧ EnvD G rho H1 env σ ∧ Den G rho H1 d1 v1 ∧ Dens G rho H1 ds vs ∧ PostE G Rl (wAt W σ) rho H1 (f env d1 ds hh) Q := by
  obtain ⟨rho, env, hh, d1, R, E, q1, p⟩ := h
  refine ⟨rho, env, hh, R, E, ?_⟩
  cases e : m env hh with
  | ok d hh1 =>
    rw [e, bind_ok] at p
    exact fun rho1 H1 v S R1 q => ⟨rho1, env, hh1, d1, d, R1, E.step R S, Den.step R S _ _ q1, q, p.start S⟩
  | err x hh1 => rw [e, bind_err] at p; exact p
  | stuck => rw [e, bind_stuck] at p; exact p
theorem At.seq3 {m : ME} {f : DEnv → D → D → D → Hh → Res α} {v1 v2 : V} (h : ∃ rho env hh d1 d2, Rep G rho hh H ∧ EnvD G rho H env σ ∧ Den G rho H d1 v1 ∧ Den G rho H d2 v2 ∧ PostE G Rl (wAt W σ) rho H ((m env hh).bind (f env d1 d2)) Q) :
    TD G W m σ H fun v H1 => ∃ rho env hh d1 d2 d3, Rep G rho hh H1 ∧ EnvD G rho H1 env σ ∧ Den G rho H1 d1 v1 ∧ Den G rho H1 d2 v2 ∧ Den G rho H1 d3 v ∧ PostE G Rl (wAt W σ) rho H1 (f env d1 d2 d3 hh) Q := by
  obtain ⟨rho, env, hh, d1, d2, R, E, q1, q2, p⟩ := h
  refine ⟨rho, env, hh, R, E, ?_⟩
  cases e : m env hh with
  | ok d hh1 =>
    rw [e, bind_ok] at p
    exact fun rho1 H1 v S R1 q => ⟨rho1, env, hh1, d1, d2, d, R1, E.step R S, Den.step R S _ _ q1, Den.step R S _ _ q2, q, p.start S⟩
  | err x hh1 => rw [e, bind_err] at p; exact p
  | stuck => rw [e, bind_stuck] at p; exact p
/-- the end: a value that stands -/
theorem PostE.val {Wk : XK} {rho : Rm} {hh : Hh} {a : α} {b : β} (h : PostE G Rl Wk rho H (.ok a hh) Q) (R : Rep G rho hh H) (r : Rl rho H a b) : Q b H := h rho H b .refl R r
end

section
variable {X : Cx}
def eSlot (i : Nat) : ME := fun env h => match env[i]? with
  | some (some d) => .ok d h
  | _ => .stuck
def eC (d : D) : ME := fun _ h => .ok d h
theorem de_slot (i : Nat) {x : Str} {pos : Pos} (hN : X.N[i]? = some x := by rfl) (hv : Vis X.env.scope x := by first | exact Or.inl rfl | exact Or.inr (Or.inl rfl) | exact Or.inr (Or.inr rfl)) (hd : (x == ("__debug__" : Str)) = false := by decide)
    (hcd : (x == ("__classdict__" : Str)) = false := by decide) : DE X (.Name x pos) (eSlot i) := ⟨fun W _ => pe_weak (pe_var (i := i) hN hv hd hcd) fun σ H Q h => by
  obtain ⟨rho, env, hh, R, E, p⟩ := h
  unfold eSlot at p
  split at p
  · rename_i d e
    obtain ⟨v, e1, q⟩ := E.2 i d e
    exact ⟨v, e1, p.val R q⟩
  · exact p.elim⟩
theorem de_const {e : Expr} {v : V} {d : D} (h : PE X e (tC v)) (q : ∀ G rho H, Den G rho H d v) : DE X e (eC d) := ⟨fun W _ => pe_weak h fun σ H Q h => by
  obtain ⟨rho, env, hh, R, E, p⟩ := h
  exact p.val (b := v) R (q _ _ _)⟩
theorem de_int {i j pos} : DE X (.Constant (.int i) j pos) (eC (.int i)) := de_const pe_int fun _ _ _ => rfl
theorem de_bl {b j pos} : DE X (.Constant (.bool b) j pos) (eC (.bl b)) := de_const pe_bl fun _ _ _ => rfl
theorem de_non {j pos} : DE X (.Constant .none j pos) (eC .non) := de_const pe_non fun _ _ _ => rfl
theorem de_str {x j pos} : DE X (.Constant (.str x) j pos) (eC (.str x)) := de_const pe_str fun _ _ _ => rfl
theorem de_glbD {x : Str} {v : V} {d : D} {u : Value} {pos : Pos} (hg : Gl X x) (hm : X.mg x = some u) (r : RelV v u) (q : ∀ rho H, Den (Cx.gm X) rho H d v) (hd : (x == ("__debug__" : Str)) = false := by decide) : DE X (.Name x pos) (eC d) :=
  ⟨fun W _ => pe_weak (pe_glob hg hm r hd) fun σ H Q h => by
    obtain ⟨rho, env, hh, R, E, p⟩ := h
    exact p.val (b := v) R (q _ _)⟩
/-- a built-in's name as a value -/
theorem de_bltn {x : Str} {v : V} {u : Value} {pos : Pos} (hg : Gl X x) (hm : X.mg x = none) (hv : bootBuiltins x = some u) (r : RelV v u) (hn : x ≠ "__name__" := by decide) (hd : (x == ("__debug__" : Str)) = false := by decide) : DE X (.Name x pos) (eC (.glb v)) :=
  de_const (pe_bltn hg hm hv r hn hd) fun _ _ _ => rfl

abbrev Op2 := D → D → Hh → Option D
abbrev OpN := List D → Hh → Option D
def Rz2 (G : Gm) (r : R2) (op : Op2) : Prop := ∀ rho hh H d1 d2 v1 v2 d (Q : VK), Rep G rho hh H → Den G rho H d1 v1 → Den G rho H d2 v2 → op d1 d2 hh = some d →
  (∀ v H', Step rho H rho H' → Rep G rho hh H' → Den G rho H' d v → Q v H') → r v1 v2 H Q
def RzN (G : Gm) (r : List V → Hp → VK → Prop) (op : OpN) : Prop := ∀ rho hh H ds vs d (Q : VK), Rep G rho hh H → Dens G rho H ds vs → op ds hh = some d →
  (∀ v H', Step rho H rho H' → Rep G rho hh H' → Den G rho H' d v → Q v H') → r vs H Q
def eOp2 (f : Op2) (a b : ME) : ME := fun env h => (a env h).bind fun x h1 => (b env h1).bind fun y h2 => lift (f x y h2) h2
def eOpN (f : OpN) (as : MA) : ME := fun env h => (as env h).bind fun xs h1 => lift (f xs h1) h1
theorem tOp_of {G : Gm} {W : WX} {r : R2} {f : Op2} {ma mb : ME} {σ : L2.St} {H : Hp} {Q : VK} (z : Rz2 G r f) (h : TD G W (eOp2 f ma mb) σ H Q) : tOp r (TD G W ma) (TD G W mb) σ H Q := by
  have h1 := At.seq (m := ma) (f := fun env x h1 => (mb env h1).bind fun y h2 => lift (f x y h2) h2) h
  obtain ⟨rho, env, hh, R, E, p⟩ := h1
  refine ⟨rho, env, hh, R, E, ?_⟩
  cases e : ma env hh with
  | ok d hh1 =>
    rw [e] at p
    intro rho1 H1 v S R1 q
    have h2 := At.seq2 (m := mb) (f := fun env x y h2 => lift (f x y h2) h2) (p rho1 H1 v S R1 q)
    obtain ⟨rho2, env2, hh2, R2, E2, p2⟩ := h2
    refine ⟨rho2, env2, hh2, R2, E2, ?_⟩
    cases e2 : mb env2 hh2 with
    | ok d2 hh3 =>
      rw [e2] at p2
      intro rho3 H3 v3 S3 R3 q3
      obtain ⟨rho4, env4, hh4, x, y, R4, E4, qx, qy, p4⟩ := p2 rho3 H3 v3 S3 R3 q3
      cases o : f x y hh4 with
      | none => rw [show lift (f x y hh4) hh4 = .stuck by rw [o]; rfl] at p4; exact p4.elim
      | some dd =>
        rw [show lift (f x y hh4) hh4 = .ok dd hh4 by rw [o]; rfl] at p4
        exact z rho4 hh4 H3 x y v v3 dd Q R4 qx qy o fun w H' S' R' q' => p4 rho4 H' w S' R' q'
    | err x hh1 => rw [e2] at p2; exact p2
    | stuck => rw [e2] at p2; exact p2
  | err x hh1 => rw [e] at p; exact p
  | stuck => rw [e] at p; exact p
variable {a b : Expr} {ma mb : ME} {pos : Pos}
theorem de_op {op : Operator} {r : R2} {f : Op2} (ho : OpR X (binaryOp op) r) (z : Rz2 (Cx.gm X) r f) (ha : DE X a ma) (hb : DE X b mb) : DE X (.BinOp a op b pos) (eOp2 f ma mb) :=
  ⟨fun W tk => pe_weak (pe_op ho (ha.run W tk) (hb.run W tk)) fun σ H Q h => tOp_of z h⟩
theorem de_cmp {op : CmpOp} {r : R2} {f : Op2} (ho : OpR X (compareOp op) r) (z : Rz2 (Cx.gm X) r f) (ha : DE X a ma) (hb : DE X b mb) (hm : behindInMarks op b = false) : DE X (.Compare a [op] [b] pos) (eOp2 f ma mb) :=
  ⟨fun W tk => pe_weak (pe_cmpR ho (ha.run W tk) (hb.run W tk) hm) fun σ H Q h => tOp_of z h⟩
theorem de_ix {r : R2} {f : Op2} (hr : IxR X r) (z : Rz2 (Cx.gm X) r f) (ha : DE X a ma) (hb : DE X b mb) (hs : PlainIx b) : DE X (.Subscript a b pos) (eOp2 f ma mb) :=
  ⟨fun W tk => pe_weak (pe_ix hr (ha.run W tk) (hb.run W tk) hs) fun σ H Q h => tOp_of z h⟩

def aNil : MA := fun _ h => .ok [] h
def aCons (a : ME) (as : MA) : MA := fun env h => (a env h).bind fun x h1 => (as env h1).bind fun xs h2 => .ok (x :: xs) h2
theorem da_nil : DA X [] aNil := ⟨fun W _ => pa_weak pa_nil fun σ H Q h => by
  obtain ⟨rho, env, hh, R, E, p⟩ := h
  exact PostE.val (b := []) p R rfl⟩
variable {es : List Expr} {e : Expr} {m : ME} {ms : MA}
theorem da_cons (ha : DE X e m) (hr : DA X es ms) (hs : starEach (e :: es) X.env = (false, eval e X.env) :: starEach es X.env := by rfl) : DA X (e :: es) (aCons m ms) :=
  ⟨fun W tk => pa_weak (pa_cons (ha.run W tk) (hr.run W tk) hs) fun σ H Q h => by
    have h1 := At.seq (m := m) (f := fun env x h1 => (ms env h1).bind fun xs h2 => .ok (x :: xs) h2) h
    obtain ⟨rho, env, hh, R, E, p⟩ := h1
    refine ⟨rho, env, hh, R, E, ?_⟩
    cases e : m env hh with
    | ok d hh1 =>
      rw [e] at p
      intro rho1 H1 v S R1 q
      have h2 := At.seq2A (m := ms) (f := fun env x xs h2 => .ok (x :: xs) h2) (p rho1 H1 v S R1 q)
      obtain ⟨rho2, env2, hh2, R2, E2, p2⟩ := h2
      refine ⟨rho2, env2, hh2, R2, E2, ?_⟩
      cases e2 : ms env2 hh2 with
      | ok d2 hh3 =>
        rw [e2] at p2
        intro rho3 H3 vs S3 R3 q3
        obtain ⟨rho4, env4, hh4, x, xs, R4, E4, qx, qy, p4⟩ := p2 rho3 H3 vs S3 R3 q3
        exact PostE.val (b := v :: vs) p4 R4 ⟨v, vs, rfl, qx, qy⟩
      | err x hh1 => rw [e2] at p2; exact p2
      | stuck => rw [e2] at p2; exact p2
    | err x hh1 => rw [e] at p; exact p
    | stuck => rw [e] at p; exact p⟩
/-- the reading of arguments, then something else -/
theorem tA_of {G : Gm} {W : WX} {ms : MA} {α β : Type} {Rl : Rm → Hp → α → β → Prop} {f : DEnv → List D → Hh → Res α} {σ : L2.St} {H : Hp} {Q : β → Hp → Prop} {k : List V → Hp → Prop}
    (h : At G W σ H Rl Q fun env hh => (ms env hh).bind (f env))
    (hk : ∀ rho env hh H1 ds vs, Rep G rho hh H1 → EnvD G rho H1 env σ → Dens G rho H1 ds vs → PostE G Rl (wAt W σ) rho H1 (f env ds hh) Q → k vs H1) : TDa G W ms σ H k := by
  obtain ⟨rho, env, hh, R, E, p⟩ := At.seqA h
  refine ⟨rho, env, hh, R, E, ?_⟩
  cases e : ms env hh with
  | ok d hh1 =>
    rw [e] at p
    intro rho1 H1 v S R1 q
    obtain ⟨rho4, env4, hh4, ds, R4, E4, q4, p4⟩ := p rho1 H1 v S R1 q
    exact hk rho4 env4 hh4 H1 ds v R4 E4 q4 p4
  | err x hh1 => rw [e] at p; exact p
  | stuck => rw [e] at p; exact p
theorem tE_of {G : Gm} {W : WX} {m : ME} {α β : Type} {Rl : Rm → Hp → α → β → Prop} {f : DEnv → D → Hh → Res α} {σ : L2.St} {H : Hp} {Q : β → Hp → Prop} {k : V → Hp → Prop}
    (h : At G W σ H Rl Q fun env hh => (m env hh).bind (f env))
    (hk : ∀ rho env hh H1 d v, Rep G rho hh H1 → EnvD G rho H1 env σ → Den G rho H1 d v → PostE G Rl (wAt W σ) rho H1 (f env d hh) Q → k v H1) : TD G W m σ H k := by
  obtain ⟨rho, env, hh, R, E, p⟩ := At.seq h
  refine ⟨rho, env, hh, R, E, ?_⟩
  cases e : m env hh with
  | ok d hh1 =>
    rw [e] at p
    intro rho1 H1 v S R1 q
    obtain ⟨rho4, env4, hh4, ds, R4, E4, q4, p4⟩ := p rho1 H1 v S R1 q
    exact hk rho4 env4 hh4 H1 ds v R4 E4 q4 p4
  | err x hh1 => rw [e] at p; exact p
  | stuck => rw [e] at p; exact p
theorem tE2_of {G : Gm} {W : WX} {m : ME} {α β : Type} {Rl : Rm → Hp → α → β → Prop} {f : DEnv → D → D → Hh → Res α} {σ : L2.St} {H : Hp} {Q : β → Hp → Prop} {v1 : V} {d1 : D} {k : V → Hp → Prop}
    (h : ∃ rho env hh, Rep G rho hh H ∧ EnvD G rho H env σ ∧ Den G rho H d1 v1 ∧ PostE G Rl (wAt W σ) rho H ((m env hh).bind (f env d1)) Q)
    (hk : ∀ rho env hh H1 d2 v, Rep G rho hh H1 → EnvD G rho H1 env σ → Den G rho H1 d1 v1 → Den G rho H1 d2 v → PostE G Rl (wAt W σ) rho H1 (f env d1 d2 hh) Q → k v H1) : TD G W m σ H k := by
  obtain ⟨rho, env, hh, R, E, q1, p⟩ := h
  refine ⟨rho, env, hh, R, E, ?_⟩
  cases e : m env hh with
  | ok d hh1 =>
    rw [e, bind_ok] at p
    exact fun rho1 H1 v S R1 q => hk rho1 env hh1 H1 d v R1 (E.step R S) (Den.step R S _ _ q1) q (p.start S)
  | err x hh1 => rw [e, bind_err] at p; exact p
  | stuck => rw [e, bind_stuck] at p; exact p
theorem lift_post {α β : Type} {G : Gm} {Rl : Rm → Hp → α → β → Prop} {W : XK} {rho : Rm} {H : Hp} {o : Option α} {hh : Hh} {Q : β → Hp → Prop} (p : PostE G Rl W rho H (lift o hh) Q) : ∃ a, o = some a ∧ PostE G Rl W rho H (.ok a hh) Q := by
  cases o with
  | none => exact p.elim
  | some a => exact ⟨a, rfl, p⟩
theorem rz_of {G : Gm} {W : XK} {r : List V → Hp → VK → Prop} {f : OpN} {rho : Rm} {hh : Hh} {H : Hp} {ds : List D} {vs : List V} {Q : VK} (z : RzN G r f) (R : Rep G rho hh H) (q : Dens G rho H ds vs)
    (p : PostE G (Den G) W rho H (lift (f ds hh) hh) Q) : r vs H Q := by
  obtain ⟨d, e, p⟩ := lift_post p
  exact z rho hh H ds vs d Q R q e fun w H' S' R' q' => p rho H' w S' R' q'

/-- a built-in function called by its name -/
theorem de_callB {id : String} {x : Str} {p : Pos} {r : List V → Hp → VK → Prop} {f : OpN} (hc : CallR X (.builtin id) r) (z : RzN (Cx.gm X) r f) (hg : Gl X x) (hm : X.mg x = none) (hv : bootBuiltins x = some (.builtin id)) (ha : DA X (e :: es) ms)
    (hn : x ≠ "__name__" := by decide) (hdb : (x == ("__debug__" : Str)) = false := by decide) (he : starEach (e :: es) X.env = (false, eval e X.env) :: starEach es X.env := by rfl) (hpl : (backTo pos (starEach es X.env)).any (·.1) = false := by rfl) :
    DE X (.Call (.Name x p) (e :: es) [] pos) (eOpN f ms) :=
  ⟨fun W tk => pe_weak (pe_callB hc hg hm hv (ha.run W tk) hn hdb he hpl) fun σ H Q h => tA_of h fun rho env hh H1 ds vs R E q p => rz_of z R q p⟩
theorem de_callTy {T : String} {x : Str} {p : Pos} {r : List V → Hp → VK → Prop} {f : OpN} (hc : CallR X (.type T) r) (z : RzN (Cx.gm X) r f) (hg : Gl X x) (hm : X.mg x = none) (hv : bootBuiltins x = some (.type T)) (ha : DA X (e :: es) ms)
    (hn : x ≠ "__name__" := by decide) (hdb : (x == ("__debug__" : Str)) = false := by decide) (he : starEach (e :: es) X.env = (false, eval e X.env) :: starEach es X.env := by rfl) (hpl : (backTo pos (starEach es X.env)).any (·.1) = false := by rfl) :
    DE X (.Call (.Name x p) (e :: es) [] pos) (eOpN f ms) :=
  ⟨fun W tk => pe_weak (pe_callTy hc hg hm hv (ha.run W tk) hn hdb he hpl) fun σ H Q h => tA_of h fun rho env hh H1 ds vs R E q p => rz_of z R q p⟩

def eTup (ms : MA) : ME := fun env h => (ms env h).bind fun xs h1 => .ok (.tup xs) h1
theorem Den.tup_new {G : Gm} {rho : Rm} {hh : Hh} {H : Hp} {ds : List D} {vs : List V} {p : Addr} {o : Obj} (ho : o.dict = none) (R : Rep G rho hh H) (q : Dens G rho H ds vs) (l : vs.length ≤ sizeLine) (hp : H p = none) : Den G rho (upd H p (.frz o (.tup vs))) (.tup ds) (.ref p) := by
  rw [Den]
  exact ⟨p, vs, rfl, .inl ⟨o, upd_same, ho⟩, l, Dens.step R (.laid hp) _ _ q⟩
/-- a pair that a walk hands out -/
theorem Den.wtp_new {G : Gm} {rho : Rm} {hh : Hh} {H : Hp} {ds : List D} {vs : List V} {p : Addr} (R : Rep G rho hh H) (q : Dens G rho H ds vs) (l : vs.length ≤ sizeLine) (hp : H p = none) : Den G rho (upd H p (.tup vs)) (.wtp ds) (.ref p) := by
  rw [Den]
  exact ⟨p, vs, rfl, SqT.of upd_same, l, Dens.step R (.laid hp) _ _ q⟩
/-- a new tuple, and what it is -/
abbrev NewT (H : Hp) (ys : List V) (Q : VK) : Prop := ∀ (p : Addr) (o : Obj), H p = none → o.dict = none → Q (.ref p) (upd H p (.frz o (.tup ys)))
theorem inv_newT {X : Cx} {pins : List (Addr × Obj)} {σ : L2.St} {H : Hp} {s : Shared} (I : Inv X pins σ H s) {ys : List V} {its : List Value} (r : Vals ys its) (hz : ys.length ≤ sizeLine) {Q : VK} (q : NewT H ys Q) :
    EP X pins σ Q (.ref s.heap.objs.size) { s with heap := s.heap.push { cls := .type "tuple", data := .seq its.toArray } } :=
  ⟨.ref s.heap.objs.size, _, I.laid (t' := s.toks) (o := .frz { cls := .type "tuple", data := .seq its.toArray } (.tup ys)) (fun b ob q => Heap.get?_push_of_some _ q) (Nat.le_refl _) ⟨Heap.get?_push_size _ rfl, hz, its, r, IsTup.new _ _⟩, rfl, q _ _ (I.hok.fresh (Nat.le_refl _)) rfl⟩
def tTupF (t : TA) : TE := fun σ H Q => t σ H fun xs H1 => xs.length ≤ sizeLine ∧ NewT H1 xs Q
theorem pe_tupF {X : Cx} {es : List Expr} {t : TA} {x1} {pos : Pos} (h : PA X es t) : PE X (.Tuple es x1 pos) (tTupF t) :=
  ⟨fun pins s σ H Q I hq => wpAny_Tuple_spliced (thn (h.run pos pins s σ H _ I hq) fun us s1 ⟨xs, H1, I1, r, z, q⟩ => ⟨by rw [← r.length]; exact z, inv_newT I1 r z q⟩)⟩
/-- so many arguments -/
structure DAn (X : Cx) (es : List Expr) (n : Nat) (m : MA) : Prop where
  da : DA X es m
  n : ∀ env h ds h', m env h = .ok ds h' → ds.length = n
theorem dan_nil : DAn X [] 0 aNil := ⟨da_nil, fun _ _ _ _ h => by cases h; rfl⟩
theorem dan_cons {n : Nat} (ha : DE X e m) (hr : DAn X es n ms) (hs : starEach (e :: es) X.env = (false, eval e X.env) :: starEach es X.env := by rfl) : DAn X (e :: es) (n + 1) (aCons m ms) := ⟨da_cons ha hr.da hs, fun env h ds h' q => by
  unfold aCons at q
  cases e : m env h with
  | ok d h1 =>
    rw [e, bind_ok] at q
    cases e2 : ms env h1 with
    | ok xs h2 =>
      rw [e2, bind_ok] at q
      cases q
      simp [hr.n _ _ _ _ e2]
    | err x h2 => rw [e2] at q; cases q
    | stuck => rw [e2] at q; cases q
  | err x h2 => rw [e] at q; cases q
  | stuck => rw [e] at q; cases q⟩
theorem de_tup {x1} {n : Nat} (h : DAn X es n ms) (hn : n ≤ sizeLine := by decide) : DE X (.Tuple es x1 pos) (eTup ms) :=
  ⟨fun W tk => pe_weak (pe_tupF (h.da.run W tk)) fun σ H Q hq => by
    obtain ⟨rho, env, hh, R, E, p⟩ := hq
    refine ⟨rho, env, hh, R, E, ?_⟩
    unfold eTup at p
    cases e : ms env hh with
    | ok ds hh1 =>
      rw [e, bind_ok] at p
      intro rho1 H1 vs S R1 q
      have hl : vs.length ≤ sizeLine := by rw [← q.length, h.n _ _ _ _ e]; exact hn
      exact ⟨hl, fun pp o hp ho => p rho1 _ _ (S.trans (.laid hp)) (R1.laid hp) (Den.tup_new ho R1 q hl hp)⟩
    | err x hh1 => rw [e] at p; exact p
    | stuck => rw [e] at p; exact p⟩
/-- a list that is laid anew, beside -/
theorem new_list {G : Gm} {rho rho' : Rm} {hh : Hh} {H H' : Hp} {ds : List D} {vs : List V} {p : Addr} (S : Step rho H rho' H') (R : Rep G rho' hh H') (q : Dens G rho' H' ds vs) (hp : H' p = none) :
    Step rho H (rho'.hold p) (upd H' p (.lst vs)) ∧ Rep G (rho'.hold p) hh (upd H' p (.lst vs)) ∧ p ∉ rho'.at_ ∧ Dens G (rho'.hold p) (upd H' p (.lst vs)) ds vs := by
  refine ⟨S.trans (.laidR hp), ?_, fun hm => ?_, Dens.step R (.laidR hp) _ _ q⟩
  · exact ⟨R.nd, fun a m => by
      rcases List.mem_cons.mp m with e | m
      · rw [e]; exact ⟨_, upd_same⟩
      · obtain ⟨o', e⟩ := R.hd a m
        exact ⟨o', by rw [upd_ne (ne_of_none e hp)]; exact e⟩, R.len, fun i a o' e1 e2 => (R.ob i a o' e1 e2).step R (.laidR hp) (fun u q => by rw [upd_ne (ne_of_none q hp)]; exact q) fun dx q => by rw [upd_ne (ne_of_none q hp)]; exact q⟩
  · obtain ⟨u, e, _⟩ := R.mut hm
    rw [hp] at e; cases e
/-- [a, b, ..]: a new list -/
theorem dl_lst {n : Nat} (h : DAn X es n ms) (hn : n ≤ sizeLine := by decide) : DL X (.List es pos) ms :=
  ⟨fun W tk => pe_weak (pe_lst (h.da.run W tk)) fun σ H Q hq => by
    obtain ⟨rho, env, hh, R, E, p⟩ := hq
    refine ⟨rho, env, hh, R, E, ?_⟩
    cases e : ms env hh with
    | ok ds hh1 =>
      rw [e] at p
      intro rho1 H1 vs S R1 q
      have hl : vs.length ≤ sizeLine := by rw [← q.length, h.n _ _ _ _ e]; exact hn
      refine ⟨hl, fun pp hp => ?_⟩
      obtain ⟨a, b, c, d⟩ := new_list S R1 q hp
      exact p _ _ pp vs a b upd_same List.mem_cons_self c (S.back hp) hl d
    | err x hh1 => rw [e] at p; exact p
    | stuck => rw [e] at p; exact p⟩
/-- a new list that never changes -/
def eFrz (ms : MA) : ME := fun env h => (ms env h).bind fun xs h1 => .ok (.lst xs) h1
theorem frz_of {G : Gm} {W : WX} {σ : L2.St} {H : Hp} {Q : VK} (hq : TD G W (eFrz ms) σ H Q) : TDl G W ms σ H Q := by
  obtain ⟨rho, env, hh, R, E, p⟩ := hq
  refine ⟨rho, env, hh, R, E, ?_⟩
  unfold eFrz at p
  cases e : ms env hh with
  | ok ds hh1 =>
    rw [e, bind_ok] at p
    intro rho1 H1 pp vs S R1 hp hr ha hn hl q
    -- all that was set apart but pp, and is still so
    have R2 := R1.free (res := rho1.res.filter (fun a => decide (a ≠ pp))) (fun a h => (List.mem_filter.mp h).1)
    refine p ⟨rho1.at_, rho1.res.filter (fun a => decide (a ≠ pp))⟩ H1 _ ⟨S.ext, fun a h => S.new a (List.mem_filter.mp h).1, fun a h => List.mem_filter.mpr ⟨S.kept a h, by
      obtain ⟨o', e⟩ := R.hd a h
      exact decide_eq_true (ne_of_none e hn)⟩, S.keep, S.there⟩ R2 ?_
    rw [Den]
    refine ⟨pp, vs, rfl, hp, ha, fun hm => by simp at hm, hl, ?_⟩
    exact Dens.res (rho' := rho1) ⟨[], by simp⟩ (fun a _ n hm => n (List.mem_filter.mp hm).1) _ _ q (show bels rho1.at_.length ds = true from Dens.bel _ _ q)
  | err x hh1 => rw [e] at p; exact p
  | stuck => rw [e] at p; exact p
theorem de_frz (h : DL X e ms) : DE X e (eFrz ms) := ⟨fun W tk => pe_weak (h.run W tk) fun σ H Q hq => frz_of hq⟩
/-- a new list that may change -/
def eNew (ms : MA) : ME := fun env h => (ms env h).bind fun xs h1 => .ok (.ref h1.length) (h1 ++ [.lst xs])
mutual
theorem den_turn {G : Gm} {rho rho' : Rm} {H : Hp} (h1 : ∀ (i : Nat) a, rho.at_[i]? = some a → rho'.at_[i]? = some a) (h2 : ∀ a, a ∉ rho.at_ → a ∉ rho.res → a ∉ rho'.at_ ∧ a ∉ rho'.res) : ∀ (d : D) (v : V), Den G rho H d v → Den G rho' H d v
  | .non, _, h => h
  | .bl _, _, h => h
  | .int _, _, h => h
  | .str _, _, h => h
  | .tup ds, v, h => by
    rw [Den] at h ⊢
    obtain ⟨a, vs, e, q, l, ds'⟩ := h
    exact ⟨a, vs, e, q, l, dens_turn h1 h2 ds vs ds'⟩
  | .wtp ds, v, h => by
    rw [Den] at h ⊢
    obtain ⟨a, vs, e, q, l, ds'⟩ := h
    exact ⟨a, vs, e, q, l, dens_turn h1 h2 ds vs ds'⟩
  | .lst ds, v, h => by
    rw [Den] at h ⊢
    obtain ⟨a, vs, e, q, n, n2, l, ds'⟩ := h
    exact ⟨a, vs, e, q, (h2 a n n2).1, (h2 a n n2).2, l, dens_turn h1 h2 ds vs ds'⟩
  | .ref i, v, h => by
    rw [Den] at h ⊢
    obtain ⟨a, e, q⟩ := h
    exact ⟨a, h1 i a e, q⟩
  | .glb _, _, h => h
  | .scr _, _, h => h
  | .dct ks ds, v, h => by
    rw [Den] at h ⊢
    obtain ⟨a, xs, es, us, e, q, n, n2, l1, l2, k1, k2, k3, k4, k5, d1, d2⟩ := h
    exact ⟨a, xs, es, us, e, q, (h2 a n n2).1, (h2 a n n2).2, l1, l2, k1, k2, k3, k4, k5, dens_turn h1 h2 ks _ d1, dens_turn h1 h2 ds us d2⟩
theorem dens_turn {G : Gm} {rho rho' : Rm} {H : Hp} (h1 : ∀ (i : Nat) a, rho.at_[i]? = some a → rho'.at_[i]? = some a) (h2 : ∀ a, a ∉ rho.at_ → a ∉ rho.res → a ∉ rho'.at_ ∧ a ∉ rho'.res) : ∀ (ds : List D) (vs : List V), Dens G rho H ds vs → Dens G rho' H ds vs
  | [], _, h => h
  | d :: ds, vs, h => by
    rw [Dens] at h ⊢
    obtain ⟨v, r, e, a, b⟩ := h
    exact ⟨v, r, e, den_turn h1 h2 d v a, dens_turn h1 h2 ds r b⟩
end
theorem obd_turn {G : Gm} {rho rho' : Rm} {H : Hp} (h1 : ∀ (i : Nat) a, rho.at_[i]? = some a → rho'.at_[i]? = some a) (h2 : ∀ a, a ∉ rho.at_ → a ∉ rho.res → a ∉ rho'.at_ ∧ a ∉ rho'.res) {a : Addr} {o : O} (x : ObD G rho H a o) : ObD G rho' H a o := by
  cases o with
  | lst ds => obtain ⟨vs, e, l, q⟩ := x; exact ⟨vs, e, l, dens_turn h1 h2 ds vs q⟩
  | dK kvs => obtain ⟨vs, e, l, q⟩ := x; exact ⟨vs, e, l, Paired.mapP q fun p q r => ⟨r.1, den_turn h1 h2 _ _ r.2⟩⟩
  | dN kvs =>
    obtain ⟨xs, l0, l1, es, e, q, r⟩ := x
    exact ⟨xs, l0, l1, es, e, Paired.mapP q fun p q r => ⟨r.1, den_turn h1 h2 _ _ r.2.1, let ⟨v, a, b⟩ := r.2.2; ⟨v, a, den_turn h1 h2 _ _ b⟩⟩, r⟩
  | ins C fs => obtain ⟨c, dx, fvs, g, e, o, q⟩ := x; exact ⟨c, dx, fvs, g, e, o, Paired.mapP q fun p q r => ⟨r.1, den_turn h1 h2 _ _ r.2⟩⟩
  | exc x => obtain ⟨c, d, q, e⟩ := x; exact ⟨c, d, q.turn h2, e⟩
/-- what is set apart becomes one that may change -/
theorem Rep.turn {G : Gm} {rho : Rm} {H : Hp} {hh : Hh} {p : Addr} {ob : O} (R : Rep G rho hh H) (hr : p ∈ rho.res) (ha : p ∉ rho.at_) (new : ObD G rho H p ob) : Rep G (rho.add p) (hh ++ [ob]) H := by
  have h1 : ∀ (i : Nat) a, rho.at_[i]? = some a → (rho.add p).at_[i]? = some a := fun i a e => by
    show (rho.at_ ++ [p])[i]? = some a
    rw [List.getElem?_append_left (List.getElem?_eq_some_iff.mp e).1]; exact e
  have h2 : ∀ a, a ∉ rho.at_ → a ∉ rho.res → a ∉ (rho.add p).at_ ∧ a ∉ (rho.add p).res := fun a n n2 => ⟨fun hm => by
    rcases List.mem_append.mp (show a ∈ rho.at_ ++ [p] from hm) with h | h
    · exact n h
    · simp at h; subst h; exact n2 hr, n2⟩
  refine ⟨?_, R.hd, by simp [Rm.add, R.len], fun i a o' e1 e2 => ?_⟩
  · show (rho.at_ ++ [p]).Nodup
    rw [List.nodup_append]
    exact ⟨R.nd, by simp, fun x hx y hy e => ha (by simp at hy; subst hy; exact e ▸ hx)⟩
  · have e1 : (rho.at_ ++ [p])[i]? = some a := e1
    by_cases hi : i < rho.at_.length
    · rw [List.getElem?_append_left hi] at e1
      rw [List.getElem?_append_left (by rw [← R.len]; exact hi)] at e2
      exact obd_turn h1 h2 (R.ob i a o' e1 e2)
    · have hl : i < (rho.at_ ++ [p]).length := (List.getElem?_eq_some_iff.mp e1).1
      have e : i = rho.at_.length := by simp at hl; omega
      subst e
      rw [List.getElem?_append_right (Nat.le_refl _)] at e1
      rw [R.len, List.getElem?_append_right (Nat.le_refl _)] at e2
      simp at e1 e2
      subst e1; subst e2
      exact obd_turn h1 h2 new
theorem Step.turn {rho rho' : Rm} {H H' : Hp} {p : Addr} (S : Step rho H rho' H') (h : H p = none) : Step rho H (rho'.add p) H' := by
  obtain ⟨e, ee, he⟩ := S.ext
  refine ⟨⟨e ++ [p], by show rho'.at_ ++ [p] = _; rw [ee, List.append_assoc], fun a hm => ?_⟩, S.new, S.kept, S.keep, S.there⟩
  rcases List.mem_append.mp hm with h1 | h1
  · exact he a h1
  · simp at h1; subst h1; exact h
theorem new_of {G : Gm} {W : WX} {σ : L2.St} {H : Hp} {Q : VK} (hq : TD G W (eNew ms) σ H Q) : TDl G W ms σ H Q := by
  obtain ⟨rho, env, hh, R, E, p⟩ := hq
  refine ⟨rho, env, hh, R, E, ?_⟩
  unfold eNew at p
  cases e : ms env hh with
  | ok ds hh1 =>
    rw [e, bind_ok] at p
    intro rho1 H1 pp vs S R1 hp hr ha hn hl q
    refine p _ _ _ (S.turn hn) (R1.turn hr ha ⟨vs, hp, hl, q⟩) ?_
    rw [Den]
    exact ⟨pp, by rw [← R1.len]; show (rho1.at_ ++ [pp])[_]? = _; rw [List.getElem?_append_right (Nat.le_refl _)]; simp, rfl⟩
  | err x hh1 => rw [e] at p; exact p
  | stuck => rw [e] at p; exact p
theorem de_new (h : DL X e ms) : DE X e (eNew ms) := ⟨fun W tk => pe_weak (h.run W tk) fun σ H Q hq => new_of hq⟩
end
end MR

namespace MR
open PySem PySem.Spec PyProof.Rows L2

def asB (d : D) : Option Bool := match d with | .bl b => some b | _ => none
theorem asB_some {d : D} {b : Bool} (h : asB d = some b) : d = .bl b := by
  cases d <;> simp [asB] at h
  subst h; rfl
def tE (m : ME) : MT := fun env h => (m env h).bind fun d h1 => lift (asB d) h1
def tAnd (a b : MT) : MT := fun env h => (a env h).bind fun k h1 => if k = true then b env h1 else .ok false h1
def tOr (a b : MT) : MT := fun env h => (a env h).bind fun k h1 => if k = true then .ok true h1 else b env h1
def tNot (a : MT) : MT := fun env h => (a env h).bind fun k h1 => .ok (!k) h1
def eAnd (a b : ME) : ME := fun env h => (a env h).bind fun d h1 => (lift (asB d) h1).bind fun k h2 => if k = true then b env h2 else .ok (.bl false) h2
def eOr (a b : ME) : ME := fun env h => (a env h).bind fun d h1 => (lift (asB d) h1).bind fun k h2 => if k = true then .ok (.bl true) h2 else b env h2
def eNot (a : ME) : ME := fun env h => (a env h).bind fun d h1 => (lift (asB d) h1).bind fun k h2 => .ok (.bl (!k)) h2
def eIf (t : MT) (a b : ME) : ME := fun env h => (t env h).bind fun k h1 => if k = true then a env h1 else b env h1
section
variable {X : Cx} {e a b : Expr} {m ma mb : ME} {ta tb : MT} {pos : Pos} {rest : List Expr}
theorem tB_of {G : Gm} {W : WX} {σ : L2.St} {H : Hp} {Q : Bool → Hp → Prop} (h : TDt G W (tE m) σ H Q) : TD G W m σ H fun x H1 => ∃ c, x = .bl c ∧ Q c H1 :=
  tE_of (Rl := fun _ _ a b => a = b) h fun rho env hh H1 d v R E q p => by
    obtain ⟨k, e, p⟩ := lift_post p
    have e := asB_some e
    subst e
    exact ⟨k, q, p.val R rfl⟩
theorem dt_val (h : DE X e m) (he : ∀ whole, isTrue e X.env whole = (do let v ← whole; standAt e.pos; holding [v] (truthy v)) := by intro _; rfl) : DT X e (tE m) :=
  ⟨fun W tk => pt_weak (pt_val (h.run W tk) he) fun σ H Q h => tB_of h⟩
theorem tTest_of {G : Gm} {W : WX} {r : R2} {f : Op2} {σ : L2.St} {H : Hp} {Q : Bool → Hp → Prop} (z : Rz2 G r f) (h : TDt G W (tE (eOp2 f ma mb)) σ H Q) : tTest (tOp r (TD G W ma) (TD G W mb)) σ H Q :=
  tOp_of (Q := fun x H' => ∃ k, x = .bl k ∧ Q k H') z (tB_of h)
theorem dt_cmp {op : CmpOp} {r : R2} {f : Op2} (ho : OpR X (compareOp op) r) (z : Rz2 (Cx.gm X) r f) (ha : DE X a ma) (hb : DE X b mb) (hm : behindInMarks op b = false) : DT X (.Compare a [op] [b] pos) (tE (eOp2 f ma mb)) :=
  ⟨fun W tk => pt_weak (pt_cmpR ho (ha.run W tk) (hb.run W tk) hm) fun σ H Q h => tTest_of z h⟩
theorem tSeq_of {α β : Type} {G : Gm} {W : WX} {m : MT} {Rl : Rm → Hp → α → β → Prop} {f : DEnv → Bool → Hh → Res α} {σ : L2.St} {H : Hp} {Q : β → Hp → Prop} {k : Bool → Hp → Prop}
    (h : At G W σ H Rl Q fun env hh => (m env hh).bind (f env)) (hk : ∀ b H1, At G W σ H1 Rl Q (fun env hh => f env b hh) → k b H1) : TDt G W m σ H k := by
  obtain ⟨rho, env, hh, R, E, p⟩ := At.seqT h
  refine ⟨rho, env, hh, R, E, ?_⟩
  cases e : m env hh with
  | ok d hh1 =>
    rw [e] at p
    intro rho1 H1 v S R1 q
    exact hk _ _ (p rho1 H1 v S R1 q)
  | err x hh1 => rw [e] at p; exact p
  | stuck => rw [e] at p; exact p
theorem dt_not (h : DT X a ta) : DT X (.UnaryOp .Not a pos) (tNot ta) :=
  ⟨fun W tk => pt_weak (pt_not (h.run W tk)) fun σ H Q h => tSeq_of h fun k H1 ⟨rho, env, hh, R, E, p⟩ => p.val R rfl⟩
theorem dw_and1 (h : DT X a ta) : DW X (.BoolOp .And [a] pos) ta := ⟨fun W tk => pw_and1 (h.run W tk)⟩
theorem dw_or1 (h : DT X a ta) : DW X (.BoolOp .Or [a] pos) ta := ⟨fun W tk => pw_or1 (h.run W tk)⟩
theorem dw_and (h : DT X a ta) (hb : DW X (.BoolOp .And (b :: rest) pos) tb) : DW X (.BoolOp .And (a :: b :: rest) pos) (tAnd ta tb) :=
  ⟨fun W tk => pw_weak (pw_and (h.run W tk) (hb.run W tk)) fun σ H Q h => tSeq_of h fun k H1 q => by
    cases k with
    | true => exact q
    | false =>
      obtain ⟨rho, env, hh, R, E, p⟩ := q
      exact p.val R rfl⟩
theorem dw_or (h : DT X a ta) (hb : DW X (.BoolOp .Or (b :: rest) pos) tb) : DW X (.BoolOp .Or (a :: b :: rest) pos) (tOr ta tb) :=
  ⟨fun W tk => pw_weak (pw_or (h.run W tk) (hb.run W tk)) fun σ H Q h => tSeq_of h fun k H1 q => by
    cases k with
    | true =>
      obtain ⟨rho, env, hh, R, E, p⟩ := q
      exact p.val R rfl
    | false => exact q⟩
theorem dt_w (h : DW X a ta) : DT X a ta := ⟨fun W tk => PW.pt (h.run W tk)⟩
theorem de_one {op} (h : DE X a ma) : DE X (.BoolOp op [a] pos) ma := ⟨fun W tk => pe_one (h.run W tk)⟩
theorem de_and (ha : DE X a ma) (hb : DE X (.BoolOp .And (b :: rest) pos) mb) : DE X (.BoolOp .And (a :: b :: rest) pos) (eAnd ma mb) :=
  ⟨fun W tk => pe_weak (pe_and (ha.run W tk) (hb.run W tk)) fun σ H Q h => tE_of h fun rho env hh H1 d v R E q p => by
    cases o : asB d with
    | none => rw [o] at p; exact p.elim
    | some k =>
      rw [o] at p
      have e := asB_some o
      subst e
      refine ⟨k, q, ?_⟩
      cases k with
      | true => exact ⟨rho, env, hh, R, E, p⟩
      | false => exact PostE.val (a := D.bl false) (b := V.bl false) (Rl := Den _) p R rfl⟩
theorem de_or (ha : DE X a ma) (hb : DE X (.BoolOp .Or (b :: rest) pos) mb) : DE X (.BoolOp .Or (a :: b :: rest) pos) (eOr ma mb) :=
  ⟨fun W tk => pe_weak (pe_or (ha.run W tk) (hb.run W tk)) fun σ H Q h => tE_of h fun rho env hh H1 d v R E q p => by
    cases o : asB d with
    | none => rw [o] at p; exact p.elim
    | some k =>
      rw [o] at p
      have e := asB_some o
      subst e
      refine ⟨k, q, ?_⟩
      cases k with
      | true => exact PostE.val (a := D.bl true) (b := V.bl true) (Rl := Den _) p R rfl
      | false => exact ⟨rho, env, hh, R, E, p⟩⟩
theorem de_not (ha : DE X a ma) : DE X (.UnaryOp .Not a pos) (eNot ma) :=
  ⟨fun W tk => pe_weak (pe_not (ha.run W tk)) fun σ H Q h => tE_of h fun rho env hh H1 d v R E q p => by
    cases o : asB d with
    | none => rw [o] at p; exact p.elim
    | some k =>
      rw [o] at p
      have e := asB_some o
      subst e
      exact ⟨k, q, PostE.val (a := D.bl (!k)) (b := V.bl (!k)) (Rl := Den _) p R rfl⟩⟩
theorem de_if {c : Expr} {tc : MT} (hc : DT X c tc) (ha : DE X a ma) (hb : DE X b mb) : DE X (.IfExp c a b pos) (eIf tc ma mb) :=
  ⟨fun W tk => pe_weak (pe_ifExp (hc.run W tk) (ha.run W tk) (hb.run W tk)) fun σ H Q h => tSeq_of h fun k H1 q => by
    cases k with
    | true => exact q
    | false => exact q⟩
end

inductive RS where
  | nx (env : DEnv) (h : Hh)
  | rt (d : D) (h : Hh)
  | bk (env : DEnv) (h : Hh)
  | ct (env : DEnv) (h : Hh)
  | er (x : Exn) (env : DEnv) (h : Hh)
  | stuck
abbrev MS := DEnv → Hh → RS
def PostS (G : Gm) (W : WX) (D : Ends) (rho : Rm) (H : Hp) (r : RS) : Prop :=
  match r with
  | .nx env hh => ∀ rho' H' σ', Step rho H rho' H' → Rep G rho' hh H' → EnvD G rho' H' env σ' → D.nx σ' H'
  | .rt d hh => ∀ rho' H' v, Step rho H rho' H' → Rep G rho' hh H' → Den G rho' H' d v → D.rt v H'
  | .bk env hh => ∀ rho' H' σ', Step rho H rho' H' → Rep G rho' hh H' → EnvD G rho' H' env σ' → D.bk σ' H'
  | .ct env hh => ∀ rho' H' σ', Step rho H rho' H' → Rep G rho' hh H' → EnvD G rho' H' env σ' → D.ct σ' H'
  | .er x env hh => ∀ rho' H' σ' c d, Step rho H rho' H' → Rep G rho' hh H' → EnvD G rho' H' env σ' → ExD G rho' H' x c d → W c d σ' H'
  | .stuck => False
theorem PostS.start {G : Gm} {W : WX} {D : Ends} {rho rho' : Rm} {H H' : Hp} {r : RS} (h : PostS G W D rho H r) (S : Step rho H rho' H') : PostS G W D rho' H' r := by
  cases r with
  | nx env hh => exact fun rho2 H2 σ S2 R2 q => h rho2 H2 σ (S.trans S2) R2 q
  | rt d hh => exact fun rho2 H2 σ S2 R2 q => h rho2 H2 σ (S.trans S2) R2 q
  | bk env hh => exact fun rho2 H2 σ S2 R2 q => h rho2 H2 σ (S.trans S2) R2 q
  | ct env hh => exact fun rho2 H2 σ S2 R2 q => h rho2 H2 σ (S.trans S2) R2 q
  | er x env hh => exact fun rho2 H2 σ c d S2 R2 q => h rho2 H2 σ c d (S.trans S2) R2 q
  | stuck => exact h
def TDs (G : Gm) (W : WX) (m : MS) : TS := fun D σ H => ∃ rho env hh, Rep G rho hh H ∧ EnvD G rho H env σ ∧ PostS G W D rho H (m env hh)
structure DS (X : Cx) (st : Stmt) (m : MS) : Prop where
  run : ∀ W, Takes X W → PS X st (TDs (Cx.gm X) W m)
structure DSs (X : Cx) (st : List Stmt) (m : MS) : Prop where
  run : ∀ W, Takes X W → PSs X st (TDs (Cx.gm X) W m)
theorem ps_weak {X : Cx} {st : Stmt} {t t' : TS} (h : PS X st t) (i : ∀ D σ H, t' D σ H → t D σ H) : PS X st t' := ⟨fun pins s σ H D I q => h.run pins s σ H D I (i D σ H q)⟩
theorem pss_weak {X : Cx} {st : List Stmt} {t t' : TS} (h : PSs X st t) (i : ∀ D σ H, t' D σ H → t D σ H) : PSs X st t' := ⟨fun pins s σ H D I q => h.run pins s σ H D I (i D σ H q)⟩

def RS.seq (r : RS) (f : DEnv → Hh → RS) : RS := match r with | .nx env h => f env h | r => r
def sSeq (a b : MS) : MS := fun env h => (a env h).seq b
def sNext : MS := fun env h => .nx env h
/-- an expression's result, then a statement -/
def Res.st {α : Type} (r : Res α) (env : DEnv) (f : α → Hh → RS) : RS := match r with
  | .ok a h => f a h
  | .err x h => .er x env h
  | .stuck => .stuck
theorem st_ok {α : Type} (a : α) (h : Hh) (env : DEnv) (f : α → Hh → RS) : (Res.ok a h).st env f = f a h := rfl
def sDrop (m : ME) : MS := fun env h => (m env h).st env fun _ h1 => .nx env h1
def sRet (m : ME) : MS := fun env h => (m env h).st env fun d h1 => .rt d h1
def sRetN : MS := fun _ h => .rt .non h
def sIf (t : MT) (a b : MS) : MS := fun env h => (t env h).st env fun k h1 => if k = true then a env h1 else b env h1
def sBreak : MS := fun env h => .bk env h
def sCont : MS := fun env h => .ct env h
section
variable {X : Cx} {st : Stmt} {rest : List Stmt} {e : Expr} {m : ME} {t : MT} {ms ms' : MS} {pos : Pos} {G : Gm} {W : WX} {D : Ends} {σ : L2.St} {H : Hp}
theorem ss_nil : DSs X [] sNext := ⟨fun W _ => pss_weak pss_nil fun D σ H ⟨rho, env, hh, R, E, p⟩ => p rho H σ .refl R E⟩
theorem seq_post {rho : Rm} {r : RS} {f : DEnv → Hh → RS} (p : PostS G W D rho H (r.seq f)) : PostS G W { D with nx := TDs G W f D } rho H r := by
  cases r with
  | nx env hh => exact fun rho' H' σ' S R E => ⟨rho', env, hh, R, E, PostS.start (r := f env hh) p S⟩
  | rt d hh => exact p
  | bk env hh => exact p
  | ct env hh => exact p
  | er x env hh => exact p
  | stuck => exact p
theorem ss_cons (h1 : DS X st ms) (h2 : DSs X rest ms') : DSs X (st :: rest) (sSeq ms ms') :=
  ⟨fun W tk => pss_weak (pss_cons (h1.run W tk) (h2.run W tk)) fun D σ H ⟨rho, env, hh, R, E, p⟩ => ⟨rho, env, hh, R, E, seq_post p⟩⟩
theorem ss_one (h1 : DS X st ms) : DSs X [st] ms := ⟨fun W tk => pss_one (h1.run W tk)⟩
/-- the reading of an expression, then of a statement -/
theorem st_of {f : DEnv → MR.D → Hh → RS} {k : V → Hp → Prop} (h : TDs G W (fun env hh => (m env hh).st env (f env)) D σ H)
    (hk : ∀ rho env hh H1 d v, Rep G rho hh H1 → EnvD G rho H1 env σ → Den G rho H1 d v → PostS G W D rho H1 (f env d hh) → k v H1) : TD G W m σ H k := by
  obtain ⟨rho, env, hh, R, E, p⟩ := h
  refine ⟨rho, env, hh, R, E, ?_⟩
  have p : PostS G W D rho H ((m env hh).st env (f env)) := p
  cases e : m env hh with
  | ok d hh1 =>
    rw [e] at p
    exact fun rho1 H1 v S R1 q => hk rho1 env hh1 H1 d v R1 (E.step R S) q (PostS.start (r := f env d hh1) p S)
  | err x hh1 =>
    rw [e] at p
    exact fun rho1 H1 c d S R1 q => p rho1 H1 σ c d S R1 (E.step R S) q
  | stuck => rw [e] at p; exact p
theorem stT_of {f : DEnv → Bool → Hh → RS} {k : Bool → Hp → Prop} (h : TDs G W (fun env hh => (t env hh).st env (f env)) D σ H)
    (hk : ∀ b H1, TDs G W (fun env hh => f env b hh) D σ H1 → k b H1) : TDt G W t σ H k := by
  obtain ⟨rho, env, hh, R, E, p⟩ := h
  refine ⟨rho, env, hh, R, E, ?_⟩
  have p : PostS G W D rho H ((t env hh).st env (f env)) := p
  cases e : t env hh with
  | ok d hh1 =>
    rw [e] at p
    exact fun rho1 H1 v S R1 q => by
      subst q
      exact hk d H1 ⟨rho1, env, hh1, R1, E.step R S, PostS.start (r := f env d hh1) p S⟩
  | err x hh1 =>
    rw [e] at p
    exact fun rho1 H1 c d S R1 q => p rho1 H1 σ c d S R1 (E.step R S) q
  | stuck => rw [e] at p; exact p
theorem ds_expr (h : DE X e m) (hs : swapsWith e none pos.line X.env = pure false := by rfl) : DS X (.Expr e pos) (sDrop m) :=
  ⟨fun W tk => ps_weak (ps_expr (h.run W tk) hs) fun D σ H q => st_of q fun rho env hh H1 d v R E q p => p rho H1 σ .refl R E⟩
theorem ds_ret (h : DE X e m) : DS X (.Return (some e) pos) (sRet m) :=
  ⟨fun W tk => ps_weak (ps_ret (h.run W tk)) fun D σ H q => st_of q fun rho env hh H1 d v R E q p => p rho H1 v .refl R q⟩
theorem ds_if {c : Expr} {a b : List Stmt} {ma mb : MS} (hc : DT X c t) (ha : DSs X a ma) (hb : DSs X b mb) : DS X (.If c a b pos) (sIf t ma mb) :=
  ⟨fun W tk => ps_weak (ps_if (hc.run W tk) (ha.run W tk) (hb.run W tk)) fun D σ H q => stT_of q fun b H1 h => by
    cases b with
    | true => exact h
    | false => exact h⟩
end

abbrev MG := D → DEnv → Hh → Option (DEnv × Hh)
abbrev MGs := List D → DEnv → Hh → Option (DEnv × Hh)
def PostG (G : Gm) (rho : Rm) (H : Hp) (r : Option (DEnv × Hh)) (Q : L2.St → Hp → Prop) : Prop :=
  match r with
  | some (env, hh) => ∀ rho' H' σ', Step rho H rho' H' → Rep G rho' hh H' → EnvD G rho' H' env σ' → Q σ' H'
  | none => False
theorem PostG.start {G : Gm} {rho rho' : Rm} {H H' : Hp} {r : Option (DEnv × Hh)} {Q : L2.St → Hp → Prop} (h : PostG G rho H r Q) (S : Step rho H rho' H') : PostG G rho' H' r Q := by
  cases r with
  | none => exact h
  | some p => exact fun rho2 H2 σ S2 R2 q => h rho2 H2 σ (S.trans S2) R2 q
def TDg (G : Gm) (m : MG) : TG := fun v σ H Q => ∃ rho env hh d, Rep G rho hh H ∧ EnvD G rho H env σ ∧ Den G rho H d v ∧ PostG G rho H (m d env hh) Q
def TDgs (G : Gm) (m : MGs) : TGs := fun vs σ H Q => ∃ rho env hh ds, Rep G rho hh H ∧ EnvD G rho H env σ ∧ Dens G rho H ds vs ∧ PostG G rho H (m ds env hh) Q
structure DG (X : Cx) (tg : Expr) (m : MG) : Prop where
  run : PG X tg (TDg (Cx.gm X) m)
structure DGs (X : Cx) (tgs : List Expr) (m : MGs) : Prop where
  run : PGs X tgs (TDgs (Cx.gm X) m)
theorem pg_weak {X : Cx} {e : Expr} {t t' : TG} (h : PG X e t) (i : ∀ v σ H Q, t' v σ H Q → t v σ H Q) : PG X e t' := ⟨fun pins s σ H v u Q I r q => h.run pins s σ H v u Q I r (i v σ H Q q)⟩
theorem pgs_weak {X : Cx} {e : List Expr} {t t' : TGs} (h : PGs X e t) (i : ∀ v σ H Q, t' v σ H Q → t v σ H Q) : PGs X e t' := ⟨fun pins s σ H v u Q I r q => h.run pins s σ H v u Q I r (i v σ H Q q)⟩
def gName (i : Nat) : MG := fun d env h => some (env.set i (some d), h)
def gNil : MGs := fun ds env h => match ds with | [] => some (env, h) | _ :: _ => none
def gCons (g : MG) (gs : MGs) : MGs := fun ds env h => match ds with
  | [] => none
  | d :: r => match g d env h with
    | some (env', h') => gs r env' h'
    | none => none
def gTup (n : Nat) (gs : MGs) : MG := fun d env h => match d with
  | .tup ds => if ds.length = n then gs ds env h else none
  | _ => none
theorem EnvD.set {G : Gm} {rho : Rm} {H : Hp} {env : DEnv} {σ : L2.St} {i : Nat} {d : D} {v : V} (E : EnvD G rho H env σ) (q : Den G rho H d v) : EnvD G rho H (env.set i (some d)) (σ.set i (some v)) := by
  refine ⟨by simp [E.1], fun j d' e => ?_⟩
  by_cases hj : i = j
  · subst hj
    have hl : i < env.length := by
      have := (List.getElem?_eq_some_iff.mp e).1
      simpa using this
    rw [List.getElem?_set_self hl] at e
    cases e
    exact ⟨v, List.getElem?_set_self (by rw [← E.1]; exact hl), q⟩
  · rw [List.getElem?_set_ne hj] at e
    obtain ⟨w, e1, e2⟩ := E.2 j d' e
    exact ⟨w, by rw [List.getElem?_set_ne hj]; exact e1, e2⟩
section
variable {X : Cx} {pos : Pos}
theorem dg_name {i : Nat} {x : Str} (hN : X.N.Nodup) (hi : X.N[i]? = some x := by rfl) (hx : Loc X.env.scope x := by first | exact Or.inl rfl | exact Or.inr rfl) (hf : X.fn x = true ∨ X.env.scope.names.lookup x = some .local := by first | exact .inl rfl | exact .inr rfl) : DG X (.Name x pos) (gName i) :=
  ⟨pg_weak (pg_name hN hi hx hf) fun v σ H Q ⟨rho, env, hh, d, R, E, q, p⟩ => p rho H _ .refl R (E.set q)⟩
theorem dgs_nil : DGs X [] gNil := ⟨pgs_weak pgs_nil fun vs σ H Q ⟨rho, env, hh, ds, R, E, q, p⟩ => by
  cases ds with
  | nil => exact ⟨q, p rho H σ .refl R E⟩
  | cons d r => exact p.elim⟩
theorem dgs_cons {e : Expr} {es : List Expr} {g : MG} {gs : MGs} (h1 : DG X e g) (h2 : DGs X es gs)
    (hs : (assignEach (e :: es) X.env).map (·.2) = assign e X.env :: (assignEach es X.env).map (·.2) := by rfl) : DGs X (e :: es) (gCons g gs) :=
  ⟨pgs_weak (pgs_cons h1.run h2.run hs) fun vs σ H Q ⟨rho, env, hh, ds, R, E, q, p⟩ => by
    cases ds with
    | nil => exact p.elim
    | cons d r =>
      rw [Dens] at q
      obtain ⟨v, vr, e1, q1, q2⟩ := q
      refine ⟨v, vr, e1, rho, env, hh, d, R, E, q1, ?_⟩
      have p : PostG _ rho H (match g d env hh with
        | some (env', h') => gs r env' h'
        | none => none) Q := p
      cases e : g d env hh with
      | none => rw [e] at p; exact p.elim
      | some z =>
        obtain ⟨env', hh'⟩ := z
        rw [e] at p
        exact fun rho' H' σ' S R' E' => ⟨rho', env', hh', r, R', E', Dens.step R S _ _ q2, p.start S⟩⟩
theorem dg_tup {es : List Expr} {k : Nat} {gs : MGs} {n : Nat} (hc : X.calm = true) (h : DGs X es gs)
    (hn : (assignEach es X.env).length = n := by rfl) (hst : (assignEach es X.env).findIdx? (·.1) = none := by rfl) : DG X (.Tuple es k pos) (gTup n gs) :=
  ⟨pg_weak (pg_tup hc h.run hn hst) fun v σ H Q ⟨rho, env, hh, d, R, E, q, p⟩ => by
    cases d with
    | tup ds =>
      have p : PostG _ rho H (if ds.length = n then gs ds env hh else none) Q := p
      split at p
      · rename_i hl
        rw [Den] at q
        obtain ⟨a, vs, e1, hq, l, ds'⟩ := q
        exact ⟨a, vs, e1, hq.t, by rw [← ds'.length]; exact hl, rho, env, hh, ds, R, E, ds', p⟩
      · exact p.elim
    | wtp ds => exact p.elim
    | non => exact p.elim
    | bl b => exact p.elim
    | int i => exact p.elim
    | str x => exact p.elim
    | lst xs => exact p.elim
    | ref i => exact p.elim
    | scr i => exact p.elim
    | dct i j => exact p.elim
    | glb u => exact p.elim⟩
def RSof (r : Option (DEnv × Hh)) : RS := match r with | some (env, h) => .nx env h | none => .stuck
def sAsg (m : ME) (g : MG) : MS := fun env h => (m env h).st env fun d h1 => RSof (g d env h1)
theorem postG_of {G : Gm} {W : WX} {D : Ends} {rho : Rm} {H : Hp} {r : Option (DEnv × Hh)} (p : PostS G W D rho H (RSof r)) : PostG G rho H r D.nx := by
  cases r with
  | none => exact p
  | some z => exact p
theorem ds_asg {tg e : Expr} {m : ME} {g : MG} (he : DE X e m) (hg : DG X tg g) (hs : swapsWithSole [tg] e pos.line X.env = pure false := by rfl) (hw : swappedStores [tg] e X.env = pure none := by rfl)
    (h1 : (assignEach [tg] X.env).map (·.2) = [assign tg X.env] := by rfl) : DS X (.Assign [tg] e pos) (sAsg m g) :=
  ⟨fun W tk => ps_weak (ps_asg (he.run W tk) hg.run hs hw h1) fun D σ H q => st_of q fun rho env hh H1 d v R E q p => ⟨rho, env, hh, d, R, E, q, postG_of p⟩⟩
theorem ds_set {i : Nat} {x : Str} {e : Expr} {m : ME} {pos' : Pos} (hN : X.N.Nodup) (he : DE X e m) (hi : X.N[i]? = some x := by rfl) (hx : Loc X.env.scope x := by first | exact Or.inl rfl | exact Or.inr rfl) (hs : swapsWith e (some (.Name x pos')) pos.line X.env = pure false := by rfl)
    (hf : X.fn x = true ∨ X.env.scope.names.lookup x = some .local := by first | exact .inl rfl | exact .inr rfl) : DS X (.Assign [.Name x pos'] e pos) (sAsg m (gName i)) :=
  ⟨fun W tk => ps_weak (ps_set hN hi hx (he.run W tk) hs hf) fun D σ H q => st_of q fun rho env hh H1 d v R E q p => p rho H1 _ .refl R (E.set q)⟩
/-- a, b = e1, e2 -/
def sPar (i j : Nat) (ms : MA) : MS := fun env h => (ms env h).st env fun ds h1 => match ds with
  | [d1, d2] => .nx ((env.set i (some d1)).set j (some d2)) h1
  | _ => .stuck
theorem ds_par {i j : Nat} {x y : Str} {a b : Expr} {ms : MA} {px py pt : Pos} {kt k2 pt2} (hc : X.calm = true) (hN : X.N.Nodup) (hi : X.N[i]? = some x) (hj : X.N[j]? = some y) (hij : i ≠ j)
    (hx : X.env.scope.names.lookup x = some .local) (hy : X.env.scope.names.lookup y = some .local) (ha : DA X [a, b] ms)
    (hw : swappedStores [.Tuple [.Name x px, .Name y py] kt pt] (.Tuple [a, b] k2 pt2) X.env = pure (some [x, y]))
    (hs : swapsWithSole [.Tuple [.Name x px, .Name y py] kt pt] (.Tuple [a, b] k2 pt2) pos.line X.env = pure false := by rfl) :
    DS X (.Assign [.Tuple [.Name x px, .Name y py] kt pt] (.Tuple [a, b] k2 pt2) pos) (sPar i j ms) :=
  ⟨fun W tk => ps_weak (ps_par hc hN hi hj hij hx hy (ha.run W tk) hw hs) fun D σ H ⟨rho, env, hh, R, E, p⟩ => by
    refine ⟨rho, env, hh, R, E, ?_⟩
    unfold sPar at p
    cases e : ms env hh with
    | ok ds h1 =>
      rw [e, st_ok] at p
      intro rho1 H1 vs S R1 q
      match ds, p, q with
      | [d1, d2], p, q =>
        simp only [Dens] at q
        obtain ⟨v, r, rfl, q1, w, r', rfl, q2, rfl⟩ := q
        exact ⟨v, w, rfl, p rho1 H1 _ S R1 (((E.step R S).set q1).set q2)⟩
      | [], p, q => exact p.elim
      | [_], p, q => exact p.elim
      | _ :: _ :: _ :: _, p, q => exact p.elim
    | err x h1 =>
      rw [e] at p
      exact fun rho1 H1 c d S R1 q => p rho1 H1 σ c d S R1 (E.step R S) q
    | stuck => rw [e] at p; exact p⟩
end

def startD (N : List Str) (ds : List D) : DEnv := ds.map some ++ List.replicate (N.length - ds.length) none
theorem startD_ok {G : Gm} {rho : Rm} {H : Hp} {N : List Str} {ds : List D} {vs : List V} (q : Dens G rho H ds vs) : EnvD G rho H (startD N ds) (L2.start N vs) := by
  have hl := q.length
  refine ⟨by simp [startD, L2.start, hl], fun i d e => ?_⟩
  unfold startD at e
  unfold L2.start
  by_cases hi : i < ds.length
  · rw [List.getElem?_append_left (by simpa using hi), List.getElem?_map] at e
    cases e2 : ds[i]? with
    | none => rw [e2] at e; cases e
    | some d' =>
      rw [e2] at e
      simp at e
      subst e
      obtain ⟨v, e3, q3⟩ := q.get e2
      exact ⟨v, by rw [List.getElem?_append_left (by simpa [← hl] using hi), List.getElem?_map, e3]; rfl, q3⟩
  · rw [List.getElem?_append_right (by simpa using hi)] at e
    rw [List.getElem?_replicate] at e
    split at e
    · cases e
    · cases e
/-- a def: from its arguments and the heap -/
abbrev MF := List D → Hh → Res D
def runF (n : Nat) (N : List Str) (body : MS) : MF := fun ds h => if ds.length = n then (match body (startD N ds) h with
  | .nx _ h' => .ok .non h'
  | .rt d h' => .ok d h'
  | .er x _ h' => .err x h'
  | _ => .stuck) else .stuck
def spD (G : Gm) (n : Nat) (F : MF) : Sp := fun vs H Q E => vs.length = n ∧ ∃ rho hh ds, Rep G rho hh H ∧ Dens G rho H ds vs ∧ PostE G (Den G) E rho H (F ds hh) Q
/-- the def at f does what F says -/
def FnD (P : Program) (w : World) (K : PySem.W.Frag) (mg : Str → Option Value) (base : Heap) (k : Nat) (f : Addr) (fd : FuncData) (ps : List Str) (F : MF) : Prop :=
  FnOk P w K mg base (L2.CX P w) k f fd ps (spD ⟨P, w, K⟩ ps.length F)
section
variable {P : Program} {w : World} {K : PySem.W.Frag} {mg : Str → Option Value} {base : Heap}
theorem fn_ok {x qual : Str} {st : Stmt} {f : Addr} {fd : FuncData} {N ps : List Str} {k : Nat} {m : MS} (F : Fun K x qual st f fd) (S : FnScope N ps (defScope st))
    (hbody : ∀ (cdv : Value) (A : Around) (outer : List PySem.Env) (s : Shared) (H : Hp) (E : XK), Room k (A.deeper (envOfC qual (defScope st) s.heap.objs.size f cdv)) →
      DSs (cxOf (L2.CX P w) P w K mg base N qual (defScope st) f cdv A outer s H E) (defBody st) m) : FnD P w K mg base (k + 1) f fd ps (runF ps.length N m) := by
  refine F.okX S (fun vs H Q E h => h.1) fun cdv A outer s H vs Q E hr h => ?_
  obtain ⟨hl, rho, hh, ds, R, q, p⟩ := h
  refine ⟨_, (hbody cdv A outer s H E hr).run (fun c d σ H => E c d H) (takes_of rfl rfl rfl rfl), rho, startD N ds, hh, R, startD_ok q, ?_⟩
  unfold runF at p
  split at p
  · generalize m (startD N ds) hh = r at p
    cases r with
    | nx env hh' => exact fun rho' H' σ' S R' _ => p rho' H' .non S R' rfl
    | rt d hh' => exact fun rho' H' v S R' q' => p rho' H' v S R' q'
    | er x env hh' => exact fun rho' H' σ' c d S R' _ q' => p rho' H' c d S R' q'
    | bk env hh' => exact p.elim
    | ct env hh' => exact p.elim
    | stuck => exact p.elim
  · exact p.elim
/-- a promise by a function that says no less -/
theorem FnD.imp {k : Nat} {f : Addr} {fd : FuncData} {ps : List Str} {F F' : MF} (h : FnD P w K mg base k f fd ps F) (hi : ∀ ds hh, F' ds hh = .stuck ∨ F' ds hh = F ds hh) : FnD P w K mg base k f fd ps F' :=
  FnOk.imp h fun vs H Q E ⟨hl, rho, hh, ds, R, q, p⟩ => ⟨hl, rho, hh, ds, R, q, by
    rcases hi ds hh with e | e
    · rw [e] at p; exact p.elim
    · rw [← e]; exact p⟩
/-- what a def has made for itself is forgotten -/
noncomputable def pureF (F : MF) : MF := fun ds h => match F ds h with
  | .ok d h' => open Classical in if bel h.length d = true ∧ ∃ g, h' = h ++ g then .ok d h else .stuck
  | .err x h' => .err x h'
  | .stuck => .stuck
theorem FnD.pure {k : Nat} {f : Addr} {fd : FuncData} {ps : List Str} {F : MF} (h : FnD P w K mg base k f fd ps F) : FnD P w K mg base k f fd ps (pureF F) :=
  FnOk.imp h fun vs H Q E ⟨hl, rho, hh, ds, R, q, p⟩ => ⟨hl, rho, hh, ds, R, q, by
    unfold pureF at p
    cases e : F ds hh with
    | ok d hh' =>
      rw [e] at p
      simp only at p
      split at p
      · rename_i hc
        obtain ⟨hb, g, rfl⟩ := hc
        intro rho' H' v S R' q'
        obtain ⟨ex, ee, hex⟩ := S.ext
        have b' : bel rho.at_.length d = true := by rw [R.len]; exact hb
        have h2 : ∀ a, a ∉ rho'.at_ → a ∉ rho'.res → a ∉ rho.res := fun a _ n m => n (S.kept a m)
        exact p rho H' v S.drop (R.drop S ⟨ex, ee⟩ h2 R') (Den.res ⟨ex, ee⟩ h2 d v q' b')
      · exact p.elim
    | err x hh' => rw [e] at p; exact p
    | stuck => rw [e] at p; exact p⟩
end
section
variable {X : Cx} {k : Nat} {f : Addr} {fd : FuncData} {ps : List Str} {F : MF} {x : Str} {p pos : Pos} {e : Expr} {es : List Expr} {ms : MA}
def eCall (F : MF) (ms : MA) : ME := fun env h => (ms env h).bind fun ds h1 => F ds h1
theorem call_of {W : WX} {σ : L2.St} {H : Hp} {Q : VK} (h : TD (Cx.gm X) W (eCall F ms) σ H Q) (hl : ∀ vs H1, (∃ rho ds, Dens (Cx.gm X) rho H1 ds vs ∧ ∃ env h0 h1, ms env h0 = .ok ds h1) → vs.length = ps.length) :
    tCallS (spD (Cx.gm X) ps.length F) (WE W) (TDa (Cx.gm X) W ms) σ H Q := by
  obtain ⟨rho, env, hh, R, E, p⟩ := h
  refine ⟨rho, env, hh, R, E, ?_⟩
  unfold eCall at p
  cases e : ms env hh with
  | ok ds hh1 =>
    rw [e, bind_ok] at p
    exact fun rho1 H1 vs S R1 q => ⟨hl vs H1 ⟨rho1, ds, q, env, hh, hh1, e⟩, rho1, hh1, ds, R1, q, p.start S⟩
  | err x hh1 => rw [e, bind_err] at p; exact p
  | stuck => rw [e, bind_stuck] at p; exact p
theorem de_call {n : Nat} (Fn : FnD X.prog X.w X.K X.mg X.base k f fd ps F) (hr : Room k X.A) (hg : Gl X x) (hm : X.mg x = some (.ref f)) (hk : PySem.W.keepIn X.K (.ref f) = true) (hb : Binds X.K fd ps []) (ha : DAn X (e :: es) n ms) (hn : n = ps.length := by rfl)
    (hdb : (x == ("__debug__" : Str)) = false := by decide) (he : starEach (e :: es) X.env = (false, eval e X.env) :: starEach es X.env := by rfl) (hpl : (backTo pos (starEach es X.env)).any (·.1) = false := by rfl) :
    DE X (.Call (.Name x p) (e :: es) [] pos) (eCall F ms) :=
  ⟨fun W tk => pe_weak (pe_callS (E := WE W) Fn hr hg hm hk hb (passAt tk) (ha.da.run W tk) hdb he hpl) fun σ H Q h => call_of h fun vs H1 ⟨rho, ds, q, env, h0, h1, e⟩ => by rw [← q.length, ha.n _ _ _ _ e, hn]⟩
/-- f() -/
theorem pe_callS0 {sp : Sp} {CX : CXT} {E : L2.St → XK} (F : FnOk X.prog X.w X.K X.mg X.base CX k f fd ps sp) (hr : Room k X.A) (hg : Gl X x) (hm : X.mg x = some (.ref f)) (hk : PySem.W.keepIn X.K (.ref f) = true) (hb : Binds X.K fd ps []) (hx : ∀ σ, PassesAt CX X σ (E σ))
    (hdb : (x == ("__debug__" : Str)) = false := by decide) : PE X (.Call (.Name x p) [] [] pos) (tCallS sp E tNil) := by
  refine ⟨fun pins s σ H Q I h => ?_⟩
  refine wpAny_Call_Name_kw (ld_glob I hg hm ?_ hdb)
  exact PySem.W.callWith_K0 I.kIn hk (run_fnS (us := []) F hr hb (hx σ) I .nil h)
theorem de_call0 (Fn : FnD X.prog X.w X.K X.mg X.base k f fd ps F) (hr : Room k X.A) (hg : Gl X x) (hm : X.mg x = some (.ref f)) (hk : PySem.W.keepIn X.K (.ref f) = true) (hb : Binds X.K fd ps []) (hn : ps = [] := by rfl)
    (hdb : (x == ("__debug__" : Str)) = false := by decide) : DE X (.Call (.Name x p) [] [] pos) (eCall F aNil) :=
  ⟨fun W tk => pe_weak (pe_callS0 (E := WE W) Fn hr hg hm hk hb (passAt tk) hdb) fun σ H Q ⟨rho, env, hh, R, E, p⟩ => ⟨by rw [hn]; rfl, rho, hh, [], R, rfl, p⟩⟩
end
end MR

namespace MR
open PySem PySem.Spec PyProof.Rows L2

inductive Tg where
  | name (i : Nat)
  | tup (is : List Nat)
def setAll {α : Type} : List Nat → List α → List (Option α) → List (Option α)
  | i :: is, d :: ds, env => setAll is ds (env.set i (some d))
  | _, _, env => env
def bindT (T : Tg) (d : D) (env : DEnv) : Option DEnv := match T with
  | .name i => some (env.set i (some d))
  | .tup is => match d with
    | .tup ds => if ds.length = is.length then some (setAll is ds env) else none
    | .wtp ds => if ds.length = is.length then some (setAll is ds env) else none
    | _ => none
def Tg.slots : Tg → List Nat
  | .name i => [i]
  | .tup is => is
def gSet : List Nat → TGs := fun is vs σ H Q => vs.length = is.length ∧ Q (setAll is vs σ) H
def gT (K : PySem.W.Frag) : Tg → TG
  | .name i => L2.gName i
  | .tup is => L2.gTup K is.length (gSet is)
structure DTg (X : Cx) (tg : Expr) (T : Tg) : Prop where
  run : PG X tg (gT X.K T)
structure DTgs (X : Cx) (tgs : List Expr) (is : List Nat) : Prop where
  run : PGs X tgs (gSet is)
section
variable {X : Cx} {pos : Pos}
theorem dtg_name {i : Nat} {x : Str} (hN : X.N.Nodup) (hi : X.N[i]? = some x := by rfl) (hx : Loc X.env.scope x := by first | exact Or.inl rfl | exact Or.inr rfl) (hf : X.fn x = true ∨ X.env.scope.names.lookup x = some .local := by first | exact .inl rfl | exact .inr rfl) : DTg X (.Name x pos) (.name i) := ⟨pg_name hN hi hx hf⟩
theorem dtgs_nil : DTgs X [] [] := ⟨pgs_weak pgs_nil fun vs σ H Q ⟨h, q⟩ => by
  cases vs with
  | nil => exact ⟨rfl, q⟩
  | cons v r => simp at h⟩
theorem dtgs_cons {i : Nat} {x : Str} {es : List Expr} {is : List Nat} (hN : X.N.Nodup) (h2 : DTgs X es is) (hi : X.N[i]? = some x := by rfl) (hx : Loc X.env.scope x := by first | exact Or.inl rfl | exact Or.inr rfl) (hf : X.fn x = true ∨ X.env.scope.names.lookup x = some .local := by first | exact .inl rfl | exact .inr rfl)
    (hs : (assignEach (.Name x pos :: es) X.env).map (·.2) = assign (.Name x pos) X.env :: (assignEach es X.env).map (·.2) := by rfl) : DTgs X (.Name x pos :: es) (i :: is) :=
  ⟨pgs_weak (pgs_cons (pg_name hN hi hx hf) h2.run hs) fun vs σ H Q ⟨h, q⟩ => by
    cases vs with
    | nil => simp at h
    | cons v r => exact ⟨v, r, rfl, by simpa using h, q⟩⟩
theorem dtg_tup {es : List Expr} {k : Nat} {is : List Nat} (hc : X.calm = true) (h : DTgs X es is)
    (hn : (assignEach es X.env).length = is.length := by rfl) (hst : (assignEach es X.env).findIdx? (·.1) = none := by rfl) : DTg X (.Tuple es k pos) (.tup is) := ⟨pg_tup hc h.run hn hst⟩
end
section
variable {G : Gm} {rho : Rm} {H : Hp}
theorem EnvD.setAll {is : List Nat} : ∀ {ds : List D} {vs : List V} {env : DEnv} {σ : L2.St}, EnvD G rho H env σ → Dens G rho H ds vs → EnvD G rho H (MR.setAll is ds env) (MR.setAll is vs σ) := by
  induction is with
  | nil => intro ds vs env σ E q; exact E
  | cons i is ih =>
    intro ds vs env σ E q
    cases ds with
    | nil => rw [Dens] at q; subst q; exact E
    | cons d ds =>
      rw [Dens] at q
      obtain ⟨v, r, rfl, q1, q2⟩ := q
      exact ih (E.set q1) q2
theorem wipe_at {σ : L2.St} {j : Nat} : ∀ {vs : List Nat}, (wipe σ vs)[j]? = if j ∈ vs then (if j < σ.length then some none else none) else σ[j]?
  | [] => by simp [wipe]
  | v :: vs => by
    unfold wipe
    have ih := wipe_at (σ := σ) (j := j) (vs := vs)
    by_cases hj : v = j
    · subst hj
      by_cases hl : v < σ.length
      · rw [List.getElem?_set_self (by rw [wipe_length]; exact hl)]; simp [hl]
      · rw [List.getElem?_eq_none (by rw [List.length_set, wipe_length]; omega)]; simp [hl]
    · rw [List.getElem?_set_ne hj, ih]
      have : (j ∈ v :: vs) ↔ j ∈ vs := by simp [Ne.symm hj, fun e => hj (Eq.symm e)]
      simp only [this]
theorem wipe_set {σ : L2.St} {i : Nat} {x : Option V} {vs : List Nat} (h : i ∈ vs) : wipe (σ.set i x) vs = wipe σ vs := by
  apply List.ext_getElem?
  intro j
  rw [wipe_at, wipe_at, List.length_set]
  by_cases hj : j ∈ vs
  · simp [hj]
  · simp only [hj, if_false]
    exact List.getElem?_set_ne fun e => hj (by rw [← e]; exact h)
theorem wipe_setAll {vs : List Nat} {is : List Nat} : ∀ {ws : List V} {σ : L2.St}, (∀ i ∈ is, i ∈ vs) → wipe (MR.setAll is ws σ) vs = wipe σ vs := by
  induction is with
  | nil => intro ws σ h; rfl
  | cons i is ih =>
    intro ws σ h
    cases ws with
    | nil => rfl
    | cons w ws => exact (ih fun j hj => h j (List.mem_cons_of_mem _ hj)).trans (wipe_set (h i List.mem_cons_self))
def wipeE (env : DEnv) : List Nat → DEnv
  | [] => env
  | v :: vs => (wipeE env vs).set v none
theorem EnvD.setN {env : DEnv} {σ : L2.St} {i : Nat} (E : EnvD G rho H env σ) : EnvD G rho H (env.set i none) (σ.set i none) := by
  refine ⟨by simp [E.1], fun j d e => ?_⟩
  by_cases hj : i = j
  · subst hj
    by_cases hl : i < env.length
    · rw [List.getElem?_set_self hl] at e; cases e
    · rw [List.getElem?_eq_none (by rw [List.length_set]; omega)] at e; cases e
  · rw [List.getElem?_set_ne hj] at e ⊢
    exact E.2 j d e
theorem EnvD.wipe {env : DEnv} {σ : L2.St} (E : EnvD G rho H env σ) : ∀ vs : List Nat, EnvD G rho H (wipeE env vs) (L2.wipe σ vs)
  | [] => E
  | v :: vs => (EnvD.wipe E vs).setN
/-- a target takes its value -/
theorem bindT_of {T : Tg} {d : D} {v : V} {env env' : DEnv} {σ : L2.St} {Q : L2.St → Hp → Prop} (E : EnvD G rho H env σ) (q : Den G rho H d v) (h : bindT T d env = some env')
    (hq : ∀ σ', EnvD G rho H env' σ' → (∀ vs, (∀ i ∈ T.slots, i ∈ vs) → L2.wipe σ' vs = L2.wipe σ vs) → Q σ' H) : gT G.K T v σ H Q := by
  cases T with
  | name i =>
    cases h
    exact hq _ (E.set q) fun vs hv => wipe_set (hv i (by simp [Tg.slots]))
  | tup is =>
    unfold bindT at h
    cases d with
    | tup ds =>
      simp only at h
      split at h
      · rename_i hl
        cases h
        rw [Den] at q
        obtain ⟨a, vs, rfl, hs, l, q⟩ := q
        refine ⟨a, vs, rfl, hs.t, by rw [← q.length]; exact hl, by rw [← q.length]; exact hl, ?_⟩
        exact hq _ (E.setAll q) fun ws hv => wipe_setAll hv
      · cases h
    | wtp ds =>
      simp only at h
      split at h
      · rename_i hl
        cases h
        rw [Den] at q
        obtain ⟨a, vs, rfl, hs, l, q⟩ := q
        refine ⟨a, vs, rfl, hs, by rw [← q.length]; exact hl, by rw [← q.length]; exact hl, ?_⟩
        exact hq _ (E.setAll q) fun ws hv => wipe_setAll hv
      · cases h
    | non => cases h
    | bl b => cases h
    | int i => cases h
    | str x => cases h
    | lst xs => cases h
    | ref i => cases h
    | glb u => cases h
    | scr u => cases h
    | dct u w => cases h
end

structure Src where
  items : List D
  live : Option (Nat × List D)
def gOk (g : Option (Nat × List D)) (h : Hh) : Prop := ∀ i ds, g = some (i, ds) → h[i]? = some (.lst ds)
theorem gOk_none {h : Hh} : gOk none h := fun _ _ e => nomatch e
abbrev MI := DEnv → Hh → Res Src
def WalkD (G : Gm) (rho1 : Rm) (H1 : Hp) (src : Src) (J : It) : Prop := src.items.length ≤ sizeLine ∧ ∀ rho hh H, Step rho1 H1 rho H → Rep G rho hh H → gOk src.live hh →
  (∀ i, i < src.items.length → J.go i H) ∧ J.stop src.items.length H ∧ ∀ i d x H', src.items[i]? = some d → J.yld i H x H' → Step rho H rho H' ∧ Rep G rho hh H' ∧ Den G rho H' d x
def TDi (G : Gm) (W : WX) (m : MI) : TI := fun σ H R => ∃ rho env hh, Rep G rho hh H ∧ EnvD G rho H env σ ∧ PostE G (WalkD G) (wAt W σ) rho H (m env hh) R
structure DI (X : Cx) (tg iter : Expr) (m : MI) : Prop where
  run : ∀ W, Takes X W → PI X tg iter (TDi (Cx.gm X) W m)
theorem pi_weak {X : Cx} {tg e : Expr} {t t' : TI} (h : PI X tg e t) (i : ∀ σ H R, t' σ H R → t σ H R) : PI X tg e t' := ⟨fun pins s σ H R I q => h.run pins s σ H R I (i σ H R q)⟩

def loopBack (r : RS) (f : DEnv → Hh → RS) : RS := match r with
  | .nx e h => f e h
  | .ct e h => f e h
  | .bk e h => .nx e h
  | r => r
open Classical in
noncomputable def forL (g : Option (Nat × List D)) (body : D → DEnv → Hh → RS) : List D → DEnv → Hh → RS
  | [], env, h => if gOk g h then .nx env h else .stuck
  | d :: ds, env, h => if gOk g h then loopBack (body d env h) (forL g body ds) else .stuck
def bodyT (T : Tg) (b : MS) : D → DEnv → Hh → RS := fun d env h => match bindT T d env with
  | some env' => b env' h
  | none => .stuck
noncomputable def sFor (mi : MI) (T : Tg) (b : MS) : MS := fun env h => (mi env h).st env fun src h1 => forL src.live (bodyT T b) src.items env h1
section
variable {X : Cx} {G : Gm} {W : WX}
theorem loop_post {De : Ends} {rho : Rm} {H : Hp} {r : RS} {f : DEnv → Hh → RS} {N : L2.St → Hp → Prop} (p : PostS G W De rho H (loopBack r f))
    (hN : ∀ rho' H' σ' env hh, Step rho H rho' H' → Rep G rho' hh H' → EnvD G rho' H' env σ' → PostS G W De rho' H' (f env hh) → N σ' H') :
    PostS G W { De with nx := N, ct := N, bk := De.nx } rho H r := by
  cases r with
  | nx env hh => exact fun rho' H' σ' S R E => hN rho' H' σ' env hh S R E (PostS.start (r := f env hh) p S)
  | rt d hh => exact p
  | bk env hh => exact p
  | ct env hh => exact fun rho' H' σ' S R E => hN rho' H' σ' env hh S R E (PostS.start (r := f env hh) p S)
  | er x env hh => exact p
  | stuck => exact p
theorem ds_for {tg iter : Expr} {body : List Stmt} {mi : MI} {T : Tg} {b : MS} {pos : Pos} (hp : PassesOwn (model X.prog X.w) X.A X.env X.xe) (hc : X.calm = true) (hi : DI X tg iter mi) (hg : DTg X tg T) (hb : DSs X body b)
    (hs : ∀ x, foldedSetIterable iter X.env x = pure x := by intro _; rfl) : DS X (.For tg iter body [] pos) (sFor mi T b) :=
  ⟨fun W tk => ps_weak (ps_for hp hc (hi.run W tk) hg.run (hb.run W tk) hs) fun De σ H ⟨rho, env, hh, R, E, p⟩ => by
    refine ⟨rho, env, hh, R, E, ?_⟩
    unfold sFor at p
    cases e : mi env hh with
    | stuck => rw [e] at p; exact p
    | err x h1 =>
      rw [e] at p
      exact fun rho1 H1 c d S R1 q => p rho1 H1 σ c d S R1 (E.step R S) q
    | ok src h1 =>
      rw [e, st_ok] at p
      intro rho1 H1 J S1 R1 wk
      have E1 := E.step R S1
      have p1 := PostS.start p S1
      refine ⟨fun i m σ H => m = src.items.length - i ∧ i ≤ src.items.length ∧ ∃ rho env hh, Rep (Cx.gm X) rho hh H ∧ EnvD (Cx.gm X) rho H env σ ∧ Step rho1 H1 rho H ∧ PostS (Cx.gm X) W De rho H (forL src.live (bodyT T b) (src.items.drop i) env hh),
        ⟨_, rfl, Nat.zero_le _, rho1, env, h1, R1, E1, .refl, by rw [List.drop_zero]; exact p1⟩, ?_⟩
      rintro i m σ2 H2 ⟨rfl, hi, rho2, env2, hh2, R2, E2, S2, p2⟩
      obtain ⟨wl, wk⟩ := wk
      by_cases hlt : i < src.items.length
      · have ed : src.items.drop i = src.items[i] :: src.items.drop (i + 1) := List.drop_eq_getElem_cons hlt
        rw [ed] at p2
        unfold forL at p2
        split at p2
        · rename_i hg2
          obtain ⟨w1, w2, w3⟩ := wk rho2 hh2 H2 S2 R2 hg2
          refine .inr ⟨w1 i hlt, fun σ' H' => ∃ rho env hh, Rep (Cx.gm X) rho hh H' ∧ EnvD (Cx.gm X) rho H' env σ' ∧ Step rho1 H1 rho H' ∧ PostS (Cx.gm X) W De rho H' (forL src.live (bodyT T b) (src.items.drop (i + 1)) env hh),
            fun σ' H' q => ⟨src.items.length - (i + 1), by omega, rfl, hlt, q⟩, fun x H3 y => ?_⟩
          obtain ⟨S3, R3, q3⟩ := w3 i _ x H3 (List.getElem?_eq_getElem hlt) y
          have E3 := E2.step R2 S3
          have p3 := PostS.start p2 S3
          unfold bodyT at p3
          cases eb : bindT T src.items[i] env2 with
          | none => rw [eb] at p3; exact p3.elim
          | some env3 =>
            rw [eb] at p3
            refine bindT_of (G := Cx.gm X) E3 q3 eb fun σ4 E4 _ => ⟨rho2, env3, hh2, R3, E4, ?_⟩
            exact loop_post p3 fun rho' H' σ' env' hh' S' R' E' p' => ⟨rho', env', hh', R', E', S2.trans (S3.trans S'), p'⟩
        · exact p2.elim
      · have ei : i = src.items.length := by omega
        subst ei
        rw [List.drop_length] at p2
        unfold forL at p2
        split at p2
        · rename_i hg2
          obtain ⟨w1, w2, w3⟩ := wk rho2 hh2 H2 S2 R2 hg2
          exact .inl ⟨w2, p2 rho2 H2 σ2 .refl R2 E2⟩
        · exact p2.elim⟩

open Classical in
end
end MR

namespace MR
open PySem PySem.Spec PyProof.Rows L2

structure DTs (X : Cx) (ifs : List Expr) (m : MT) : Prop where
  run : ∀ W, Takes X W → PTs X ifs (TDt (Cx.gm X) W m)
theorem dts_nil {X : Cx} : DTs X [] (fun _ h => .ok true h) := ⟨fun W _ => ⟨fun pins s σ H Q I ⟨rho, env, hh, R, E, p⟩ => pts_nil.run pins s σ H Q I (p.val R rfl)⟩⟩
theorem dts_one {X : Cx} {c : Expr} {t : MT} (h : DT X c t) : DTs X [c] t := ⟨fun W tk => pts_one (h.run W tk)⟩

open Classical in
noncomputable def compL (g : Option (Nat × List D)) (T : Tg) (t : MT) (e : ME) (env : DEnv) : List D → Hh → Res (List D)
  | [], h => if gOk g h then .ok [] h else .stuck
  | d :: ds, h => if gOk g h then (match bindT T d env with
    | some env' => (t env' h).bind fun k h1 => if k = true then (e env' h1).bind fun y h2 => (compL g T t e env ds h2).bind fun ys h3 => .ok (y :: ys) h3 else compL g T t e env ds h1
    | none => .stuck) else .stuck
def noErr {α : Type} (r : Res α) : Res α := match r with
  | .ok a h => .ok a h
  | _ => .stuck
noncomputable def aComp (mi : MI) (T : Tg) (t : MT) (e : ME) (vs : List Nat) : MA := fun env h => (mi env h).bind fun src h1 => noErr (compL src.live T t e (wipeE env vs) src.items h1)

abbrev WF : WX := fun _ _ _ _ => False
section
variable {G : Gm} {rho : Rm} {H H' : Hp}
mutual
theorem den_same (ht : ∀ a vs, SqT G.K H a vs → SqT G.K H' a vs) (hl : ∀ a o, H a = some o → a ∉ rho.at_ → a ∉ rho.res → H' a = some o) (hf : ∀ a o u, H a = some (.frz o u) → H' a = some (.frz o u)) : ∀ (d : D) (v : V), Den G rho H d v → Den G rho H' d v
  | .non, _, h => h
  | .bl _, _, h => h
  | .int _, _, h => h
  | .str _, _, h => h
  | .tup ds, v, h => by
    rw [Den] at h ⊢
    obtain ⟨a, vs, e, q, l, ds'⟩ := h
    refine ⟨a, vs, e, ?_, l, dens_same ht hl hf ds vs ds'⟩
    rcases q with ⟨o, q, d⟩ | q
    · exact .inl ⟨o, hf a o _ q, d⟩
    · exact .inr q
  | .wtp ds, v, h => by
    rw [Den] at h ⊢
    obtain ⟨a, vs, e, q, l, ds'⟩ := h
    exact ⟨a, vs, e, ht a vs q, l, dens_same ht hl hf ds vs ds'⟩
  | .lst ds, v, h => by
    rw [Den] at h ⊢
    obtain ⟨a, vs, e, q, n, n2, l, ds'⟩ := h
    exact ⟨a, vs, e, hl a _ q n n2, n, n2, l, dens_same ht hl hf ds vs ds'⟩
  | .ref i, v, h => h
  | .glb _, _, h => h
  | .scr ns, v, h => by
    rw [Den] at h ⊢
    obtain ⟨a, e, q, l⟩ := h
    refine ⟨a, e, ?_, l⟩
    rcases q with ⟨o, q⟩ | q
    · exact .inl ⟨o, hf a o _ q⟩
    · exact .inr q
  | .dct ks ds, v, h => by
    rw [Den] at h ⊢
    obtain ⟨a, xs, es, us, e, q, n, n2, l1, l2, k1, k2, k3, k4, k5, d1, d2⟩ := h
    exact ⟨a, xs, es, us, e, hl a _ q n n2, n, n2, l1, l2, k1, k2, k3, k4, k5, dens_same ht hl hf ks _ d1, dens_same ht hl hf ds us d2⟩
theorem dens_same (ht : ∀ a vs, SqT G.K H a vs → SqT G.K H' a vs) (hl : ∀ a o, H a = some o → a ∉ rho.at_ → a ∉ rho.res → H' a = some o) (hf : ∀ a o u, H a = some (.frz o u) → H' a = some (.frz o u)) : ∀ (ds : List D) (vs : List V), Dens G rho H ds vs → Dens G rho H' ds vs
  | [], _, h => h
  | d :: ds, vs, h => by
    rw [Dens] at h ⊢
    obtain ⟨v, r, e, a, b⟩ := h
    exact ⟨v, r, e, den_same ht hl hf d v a, dens_same ht hl hf ds r b⟩
end
/-- a list that is set apart is changed -/
theorem putR {p : Addr} {xs ys : List V} (hp : H p = some (.lst xs)) (hr : p ∈ rho.res) : (∀ a vs, SqT G.K H a vs → SqT G.K (upd H p (.lst ys)) a vs) ∧ (∀ a o, H a = some o → a ∉ rho.at_ → a ∉ rho.res → (upd H p (.lst ys)) a = some o) ∧ (∀ a o u, H a = some (.frz o u) → (upd H p (.lst ys)) a = some (.frz o u)) := by
  refine ⟨fun a vs h => ?_, fun a vs h n n2 => ?_, fun a o u h => ?_⟩
  · rcases h with (h | ⟨o, h⟩) | h
    · exact .inl (.inl (by rw [upd_ne (ne_of h hp (by intro z; cases z))]; exact h))
    · exact .inl (.inr ⟨o, by rw [upd_ne (ne_of h hp (by intro z; cases z))]; exact h⟩)
    · exact .inr h
  · have ne : a ≠ p := fun e => n2 (by rw [e]; exact hr)
    rw [upd_ne ne]; exact h
  · rw [upd_ne (ne_of h hp (by intro z; cases z))]; exact h
theorem Rep.putR {hh : Hh} (R : Rep G rho hh H) {p : Addr} {xs ys : List V} (hp : H p = some (.lst xs)) (hr : p ∈ rho.res) (ha : p ∉ rho.at_) : Rep G rho hh (upd H p (.lst ys)) := by
  obtain ⟨ht, hl, hf⟩ := MR.putR (G := G) (ys := ys) hp hr
  refine ⟨R.nd, fun a m => ?_, R.len, fun i a o e1 e2 => ?_⟩
  · by_cases e : a = p
    · subst e; exact ⟨_, upd_same⟩
    · obtain ⟨o, q⟩ := R.hd a m
      exact ⟨o, by rw [upd_ne e]; exact q⟩
  · have ne : a ≠ p := fun e => ha (by rw [← e]; exact List.mem_of_getElem? e1)
    have x := R.ob i a o e1 e2
    cases o with
    | lst ds => obtain ⟨vs, e, l, q⟩ := x; exact ⟨vs, by rw [upd_ne ne]; exact e, l, dens_same ht hl hf ds vs q⟩
    | dK kvs => obtain ⟨vs, e, l, q⟩ := x; exact ⟨vs, by rw [upd_ne ne]; exact e, l, Paired.mapP q fun p q r => ⟨r.1, den_same ht hl hf _ _ r.2⟩⟩
    | dN kvs =>
      obtain ⟨xs, l0, l1, es, e, q, r⟩ := x
      exact ⟨xs, l0, l1, es, by rw [upd_ne ne]; exact e, Paired.mapP q fun p q r => ⟨r.1, den_same ht hl hf _ _ r.2.1, let ⟨v, a, b⟩ := r.2.2; ⟨v, a, den_same ht hl hf _ _ b⟩⟩, r⟩
    | ins C fs =>
      obtain ⟨c, dx, fvs, g, e, o, q⟩ := x
      have nd : dx ≠ p := ne_of o hp (by intro z; cases z)
      exact ⟨c, dx, fvs, g, by rw [upd_ne ne]; exact e, by rw [upd_ne nd]; exact o, Paired.mapP q fun p q r => ⟨r.1, den_same ht hl hf _ _ r.2⟩⟩
    | exc x => obtain ⟨c, d, q, e⟩ := x; exact ⟨c, d, q.put (.inr hr), by rw [upd_ne ne]; exact e⟩
theorem EnvD.putR {env : DEnv} {σ : L2.St} (E : EnvD G rho H env σ) {p : Addr} {xs ys : List V} (hp : H p = some (.lst xs)) (hr : p ∈ rho.res) : EnvD G rho (upd H p (.lst ys)) env σ := by
  obtain ⟨ht, hl, hf⟩ := MR.putR (G := G) (ys := ys) hp hr
  exact ⟨E.1, fun i d e => let ⟨v, e1, e2⟩ := E.2 i d e; ⟨v, e1, den_same ht hl hf _ _ e2⟩⟩
end

section
variable {X : Cx}
/-- what is wanted at the comprehension's end -/
def Fin (G : Gm) (rho1 : Rm) (H1 : Hp) (L : Addr) (Q : VK) (acc : List D) (r : Res (List D)) : Prop :=
  match r with
  | .ok ys hh' => ∀ rho' H' vs, Step rho1 H1 rho' H' → Rep G rho' hh' H' → H' L = some (.lst vs) → L ∈ rho'.res → L ∉ rho'.at_ → vs.length ≤ sizeLine → Dens G rho' H' (acc ++ ys) vs → Q (.ref L) H'
  | _ => False
theorem lc_of {G : Gm} {W : WX} {mi : MI} {T : Tg} {t : MT} {e : ME} {vs : List Nat} {σ : L2.St} {H : Hp} {Q : VK} (hT : ∀ i ∈ T.slots, i ∈ vs) (h : TDl G W (aComp mi T t e vs) σ H Q) :
    tLc (TDi G W mi) (gT G.K T) (TDt G WF t) (TD G WF e) vs σ H Q := by
  obtain ⟨rho, env, hh, R, E, p⟩ := h
  refine ⟨rho, env, hh, R, E, ?_⟩
  unfold aComp at p
  cases em : mi env hh with
  | stuck => rw [em] at p; exact p.elim
  | err x h1 =>
    rw [em] at p
    exact p
  | ok src h1 =>
    rw [em, bind_ok] at p
    intro rho1 H1 J S1 R1 wk L hL
    have E1 := (E.step R S1).wipe vs
    -- the list is laid, apart
    have hLa : L ∉ rho1.at_ := fun hm => by
      obtain ⟨u, e, _⟩ := R1.mut hm
      rw [hL] at e; cases e
    obtain ⟨S2, R2, _, _⟩ := new_list (ds := []) (vs := []) (Step.refl (rho := rho1) (H := H1)) R1 rfl hL
    have E2 := E1.step R1 S2
    have fin : Fin G rho1 H1 L Q [] (compL src.live T t e (wipeE env vs) src.items h1) := by
      cases ec : compL src.live T t e (wipeE env vs) src.items h1 with
      | ok ys h2 =>
        rw [ec] at p
        exact fun rho' H' ws S' R' hl hr ha hz q => p rho' H' L ws (S1.trans S') R' hl hr ha (S1.back hL) hz q
      | err x h2 => rw [ec] at p; exact p
      | stuck => rw [ec] at p; exact p
    obtain ⟨wl, wk⟩ := wk
    refine ⟨fun i m H => m = src.items.length - i ∧ i ≤ src.items.length ∧ ∃ rho hh acc av, Step rho1 H1 rho H ∧ Rep G rho hh H ∧ EnvD G rho H (wipeE env vs) (wipe σ vs) ∧ H L = some (.lst av) ∧ L ∈ rho.res ∧ L ∉ rho.at_ ∧ av.length ≤ i ∧ Dens G rho H acc av ∧
        Fin G rho1 H1 L Q acc (compL src.live T t e (wipeE env vs) (src.items.drop i) hh),
      ⟨_, rfl, Nat.zero_le _, rho1.hold L, h1, [], [], S2, R2, E2, upd_same, List.mem_cons_self, hLa, Nat.le_refl _, rfl, by rw [List.drop_zero]; exact fin⟩, ?_⟩
    rintro i m H3 ⟨rfl, hi, rho3, hh3, acc, av, S3, R3, E3, h3, hr3, ha3, hz3, q3, f3⟩
    by_cases hlt : i < src.items.length
    · have ed : src.items.drop i = src.items[i] :: src.items.drop (i + 1) := List.drop_eq_getElem_cons hlt
      rw [ed] at f3
      unfold compL at f3
      split at f3
      · rename_i hg3
        obtain ⟨w1, w2, w3⟩ := wk rho3 hh3 H3 S3 R3 hg3
        refine .inr ⟨w1 i hlt, fun H' => ∃ rho hh acc av, Step rho1 H1 rho H' ∧ Rep G rho hh H' ∧ EnvD G rho H' (wipeE env vs) (wipe σ vs) ∧ H' L = some (.lst av) ∧ L ∈ rho.res ∧ L ∉ rho.at_ ∧ av.length ≤ i + 1 ∧ Dens G rho H' acc av ∧
            Fin G rho1 H1 L Q acc (compL src.live T t e (wipeE env vs) (src.items.drop (i + 1)) hh),
          fun H' q => ⟨src.items.length - (i + 1), by omega, rfl, hlt, q⟩, fun x H4 y => ?_⟩
        obtain ⟨S4, R4, q4⟩ := w3 i _ x H4 (List.getElem?_eq_getElem hlt) y
        have E4 := E3.step R3 S4
        cases eb : bindT T src.items[i] (wipeE env vs) with
        | none => rw [eb] at f3; exact f3.elim
        | some env5 =>
          rw [eb] at f3
          refine bindT_of E4 q4 eb fun σ5 E5 hw => ⟨by rw [hw vs hT, show wipe (wipe σ vs) vs = wipe σ vs from by
            apply List.ext_getElem?
            intro j
            rw [wipe_at, wipe_length]
            by_cases hj : j ∈ vs
            · simp [hj, wipe_at]
            · simp [hj]], rho3, env5, hh3, R4, E5, ?_⟩
          simp only at f3
          cases et : t env5 hh3 with
          | stuck => rw [et] at f3; exact f3.elim
          | err x2 h5 => rw [et] at f3; exact f3.elim
          | ok k h5 =>
            rw [et, bind_ok] at f3
            intro rho6 H6 k' S6 R6 ek
            subst ek
            have S16 := S3.trans (S4.trans S6)
            have L4 := S4.keep L _ h3 ha3
            have L6 := S6.keep L _ L4 ha3
            have r6 := S6.kept L hr3
            have a6 : L ∉ rho6.at_ := S6.out L4 ha3
            have q6 := Dens.step R4 S6 _ _ (Dens.step R3 S4 _ _ q3)
            have E6 := (E3.step R3 S4).step R4 S6
            cases k with
            | false =>
              simp only [Bool.false_eq_true, if_false] at f3 ⊢
              exact ⟨rho6, h5, acc, av, S16, R6, E6, L6, r6, a6, Nat.le_succ_of_le hz3, q6, f3⟩
            | true =>
              simp only [if_true] at f3 ⊢
              refine ⟨rho6, env5, h5, R6, E5.step R4 S6, ?_⟩
              cases ee : e env5 h5 with
              | stuck => rw [ee] at f3; exact f3.elim
              | err x2 h7 => rw [ee] at f3; exact f3.elim
              | ok y2 h7 =>
                rw [ee, bind_ok] at f3
                intro rho8 H8 yv S8 R8 q8
                have L8 := S8.keep L _ L6 a6
                have r8 := S8.kept L r6
                have a8 : L ∉ rho8.at_ := S8.out L6 a6
                refine ⟨av, L8, by omega, rho8, h7, acc ++ [y2], av ++ [yv], (S16.trans S8).since hL, R8.putR L8 r8 a8, (E6.step R6 S8).putR L8 r8, upd_same, r8, a8, by simp; omega, ?_, ?_⟩
                · obtain ⟨ht, hl, hf⟩ := putR (G := G) (ys := av ++ [yv]) L8 r8
                  exact dens_same ht hl hf _ _ ((Dens.step R6 S8 _ _ q6).append ⟨yv, [], rfl, q8, rfl⟩)
                · cases ec : compL src.live T t e (wipeE env vs) (src.items.drop (i + 1)) h7 with
                  | stuck => rw [ec] at f3; exact f3.elim
                  | err x2 h9 => rw [ec] at f3; exact f3.elim
                  | ok ys h9 =>
                    rw [ec, bind_ok] at f3
                    intro rho' H' ws a b c d e' f g
                    exact f3 rho' H' ws a b c d e' f (by rw [List.append_assoc] at g; exact g)
      · exact f3.elim
    · have ei : i = src.items.length := by omega
      subst ei
      rw [List.drop_length] at f3
      unfold compL at f3
      split at f3
      · rename_i hg3
        obtain ⟨w1, w2, w3⟩ := wk rho3 hh3 H3 S3 R3 hg3
        exact .inl ⟨w2, f3 rho3 H3 av S3 R3 h3 hr3 ha3 (by omega) (by rw [List.append_nil]; exact q3)⟩
      · exact f3.elim
variable {elt tg iter : Expr} {ifs : List Expr} {scope : Scope} {own : List (Str × Nat)} {pos : Pos} {mi : MI} {T : Tg} {t : MT} {e : ME}
/-- [elt for tg in iter if ..] -/
theorem dl_comp (hc : X.calm = true) (hN : X.N.Nodup) (hi : DI X tg iter mi) (ok : BlkOk X.N X.env.scope scope own)
    (hg : ∀ (s : Shared) (H : Hp) (C : Addr) (cl : List (Str × Addr)) (fp : List Addr), DTg (X.blk s H scope (compEnvC scope cl C X.env) fp) tg T) (ht : ∀ (s : Shared) (H : Hp) (C : Addr) (cl : List (Str × Addr)) (fp : List Addr), DTs (X.blk s H scope (compEnvC scope cl C X.env) fp) ifs t)
    (he : ∀ (s : Shared) (H : Hp) (C : Addr) (cl : List (Str × Addr)) (fp : List Addr), DE (X.blk s H scope (compEnvC scope cl C X.env) fp) elt e) (hT : ∀ i ∈ T.slots, i ∈ own.map (·.2) := by decide) (hs : ∀ x, foldedSetIterable iter X.env x = pure x := by intro _; rfl) :
    DL X (.ListComp elt [⟨tg, iter, ifs, 0⟩] scope pos) (aComp mi T t e (own.map (·.2))) :=
  ⟨fun W tk => pe_weak (pe_lc hc hN (hi.run W tk) ok (fun s H C cl fp => (hg s H C cl fp).run) (fun s H C cl fp => (ht s H C cl fp).run WF takes0) (fun s H C cl fp => (he s H C cl fp).run WF takes0) hs) fun σ H Q h => lc_of hT h⟩
theorem asg_of {G : Gm} {W : WX} {m : ME} {i : Nat} {De : Ends} {σ : L2.St} {H : Hp} (h : TDs G W (sAsg m (gName i)) De σ H) : TD G W m σ H fun x H1 => L2.gName i x σ H1 De.nx :=
  st_of h fun rho env hh H1 d v R E q p => p rho H1 _ .refl R (E.set q)
variable {i : Nat} {y : Str} {py spos : Pos}
/-- name = [..] on one line -/
theorem ds_setComp {m : ME} (hm : ∀ {G : Gm} {W : WX} {σ : L2.St} {H : Hp} {Q : VK}, TD G W m σ H Q → TDl G W (aComp mi T t e (own.map (·.2))) σ H Q) (hc : X.calm = true) (hN : X.N.Nodup) (hy : X.N[i]? = some y) (hyl : X.env.scope.names.lookup y = some .local)
    (hsw : swapsWith (.ListComp elt [⟨tg, iter, ifs, 0⟩] scope pos) (some (.Name y py)) spos.line X.env = pure true) (hi : DI X tg iter mi) (ok : BlkOk X.N X.env.scope scope own)
    (hg : ∀ (s : Shared) (H : Hp) (C : Addr) (cl : List (Str × Addr)) (fp : List Addr), DTg (X.blk s H scope (compEnvC scope cl C X.env) fp) tg T) (ht : ∀ (s : Shared) (H : Hp) (C : Addr) (cl : List (Str × Addr)) (fp : List Addr), DTs (X.blk s H scope (compEnvC scope cl C X.env) fp) ifs t)
    (he : ∀ (s : Shared) (H : Hp) (C : Addr) (cl : List (Str × Addr)) (fp : List Addr), DE (X.blk s H scope (compEnvC scope cl C X.env) fp) elt e) (hT : ∀ i ∈ T.slots, i ∈ own.map (·.2) := by decide) (hs : ∀ x, foldedSetIterable iter X.env x = pure x := by intro _; rfl) :
    DS X (.Assign [.Name y py] (.ListComp elt [⟨tg, iter, ifs, 0⟩] scope pos) spos) (sAsg m (gName i)) :=
  ⟨fun W tk => ps_weak (ps_setLc hc hN hy hyl hsw (hi.run W tk) ok (fun s H C cl fp => (hg s H C cl fp).run) (fun s H C cl fp => (ht s H C cl fp).run WF takes0) (fun s H C cl fp => (he s H C cl fp).run WF takes0) hs) fun De σ H h => lc_of hT (hm (asg_of h))⟩
end
end MR

set_option maxHeartbeats 1000000
namespace MR
open PySem PySem.Spec PyProof.Rows L2

structure SeqK (P : Program) (w : World) (K : PySem.W.Frag) (Sq : Hp → Addr → List V → Prop) (IsIt : Heap → Addr → Addr → Nat → Prop) (IsSq : Heap → Addr → Array Value → Prop) (io : Addr → Obj) : Prop where
  beg : ∀ a items, Begins (.ref a) (io a) (fun h => IsSq h a items)
  it0 : ∀ (h : Heap) it a, h.get? it = some (io a) → IsIt h it a 0
  at_ : ∀ (h h' : Heap) it a i, IsIt h it a i → (∀ o, h.get? it = some o → h'.get? it = some o) → IsIt h' it a i
  obj : ∀ (h : Heap) it a i, IsIt h it a i → ∃ o, h.get? it = some o ∧ ∀ v, o.data ≠ .cell v
  draws : ∀ (A : Around) it a (items : Array Value), A.handled = none → a ≠ it → Draws P w A it [it, a] items.size (fun i v => items[i]? = some v) (fun i h => IsIt h it a i ∧ IsSq h a items)
  inv : ∀ (X : Cx) pins σ H s a xs, X.prog = P → X.w = w → X.K = K → Inv X pins σ H s → Sq H a xs → ∃ its : List Value, Vals xs its ∧ IsSq s.heap a its.toArray ∧ a < s.heap.objs.size
  inj : ∀ (X : Cx) pins σ H s a xs ys, X.K = K → Inv X pins σ H s → Sq H a xs → Sq H a ys → xs = ys
theorem seqK_list (P : Program) (w : World) (K : PySem.W.Frag) : SeqK P w K (SqL K) (fun h it a i => h.IsListIter it a i) (fun h a items => h.IsList a items) (fun a => { cls := .type "list_iterator", data := .fields #[.ref a, .int 0 0] }) where
  beg := begins_list
  it0 := fun h it a e => ⟨_, e, rfl, rfl⟩
  at_ := fun h h' it a i x k => x.at k
  obj := fun h it a i ⟨o, ho, _, hd⟩ => ⟨o, ho, fun v q => by rw [hd] at q; cases q⟩
  draws := fun A it a items hh ne => Draws.list hh it a ne items
  inv := fun X pins σ H s a xs hP hw hK I q => by
    subst hP hw hK
    obtain ⟨its, r, p, _⟩ := I.list q
    exact ⟨its, r, p.isList, p.lt⟩
  inj := fun X pins σ H s a xs ys hK I q q' => by subst hK; exact I.list_inj q q'
theorem seqK_tup (P : Program) (w : World) (K : PySem.W.Frag) : SeqK P w K (SqT K) (fun h it a i => h.IsTupleIter it a i) (fun h a items => h.IsTuple a items) (fun a => { cls := .type "tuple_iterator", data := .fields #[.ref a, .int 0 0] }) where
  beg := begins_tuple
  it0 := fun h it a e => ⟨_, e, rfl, rfl⟩
  at_ := fun h h' it a i x k => x.at k
  obj := fun h it a i ⟨o, ho, _, hd⟩ => ⟨o, ho, fun v q => by rw [hd] at q; cases q⟩
  draws := fun A it a items hh ne => Draws.tuple hh it a ne items
  inv := fun X pins σ H s a xs hP hw hK I q => by
    subst hP hw hK
    obtain ⟨its, r, p, _⟩ := I.tuple q
    obtain ⟨o, ho, _⟩ := id p
    exact ⟨its, r, p, Heap.lt_size ho⟩
  inj := fun X pins σ H s a xs ys hK I q q' => by subst hK; exact I.tuple_inj q q'

def ItzK (Sq Sq2 : Hp → Addr → List V → Prop) (a b : Addr) : It :=
  ⟨fun i H => ∃ (xs ys : List V) (x y : V), Sq H a xs ∧ Sq2 H b ys ∧ xs[i]? = some x ∧ ys[i]? = some y,
    fun i H v H' => ∃ T x y, v = .ref T ∧ H T = none ∧ H' = upd H T (.tup [x, y]) ∧ (∀ xs, Sq H a xs → xs[i]? = some x) ∧ ∀ ys, Sq2 H b ys → ys[i]? = some y,
    fun i H => ∃ xs ys : List V, Sq H a xs ∧ Sq2 H b ys ∧ min xs.length ys.length = i⟩
theorem turn_zipK {P : Program} {w : World} {K : PySem.W.Frag} {Sq Sq2 : Hp → Addr → List V → Prop} {IsIt IsIt2 : Heap → Addr → Addr → Nat → Prop} {IsSq IsSq2 : Heap → Addr → Array Value → Prop} {io io2 : Addr → Obj}
    (S : SeqK P w K Sq IsIt IsSq io) (S2 : SeqK P w K Sq2 IsIt2 IsSq2 io2) {elts : List Expr} {kk : Nat} {tpos : Pos} {a b z TI TO i1 i2 : Addr} (Z : ZipSep2 z TI TO i1 i2 [i1, a] [i2, b]) (n1 : a ≠ i1) (n2 : b ≠ i2) :
    Turn P w K (.Tuple elts kk tpos) (ItzK Sq Sq2 a b) [z, TI, TO, i1, i2] z (fun i h => IsZip h z TI TO .none ∧ IsTupOf2 h TI (.ref i1) (.ref i2) ∧ (∃ x y, IsTupOf2 h TO x y) ∧ IsIt h i1 a i ∧ IsIt2 h i2 b i) where
  mem := by simp
  obj := fun i h st c hc => by
    obtain ⟨hz, hTI, ⟨x, y, hTO⟩, h1, h2⟩ := st
    have e' : c = z ∨ c = TI ∨ c = TO ∨ c = i1 ∨ c = i2 := by simpa using hc
    rcases e' with q | q | q | q | q
    · rw [q]; exact ⟨_, hz, fun v q => nomatch q⟩
    · rw [q]; exact ⟨_, hTI, fun v q => nomatch q⟩
    · rw [q]; exact ⟨_, hTO, fun v q => nomatch q⟩
    · rw [q]; exact S.obj _ _ _ _ h1
    · rw [q]; exact S2.obj _ _ _ _ h2
  keep := fun i h h' st k => by
    obtain ⟨hz, hTI, ⟨x, y, hTO⟩, h1, h2⟩ := st
    exact ⟨k z (by simp) _ hz, k TI (by simp) _ hTI, ⟨x, y, k TO (by simp) _ hTO⟩, S.at_ _ _ _ _ _ h1 fun o q => k i1 (by simp) o q, S2.at_ _ _ _ _ _ h2 fun o q => k i2 (by simp) o q⟩
  item := by
    intro X hP hw hK hc i pins s σ H E I hf st hg
    obtain ⟨hz, hTI, ⟨x0, y0, hTO⟩, h1, h2⟩ := st
    obtain ⟨xs, ys, x, y, hqx, hqy, hx, hy⟩ := hg
    obtain ⟨its, rv, p, _⟩ := S.inv X pins σ H s a xs hP hw hK I hqx
    obtain ⟨its2, rv2, p2, _⟩ := S2.inv X pins σ H s b ys hP hw hK I hqy
    have l1 := rv.length
    have l2 := rv2.length
    have hh : X.A.in1.handled = none := I.ok.hd hc
    have hi1 : i < its.toArray.size := by have := (List.getElem?_eq_some_iff.mp hx).1; simp; omega
    have hi2 : i < its2.toArray.size := by have := (List.getElem?_eq_some_iff.mp hy).1; simp; omega
    have Gn := GoesN.zip2 (elts := elts) (x1 := kk) (pos := tpos) Z (S.draws X.A.in1 i1 a its.toArray hh n1) (S2.draws X.A.in1 i2 b its2.toArray hh n2)
    refine Gn.goes i s _ E (by omega) ⟨hz, hTI, ⟨x0, y0, hTO⟩, ⟨h1, p⟩, ⟨h2, p2⟩⟩ fun v h' tk hY hSt hk htk => ?_
    obtain ⟨T, ux, uy, rfl, hT, hux, huy, hTup⟩ := hY
    obtain ⟨hz', hTI', hTO', ⟨h1', _⟩, ⟨h2', _⟩⟩ := hSt
    obtain ⟨u, hu, ru⟩ := rv.get hx
    obtain ⟨u2, hu2, ru2⟩ := rv2.get hy
    have e1 : ux = u := by
      have : its.toArray[i]? = some u := by simpa using hu
      rw [this] at hux; exact (Option.some.inj hux).symm
    have e2 : uy = u2 := by
      have : its2.toArray[i]? = some u2 := by simpa using hu2
      rw [this] at huy; exact (Option.some.inj huy).symm
    subst e1 e2
    have new : ObjOk X.prog X.w (upd H T (.tup [x, y])) h' T (.tup [x, y]) :=
      ⟨by show 2 ≤ sizeLine; decide, [ux, uy], .cons ru (.cons ru2 .nil), hTup⟩
    have I1 : Inv X pins σ (upd H T (.tup [x, y])) { s with heap := h', toks := tk } :=
      I.turnedNew (ch := [z, TO, i1, i2]) (fun c o hb q => hk c o (fun q' => hb q') q) (fun c hcm => hf c (by simp only [List.mem_cons, List.not_mem_nil, or_false] at hcm ⊢; rcases hcm with q | q | q | q <;> simp [q])) hT new
    refine ⟨.ref T, _, I1, rfl, ⟨T, x, y, rfl, I.hok.fresh hT, rfl, fun l hl => by rw [S.inj X pins σ H s a l xs hK I hl hqx]; exact hx, fun l hl => by rw [S2.inj X pins σ H s b l ys hK I hl hqy]; exact hy⟩, ⟨hz', hTI', hTO', h1', h2'⟩, fun c hcm => ?_⟩
    have hlt : c < s.heap.objs.size := by
      have e' : c = z ∨ c = TI ∨ c = TO ∨ c = i1 ∨ c = i2 := by simpa using hcm
      rcases e' with q | q | q | q | q
      · rw [q]; exact Heap.lt_size hz
      · rw [q]; exact Heap.lt_size hTI
      · rw [q]; exact Heap.lt_size hTO
      · rw [q]; obtain ⟨o, e1, _⟩ := S.obj _ _ _ _ h1; exact Heap.lt_size e1
      · rw [q]; obtain ⟨o, e2, _⟩ := S2.obj _ _ _ _ h2; exact Heap.lt_size e2
    rw [upd_ne (Nat.ne_of_lt (Nat.lt_of_lt_of_le hlt hT))]
    exact (hf c hcm).1
  done := by
    intro X hP hw hK hc i pins s σ H E I hf st hg
    obtain ⟨hz, hTI, ⟨x0, y0, hTO⟩, h1, h2⟩ := st
    obtain ⟨xs, ys, hqx, hqy, hend⟩ := hg
    obtain ⟨its, rv, p, _⟩ := S.inv X pins σ H s a xs hP hw hK I hqx
    obtain ⟨its2, rv2, p2, _⟩ := S2.inv X pins σ H s b ys hP hw hK I hqy
    have l1 := rv.length
    have l2 := rv2.length
    have hh : X.A.in1.handled = none := I.ok.hd hc
    have Gn := GoesN.zip2 (elts := elts) (x1 := kk) (pos := tpos) Z (S.draws X.A.in1 i1 a its.toArray hh n1) (S2.draws X.A.in1 i2 b its2.toArray hh n2)
    have ei : i = min its.toArray.size its2.toArray.size := by simp; omega
    subst ei
    exact Gn.stops s (fun s1 => Inv X pins σ H s1) E ⟨hz, hTI, ⟨x0, y0, hTO⟩, ⟨h1, p⟩, ⟨h2, p2⟩⟩ fun h' tk hk htk => I.turnedL (ch := [z, TO, i1, i2]) (fun c o hb q => hk c o hb q) (fun c hcm => hf c (by simp only [List.mem_cons, List.not_mem_nil, or_false] at hcm ⊢; rcases hcm with q | q | q | q <;> simp [q]))
  self := fun A i s Q E st h => wpAny_pyIter_zip st.1 h
theorem zip_go {X : Cx} {Sq Sq2 : Hp → Addr → List V → Prop} {IsIt IsIt2 : Heap → Addr → Addr → Nat → Prop} {IsSq IsSq2 : Heap → Addr → Array Value → Prop} {io io2 : Addr → Obj} (S : SeqK X.prog X.w X.K Sq IsIt IsSq io) (S2 : SeqK X.prog X.w X.K Sq2 IsIt2 IsSq2 io2)
    {pins : List (Addr × Obj)} {σ : L2.St} {H1 : Hp} {s1 : Shared} {a b : Addr} {xs ys : List V} {R : It → Hp → Prop} {elts : List Expr} {kk : Nat} {tpos : Pos}
    (I1 : Inv X pins σ H1 s1) (hq : Sq H1 a xs) (hq2 : Sq2 H1 b ys) (q : R (ItzK Sq Sq2 a b) H1) : wpAny (model X.prog X.w) X.A (call (.type "zip") [.ref a, .ref b]) (fun v s2 => wpAny (model X.prog X.w) X.A (pyIter v) (PIE X pins σ (.Tuple elts kk tpos) R) X.xe s2) X.xe s1 := by
  obtain ⟨its, rv, p, hz⟩ := S.inv X pins σ H1 s1 a xs rfl rfl rfl I1 hq
  obtain ⟨its2, rv2, p2, hz2⟩ := S2.inv X pins σ H1 s1 b ys rfl rfl rfl I1 hq2
  refine zip_begins2 (S.beg a its.toArray) (S2.beg b its2.toArray) p p2 fun h' hzz hTI hTO h1 h2 hsz hk => wpAny_pyIter_zip hzz ?_
  have I2 : Inv X pins σ H1 { s1 with heap := h' } := I1.kept (t' := s1.toks) hk
  have Z : ZipSep2 (s1.heap.objs.size + 4) (s1.heap.objs.size + 2) (s1.heap.objs.size + 3) s1.heap.objs.size (s1.heap.objs.size + 1) [s1.heap.objs.size, a] [s1.heap.objs.size + 1, b] := zip_sep2 (fp1 := [a]) (fp2 := [b]) (by simpa using hz) (by simpa using hz2)
  refine ⟨s1.heap.objs.size + 4, [s1.heap.objs.size + 4, s1.heap.objs.size + 2, s1.heap.objs.size + 3, s1.heap.objs.size, s1.heap.objs.size + 1], _, _, H1, rfl, I2, turn_zipK S S2 Z (Nat.ne_of_lt hz) (Nat.ne_of_lt (Nat.lt_succ_of_lt hz2)), ⟨hzz, hTI, ⟨_, _, hTO⟩, S.it0 _ _ _ h1, S2.it0 _ _ _ h2⟩, fun c hcm => ?_, q⟩
  have e' : c = s1.heap.objs.size + 4 ∨ c = s1.heap.objs.size + 2 ∨ c = s1.heap.objs.size + 3 ∨ c = s1.heap.objs.size ∨ c = s1.heap.objs.size + 1 := by simpa using hcm
  have hle : s1.heap.objs.size ≤ c := by
    rcases e' with z | z | z | z | z
    · rw [z]; exact Nat.le_add_right _ _
    · rw [z]; exact Nat.le_add_right _ _
    · rw [z]; exact Nat.le_add_right _ _
    · rw [z]; exact Nat.le_refl _
    · rw [z]; exact Nat.le_add_right _ _
  exact I1.fpOk hle (I1.hok.fresh hle)
/-- zip of two, each a list or a tuple -/
def iZipK (K : PySem.W.Frag) (ta : TA) : TI := fun σ H R => ta σ H fun vs H1 => ∃ a b, vs = [.ref a, .ref b] ∧ ((∃ xs ys, SqL K H1 a xs ∧ SqL K H1 b ys ∧ R (ItzK (SqL K) (SqL K) a b) H1) ∨ (∃ xs ys, SqL K H1 a xs ∧ SqT K H1 b ys ∧ R (ItzK (SqL K) (SqT K) a b) H1) ∨
  (∃ xs ys, SqT K H1 a xs ∧ SqL K H1 b ys ∧ R (ItzK (SqT K) (SqL K) a b) H1) ∨ (∃ xs ys, SqT K H1 a xs ∧ SqT K H1 b ys ∧ R (ItzK (SqT K) (SqT K) a b) H1))
theorem pi_zipK {X : Cx} {e e2 : Expr} {ta : TA} {p pos tpos : Pos} {elts : List Expr} {kk : Nat} (hg : Gl X "zip") (hm : X.mg "zip" = none) (ha : PA X [e, e2] ta)
    (hs : starEach [e, e2] X.env = (false, eval e X.env) :: starEach [e2] X.env := by rfl) (hpl : (backTo pos (starEach [e2] X.env)).any (·.1) = false := by rfl) :
    PI X (.Tuple elts kk tpos) (.Call (.Name "zip" p) [e, e2] [] pos) (iZipK X.K ta) := by
  refine ⟨fun pins s σ H R I h => ?_⟩
  refine Call_ (ld_blt I hg hm PyProof.Rows.boot_zip (PyProof.Rows.callWith_type1 (thn (ha.run pos pins s σ H _ I h) fun us s1 ⟨vs, H1, I1, r1, q1⟩ => ?_) hs hpl))
  obtain ⟨a, b, ex, q1⟩ := q1
  subst ex
  cases r1 with
  | cons r rr =>
    cases rr with
    | cons r' rr =>
      cases rr
      cases r
      cases r'
      rcases q1 with ⟨xs, ys, h1, h2, q⟩ | ⟨xs, ys, h1, h2, q⟩ | ⟨xs, ys, h1, h2, q⟩ | ⟨xs, ys, h1, h2, q⟩
      · exact zip_go (seqK_list ..) (seqK_list ..) I1 h1 h2 q
      · exact zip_go (seqK_list ..) (seqK_tup ..) I1 h1 h2 q
      · exact zip_go (seqK_tup ..) (seqK_list ..) I1 h1 h2 q
      · exact zip_go (seqK_tup ..) (seqK_tup ..) I1 h1 h2 q
end MR

namespace MR
open PySem PySem.Spec PyProof.Rows L2

/-- what a value is walked as -/
def srcOf (d : D) (h : Hh) : Option Src := match d with
  | .tup ds => some ⟨ds, none⟩
  | .lst ds => some ⟨ds, none⟩
  | .scr ns => some ⟨ns.map D.int, none⟩
  | .ref i => match h[i]? with
    | some (.lst ds) => some ⟨ds, some (i, ds)⟩
    | _ => none
  | .str x => if x.cps.size ≤ sizeLine then some ⟨x.cps.toList.map fun c => .str ⟨#[c]⟩, none⟩ else none
  | _ => none
/-- a list or a tuple as it is read -/
def seqOf (d : D) (h : Hh) : Option Src := match d with
  | .str _ => none
  | d => srcOf d h

section
variable {G : Gm} {rho : Rm} {H : Hp} {hh : Hh}
/-- a sequence at an address, as long as it is as it was -/
def SeqAt (G : Gm) (rho1 : Rm) (H1 : Hp) (src : Src) (a : Addr) (Sq : Hp → Addr → List V → Prop) : Prop :=
  src.items.length ≤ sizeLine ∧ ∀ rho hh H, Step rho1 H1 rho H → Rep G rho hh H → gOk src.live hh → ∃ vs, Sq H a vs ∧ Dens G rho H src.items vs
theorem SeqAt.here {src : Src} {a : Addr} {Sq : Hp → Addr → List V → Prop} (x : SeqAt G rho H src a Sq) (R : Rep G rho hh H) (g : gOk src.live hh) : ∃ vs, Sq H a vs ∧ Dens G rho H src.items vs := x.2 rho hh H .refl R g
theorem srcOf_live {d : D} {src : Src} (h : srcOf d hh = some src) : gOk src.live hh := by
  intro i ds e
  cases d with
  | wtp ds => cases h
  | tup ds => cases h; cases e
  | lst ds => cases h; cases e
  | scr ns => cases h; cases e
  | ref j =>
    have h : (match hh[j]? with
      | some (O.lst ds) => some (⟨ds, some (j, ds)⟩ : Src)
      | _ => none) = some src := h
    split at h
    · rename_i ds2 e2
      cases h
      cases e
      exact e2
    · cases h
  | str x =>
    have h : (if x.cps.size ≤ sizeLine then some (⟨x.cps.toList.map fun c => .str ⟨#[c]⟩, none⟩ : Src) else none) = some src := h
    split at h
    · cases h; cases e
    · cases h
  | non => cases h
  | bl b => cases h
  | int i => cases h
  | glb u => cases h
  | dct u w => cases h
theorem seqOf_srcOf {d : D} {src : Src} (h : seqOf d hh = some src) : srcOf d hh = some src := by
  cases d <;> first | exact h | cases h
theorem dens_ints (ns : List Int) : Dens G rho H (ns.map D.int) (ns.map V.int) := by
  induction ns with
  | nil => rfl
  | cons n ns ih => exact ⟨.int n, ns.map V.int, rfl, rfl, ih⟩
theorem seqAt_of {d : D} {v : V} {src : Src} (R : Rep G rho hh H) (q : Den G rho H d v) (h : seqOf d hh = some src) : ∃ a, v = .ref a ∧ (SeqAt G rho H src a (SqL G.K) ∨ SeqAt G rho H src a (SqT G.K)) := by
  cases d with
  | tup ds =>
    cases h
    rw [Den] at q
    obtain ⟨a, vs, rfl, hs, l, q⟩ := q
    have e := q.length
    exact ⟨a, rfl, .inr ⟨by show ds.length ≤ sizeLine; omega, fun rho2 hh2 H2 S R2 _ => ⟨vs, sqT_step R S hs.t, Dens.step R S _ _ q⟩⟩⟩
  | wtp ds => cases h
  | lst ds =>
    cases h
    rw [Den] at q
    obtain ⟨a, vs, rfl, hs, n, n2, l, q⟩ := q
    have e := q.length
    exact ⟨a, rfl, .inl ⟨by show ds.length ≤ sizeLine; omega, fun rho2 hh2 H2 S R2 _ => ⟨vs, .inl (.inl (S.keep a _ hs n)), Dens.step R S _ _ q⟩⟩⟩
  | scr ns =>
    cases h
    have q0 := q
    rw [Den] at q
    obtain ⟨a, rfl, hs, l⟩ := q
    refine ⟨a, rfl, .inl ⟨by simpa using l, fun rho2 hh2 H2 S R2 _ => ⟨ns.map V.int, ?_, ?_⟩⟩⟩
    · have q2 := Den.step R S _ _ q0
      rw [Den] at q2
      obtain ⟨a2, e2, hs2, _⟩ := q2
      cases e2
      rcases hs2 with ⟨o, hs2⟩ | hs2
      · exact .inl (.inr ⟨o, hs2⟩)
      · exact .inr hs2
    · exact dens_ints ns
  | ref i =>
    have h : (match hh[i]? with
      | some (O.lst ds) => some (⟨ds, some (i, ds)⟩ : Src)
      | _ => none) = some src := h
    split at h
    · rename_i ds e
      cases h
      rw [Den] at q
      obtain ⟨a, e1, rfl⟩ := q
      obtain ⟨vs, e2, l, q⟩ := R.ob i a _ e1 e
      have el := q.length
      refine ⟨a, rfl, .inl ⟨by show ds.length ≤ sizeLine; omega, fun rho2 hh2 H2 S R2 g => ?_⟩⟩
      obtain ⟨vs2, e3, l2, q2⟩ := R2.ob i a _ (S.get e1) (g i ds rfl)
      exact ⟨vs2, SqL.of e3, q2⟩
    · cases h
  | non => cases h
  | bl b => cases h
  | int i => cases h
  | str x => cases h
  | glb u => cases h
  | dct u w => cases h
theorem walkD_seq {src : Src} {a : Addr} {Sq : Hp → Addr → List V → Prop} {J : It} (x : SeqAt G rho H src a Sq) (hw : ∀ xs, Walk J xs.length (fun H => Sq H a xs) (YAt xs)) : WalkD G rho H src J := by
  refine ⟨x.1, fun rho2 hh2 H2 S R2 g => ?_⟩
  obtain ⟨vs, hs, q⟩ := x.2 rho2 hh2 H2 S R2 g
  have w := hw vs
  have e := q.length
  refine ⟨fun i hi => w.goes i H2 (by omega) hs, by rw [e]; exact w.stops H2 hs, fun i d y H' hd hy => ?_⟩
  have hi : i < vs.length := by have := (List.getElem?_eq_some_iff.mp hd).1; omega
  obtain ⟨e1, e2⟩ := w.yields i H2 y H' hi hs hy
  subst e1
  obtain ⟨v, e3, q3⟩ := q.get hd
  rw [e3] at e2; cases e2
  exact ⟨.refl, R2, q3⟩
end

def iSeq (K : PySem.W.Frag) (tl : TE) : TI := fun σ H R => tl σ H fun x H1 => (∃ a, x = .ref a ∧ ((∃ xs, SqL K H1 a xs) ∧ R (Itl K a) H1 ∨ (∃ xs, SqT K H1 a xs) ∧ R (Itt K a) H1)) ∨ ∃ z, x = .str z ∧ R (Its z) H1
section
variable {X : Cx} {tg : Expr}
theorem pi_seq {l : Expr} {tl : TE} (hl : PE X l tl) : PI X tg l (iSeq X.K tl) := by
  refine ⟨fun pins s σ H R I h => ?_⟩
  refine thn (hl.run pins s σ H _ I h) fun v s1 ⟨x, H1, I1, r1, q1⟩ => ?_
  rcases q1 with ⟨a, e, q1⟩ | ⟨z, e, q1⟩
  · subst e
    cases r1
    rcases q1 with ⟨⟨xs, hq⟩, q⟩ | ⟨⟨xs, hq⟩, q⟩
    · obtain ⟨its, rv, p, hz⟩ := I1.list hq
      refine wpAny_pyIter_list p.isList ?_
      refine ⟨s1.heap.objs.size, [s1.heap.objs.size], _, _, H1, rfl, I1.kept (t' := s1.toks) fun b o e => Heap.get?_push_of_some _ e, turn_list a _, ⟨_, Heap.get?_push_size _ rfl, rfl, rfl⟩, fun b hb => ?_, q⟩
      have e : b = s1.heap.objs.size := by simpa using hb
      subst e
      exact I1.fpOk (Nat.le_refl _) (I1.hok.fresh (Nat.le_refl _))
    · obtain ⟨its, rv, p, hz⟩ := I1.tuple hq
      refine wpAny_pyIter_tuple (show s1.heap.IsTuple a its.toArray from p) ?_
      refine ⟨s1.heap.objs.size, [s1.heap.objs.size], _, _, H1, rfl, I1.kept (t' := s1.toks) fun b o e => Heap.get?_push_of_some _ e, turn_tuple a _, ⟨_, Heap.get?_push_size _ rfl, rfl, rfl⟩, fun b hb => ?_, q⟩
      have e : b = s1.heap.objs.size := by simpa using hb
      subst e
      exact I1.fpOk (Nat.le_refl _) (I1.hok.fresh (Nat.le_refl _))
  · subst e
    obtain ⟨t, rfl⟩ := r1
    cases ha : z.cps.all (· < 128)
    · exact wpAny_pyIter_wide ha (pi_one (tk := s1.toks) I1 _ (turn_str _ z t "str_iterator" (.inr rfl)) ⟨_, Heap.get?_push_size _ rfl, rfl, rfl⟩ q1)
    · exact wpAny_pyIter_ascii ha (pi_one (tk := s1.toks) I1 _ (turn_str _ z t "str_ascii_iterator" (.inl rfl)) ⟨_, Heap.get?_push_size _ rfl, rfl, rfl⟩ q1)
def iOf (m : ME) : MI := fun env h => (m env h).bind fun d h1 => lift (srcOf d h1) h1
theorem di_seq {l : Expr} {m : ME} (h : DE X l m) : DI X tg l (iOf m) :=
  ⟨fun W tk => pi_weak (pi_seq (h.run W tk)) fun σ H R q => tE_of (Rl := WalkD (Cx.gm X)) q fun rho env hh H1 d v Rp E qd p => by
    obtain ⟨src, es, pp⟩ := lift_post p
    clear p
    cases d with
    | str x =>
      have es : (if x.cps.size ≤ sizeLine then some (⟨x.cps.toList.map fun c => .str ⟨#[c]⟩, none⟩ : Src) else none) = some src := es
      split at es
      · rename_i hx
        cases es
        refine .inr ⟨x, qd, pp rho H1 _ .refl Rp ⟨by simpa using hx, fun rho2 hh2 H2 S R2 _ => ?_⟩⟩
        have w := walk_str (z := x)
        refine ⟨fun i hi => w.goes i H2 (by simpa using hi) True.intro, by simpa using w.stops H2 True.intro, fun i d y H' hd hy => ?_⟩
        have hi : i < x.cps.size := by have := (List.getElem?_eq_some_iff.mp hd).1; simpa using this
        obtain ⟨e1, c, ec, e2⟩ := w.yields i H2 y H' hi True.intro hy
        subst e1
        have ed : d = .str ⟨#[c]⟩ := by
          simp only [List.getElem?_map] at hd
          have : x.cps.toList[i]? = some c := by simpa using ec
          rw [this] at hd; exact (Option.some.inj hd).symm
        subst ed
        exact ⟨.refl, R2, e2⟩
      · cases es
    | tup ds =>
      obtain ⟨a, rfl, sq⟩ := seqAt_of Rp qd (src := src) es
      refine .inl ⟨a, rfl, ?_⟩
      rcases sq with sq | sq
      · obtain ⟨vs, h1, _⟩ := sq.here Rp (srcOf_live es)
        exact .inl ⟨⟨vs, h1⟩, pp rho H1 _ .refl Rp (walkD_seq sq fun xs => walk_list)⟩
      · obtain ⟨vs, h1, _⟩ := sq.here Rp (srcOf_live es)
        exact .inr ⟨⟨vs, h1⟩, pp rho H1 _ .refl Rp (walkD_seq sq fun xs => walk_tup)⟩
    | lst ds =>
      obtain ⟨a, rfl, sq⟩ := seqAt_of Rp qd (src := src) es
      refine .inl ⟨a, rfl, ?_⟩
      rcases sq with sq | sq
      · obtain ⟨vs, h1, _⟩ := sq.here Rp (srcOf_live es)
        exact .inl ⟨⟨vs, h1⟩, pp rho H1 _ .refl Rp (walkD_seq sq fun xs => walk_list)⟩
      · obtain ⟨vs, h1, _⟩ := sq.here Rp (srcOf_live es)
        exact .inr ⟨⟨vs, h1⟩, pp rho H1 _ .refl Rp (walkD_seq sq fun xs => walk_tup)⟩
    | scr ds =>
      obtain ⟨a, rfl, sq⟩ := seqAt_of Rp qd (src := src) es
      refine .inl ⟨a, rfl, ?_⟩
      rcases sq with sq | sq
      · obtain ⟨vs, h1, _⟩ := sq.here Rp (srcOf_live es)
        exact .inl ⟨⟨vs, h1⟩, pp rho H1 _ .refl Rp (walkD_seq sq fun xs => walk_list)⟩
      · obtain ⟨vs, h1, _⟩ := sq.here Rp (srcOf_live es)
        exact .inr ⟨⟨vs, h1⟩, pp rho H1 _ .refl Rp (walkD_seq sq fun xs => walk_tup)⟩
    | ref i =>
      obtain ⟨a, rfl, sq⟩ := seqAt_of Rp qd (src := src) es
      refine .inl ⟨a, rfl, ?_⟩
      rcases sq with sq | sq
      · obtain ⟨vs, h1, _⟩ := sq.here Rp (srcOf_live es)
        exact .inl ⟨⟨vs, h1⟩, pp rho H1 _ .refl Rp (walkD_seq sq fun xs => walk_list)⟩
      · obtain ⟨vs, h1, _⟩ := sq.here Rp (srcOf_live es)
        exact .inr ⟨⟨vs, h1⟩, pp rho H1 _ .refl Rp (walkD_seq sq fun xs => walk_tup)⟩
    | wtp ds => cases es
    | non => cases es
    | bl b => cases es
    | int i => cases es
    | glb u => cases es
    | dct u w => cases es⟩

def rangeD (lo hi : Int) : List D := (List.range (hi - lo).toNat).map fun i : Nat => D.int (lo + (i : Int))
def rng1 (ds : List D) (_ : Hh) : Option Src := match ds with
  | [.int j] => if -1000000 ≤ j ∧ j ≤ 1000000 then some ⟨rangeD 0 j, none⟩ else none
  | _ => none
def rng2 (ds : List D) (_ : Hh) : Option Src := match ds with
  | [.int i, .int j] => if (-1000000 ≤ i ∧ i ≤ 1000000) ∧ -1000000 ≤ j ∧ j ≤ 1000000 then some ⟨rangeD i j, none⟩ else none
  | _ => none
def iA (f : List D → Hh → Option Src) (ms : MA) : MI := fun env h => (ms env h).bind fun ds h1 => lift (f ds h1) h1
theorem walkD_range {G : Gm} {rho : Rm} {H : Hp} {lo : Int} {n : Nat} {hi : Int} (hn : n = (hi - lo).toNat) (hz : n ≤ sizeLine) : WalkD G rho H ⟨rangeD lo hi, none⟩ (Itr lo n) := by
  subst hn
  refine ⟨by simpa [rangeD] using hz, fun rho2 hh2 H2 S R2 _ => ?_⟩
  have w := walk_range (lo := lo) (n := (hi - lo).toNat)
  refine ⟨fun i h => w.goes i H2 (by simpa [rangeD] using h) True.intro, by simpa [rangeD] using w.stops H2 True.intro, fun i d y H' hd hy => ?_⟩
  have hi : i < (hi - lo).toNat := by have := (List.getElem?_eq_some_iff.mp hd).1; simpa [rangeD] using this
  obtain ⟨e1, e2⟩ := w.yields i H2 y H' hi True.intro hy
  subst e1 e2
  have ed : d = .int (lo + i) := by
    unfold rangeD at hd
    rw [List.getElem?_map, List.getElem?_range hi] at hd
    exact (Option.some.inj hd).symm
  subst ed
  exact ⟨.refl, R2, rfl⟩
theorem di_range1 {a : Expr} {ms : MA} {p pos : Pos} (hg : Gl X "range") (hm : X.mg "range" = none) (ha : DA X [a] ms) (hs : starEach [a] X.env = [(false, eval a X.env)] := by rfl) : DI X tg (.Call (.Name "range" p) [a] [] pos) (iA rng1 ms) :=
  ⟨fun W tk => pi_weak (pi_range1 hg hm (ha.run W tk) hs) fun σ H R q => tA_of (Rl := WalkD (Cx.gm X)) q fun rho env hh H1 ds vs Rp E qd p => by
    obtain ⟨src, es, p⟩ := lift_post p
    unfold rng1 at es
    split at es
    · rename_i j
      split at es
      · rename_i hj
        cases es
        rw [Dens] at qd
        obtain ⟨v, r, rfl, hv, hr⟩ := qd
        rw [Dens] at hr
        subst hr
        exact ⟨j, by rw [show v = .int j from hv], by omega, by omega, p rho H1 _ .refl Rp (walkD_range (by simp) (by rw [sizeLine_eq]; omega))⟩
      · cases es
    · cases es⟩
def zipD (xs ys : List D) : List D := (xs.zip ys).map fun p => D.wtp [p.1, p.2]
def joinL (a b : Option (Nat × List D)) : Option (Option (Nat × List D)) := match a, b with
  | none, b => some b
  | a, none => some a
  | some _, some _ => none
def zp (ds : List D) (h : Hh) : Option Src := match ds with
  | [d, e] => match seqOf d h, seqOf e h with
    | some s1, some s2 => (joinL s1.live s2.live).map fun l => ⟨zipD s1.items s2.items, l⟩
    | _, _ => none
  | _ => none
theorem joinL_ok {a b l : Option (Nat × List D)} {h : Hh} (e : joinL a b = some l) (g : gOk l h) : gOk a h ∧ gOk b h := by
  unfold joinL at e
  split at e
  · cases e; exact ⟨gOk_none, g⟩
  · cases e; exact ⟨g, gOk_none⟩
  · cases e
theorem walkD_zip {G : Gm} {rho : Rm} {H : Hp} {s1 s2 : Src} {a b : Addr} {Sq Sq2 : Hp → Addr → List V → Prop} {l : Option (Nat × List D)} (hl : joinL s1.live s2.live = some l) (x : SeqAt G rho H s1 a Sq) (x2 : SeqAt G rho H s2 b Sq2) : WalkD G rho H ⟨zipD s1.items s2.items, l⟩ (ItzK Sq Sq2 a b) := by
  refine ⟨by have := x.1; simp [zipD]; omega, fun rho2 hh2 H2 S R2 g => ?_⟩
  obtain ⟨g1, g2⟩ := joinL_ok hl g
  obtain ⟨vs, hs, q⟩ := x.2 rho2 hh2 H2 S R2 g1
  obtain ⟨ws, hs2, q2⟩ := x2.2 rho2 hh2 H2 S R2 g2
  have e := q.length
  have e2 := q2.length
  refine ⟨fun i hi => ?_, ⟨vs, ws, hs, hs2, by simp [zipD, e, e2]⟩, fun i d y H' hd hy => ?_⟩
  · have hi' : i < vs.length ∧ i < ws.length := by simp [zipD, e, e2] at hi; omega
    exact ⟨vs, ws, vs[i]'hi'.1, ws[i]'hi'.2, hs, hs2, List.getElem?_eq_getElem hi'.1, List.getElem?_eq_getElem hi'.2⟩
  · obtain ⟨T, v, w, rfl, hT, rfl, hv, hw⟩ := hy
    have hi : i < s1.items.length ∧ i < s2.items.length := by have := (List.getElem?_eq_some_iff.mp hd).1; simp [zipD] at this; omega
    have ed : d = .wtp [s1.items[i]'hi.1, s2.items[i]'hi.2] := by
      unfold zipD at hd
      have hz : (s1.items.zip s2.items)[i]? = some (s1.items[i]'hi.1, s2.items[i]'hi.2) := by
        rw [List.getElem?_zip_eq_some]
        exact ⟨List.getElem?_eq_getElem hi.1, List.getElem?_eq_getElem hi.2⟩
      rw [List.getElem?_map, hz] at hd
      simpa using (Option.some.inj hd).symm
    subst ed
    obtain ⟨v2, e3, q3⟩ := q.get (List.getElem?_eq_getElem hi.1)
    obtain ⟨w2, e4, q4⟩ := q2.get (List.getElem?_eq_getElem hi.2)
    rw [hv vs hs] at e3; cases e3
    rw [hw ws hs2] at e4; cases e4
    exact ⟨.laid hT, R2.laid hT, Den.wtp_new R2 ⟨v, [w], rfl, q3, w, [], rfl, q4, rfl⟩ (by show 2 ≤ sizeLine; decide) hT⟩
theorem di_zip {e e2 : Expr} {ms : MA} {p pos tpos : Pos} {elts : List Expr} {kk : Nat} (hg : Gl X "zip") (hm : X.mg "zip" = none) (ha : DA X [e, e2] ms)
    (hs : starEach [e, e2] X.env = (false, eval e X.env) :: starEach [e2] X.env := by rfl) (hpl : (backTo pos (starEach [e2] X.env)).any (·.1) = false := by rfl) :
    DI X (.Tuple elts kk tpos) (.Call (.Name "zip" p) [e, e2] [] pos) (iA zp ms) :=
  ⟨fun W tk => pi_weak (pi_zipK hg hm (ha.run W tk) hs hpl) fun σ H R q => tA_of (Rl := WalkD (Cx.gm X)) q fun rho env hh H1 ds vs Rp E qd p => by
    obtain ⟨src, es, p⟩ := lift_post p
    unfold zp at es
    split at es
    · rename_i d d2
      split at es
      · rename_i s1 s2 e1 e2
        obtain ⟨l, e0, e3⟩ := Option.map_eq_some_iff.mp es
        subst e3
        simp only [Dens] at qd
        obtain ⟨v, r, rfl, hv, v2, r2, rfl, hv2, rfl⟩ := qd
        obtain ⟨a, rfl, sq⟩ := seqAt_of Rp hv e1
        obtain ⟨b, rfl, sq2⟩ := seqAt_of Rp hv2 e2
        have lv := srcOf_live (seqOf_srcOf e1)
        have lv2 := srcOf_live (seqOf_srcOf e2)
        refine ⟨a, b, rfl, ?_⟩
        rcases sq with sq | sq <;> rcases sq2 with sq2 | sq2 <;> obtain ⟨xs, h1, _⟩ := sq.here Rp lv <;> obtain ⟨ys, h2, _⟩ := sq2.here Rp lv2
        · exact .inl ⟨xs, ys, h1, h2, p rho H1 _ .refl Rp (walkD_zip e0 sq sq2)⟩
        · exact .inr (.inl ⟨xs, ys, h1, h2, p rho H1 _ .refl Rp (walkD_zip e0 sq sq2)⟩)
        · exact .inr (.inr (.inl ⟨xs, ys, h1, h2, p rho H1 _ .refl Rp (walkD_zip e0 sq sq2)⟩))
        · exact .inr (.inr (.inr ⟨xs, ys, h1, h2, p rho H1 _ .refl Rp (walkD_zip e0 sq sq2)⟩))
      · cases es
    · cases es⟩
end
end MR

namespace MR
open PySem PySem.Spec PyProof.Rows L2

theorem OpR.imp {X : Cx} {f : Value → Value → Sem Value} {r r' : R2} (h : OpR X f r) (i : ∀ x y H Q, r' x y H Q → r x y H Q) : OpR X f r' := fun pins s σ H x y v u Q I rx ry q => h pins s σ H x y v u Q I rx ry (i x y H Q q)
theorem CallR.or {X : Cx} {f : Value} {r r' : List V → Hp → VK → Prop} (h : CallR X f r) (h' : CallR X f r') : CallR X f (fun xs H Q => r xs H Q ∨ r' xs H Q) := fun pins s σ H xs us Q I rx q => by
  rcases q with q | q
  · exact h pins s σ H xs us Q I rx q
  · exact h' pins s σ H xs us Q I rx q

mutual
def toPy : D → Option PyData
  | .non => some PyData.none
  | .bl b => some (PyData.bool b)
  | .int i => some (PyData.int i)
  | .str x => some (PyData.str x)
  | .tup ds => (toPys ds).map PyData.tuple
  | .lst ds => (toPys ds).map PyData.list
  | .ref _ => none
  | .glb _ => none
  | .scr _ => none
  | .wtp _ => none
  | .dct _ _ => none
def toPys : List D → Option (List PyData)
  | [] => some []
  | d :: ds => match toPy d, toPys ds with
    | some p, some ps => some (p :: ps)
    | _, _ => none
end
def deref (d : D) (h : Hh) : D := match d with
  | .ref i => match h[i]? with
    | some (.lst ds) => .lst ds
    | _ => .ref i
  | d => d
def pyOf (d : D) (h : Hh) : Option PyData := match toPy (deref d h) with
  | some p => if SeqAt.shaped p = true then some p else none
  | none => none
section
variable {G : Gm} {rho : Rm} {H : Hp} {hh : Hh}
mutual
theorem dp_of : ∀ (d : D) (v : V) (p : PyData), Den G rho H d v → toPy d = some p → Dp G.K H v p
  | .non, v, p, h, e => by cases e; rw [show v = .non from h]; exact .non
  | .bl b, v, p, h, e => by cases e; rw [show v = .bl b from h]; exact .bl b
  | .int i, v, p, h, e => by cases e; rw [show v = .int i from h]; exact .int i
  | .str x, v, p, h, e => by cases e; rw [show v = .str x from h]; exact .str x
  | .tup ds, v, p, h, e => by
    rw [Den] at h
    obtain ⟨a, vs, rfl, q, l, ds'⟩ := h
    rw [toPy] at e
    obtain ⟨ps, e1, rfl⟩ := Option.map_eq_some_iff.mp e
    exact .tup q.t (dps_of ds vs ps ds' e1)
  | .wtp ds, v, p, h, e => by rw [toPy] at e; cases e
  | .lst ds, v, p, h, e => by
    rw [Den] at h
    obtain ⟨a, vs, rfl, q, _, _, l, ds'⟩ := h
    rw [toPy] at e
    obtain ⟨ps, e1, rfl⟩ := Option.map_eq_some_iff.mp e
    exact .lst (SqL.of q) (dps_of ds vs ps ds' e1)
  | .ref i, v, p, h, e => by rw [toPy] at e; cases e
  | .glb i, v, p, h, e => by rw [toPy] at e; cases e
  | .scr i, v, p, h, e => by rw [toPy] at e; cases e
  | .dct i j, v, p, h, e => by rw [toPy] at e; cases e
theorem dps_of : ∀ (ds : List D) (vs : List V) (ps : List PyData), Dens G rho H ds vs → toPys ds = some ps → DpAll G.K H vs ps
  | [], vs, ps, h, e => by
    rw [Dens] at h; subst h
    rw [toPys] at e; cases e
    exact .nil
  | d :: ds, vs, ps, h, e => by
    rw [Dens] at h
    obtain ⟨v, r, rfl, a, b⟩ := h
    rw [toPys] at e
    cases e1 : toPy d with
    | none => rw [e1] at e; cases e
    | some p =>
      cases e2 : toPys ds with
      | none => rw [e1, e2] at e; cases e
      | some qs =>
        rw [e1, e2] at e; cases e
        exact .cons (dp_of d v p a e1) (dps_of ds r qs b e2)
end
theorem dp_deref {d : D} {v : V} {p : PyData} (R : Rep G rho hh H) (h : Den G rho H d v) (e : toPy (deref d hh) = some p) : Dp G.K H v p := by
  cases d with
  | ref i =>
    have e : toPy (match hh[i]? with
      | some (O.lst ds) => D.lst ds
      | _ => D.ref i) = some p := e
    split at e
    · rename_i ds e1
      rw [Den] at h
      obtain ⟨a, e2, rfl⟩ := h
      obtain ⟨vs, e3, l, q⟩ := R.ob i a _ e2 e1
      rw [toPy] at e
      obtain ⟨ps, e4, rfl⟩ := Option.map_eq_some_iff.mp e
      exact .lst (SqL.of e3) (dps_of ds vs ps q e4)
    · rw [toPy] at e; cases e
  | non => exact dp_of _ _ _ h e
  | bl b => exact dp_of _ _ _ h e
  | int b => exact dp_of _ _ _ h e
  | str b => exact dp_of _ _ _ h e
  | tup b => exact dp_of _ _ _ h e
  | lst b => exact dp_of _ _ _ h e
  | glb b => exact dp_of _ _ _ h e
  | scr b => exact dp_of _ _ _ h e
  | wtp b => exact dp_of _ _ _ h e
  | dct b c => exact dp_of _ _ _ h e
theorem pyOf_dp {d : D} {v : V} {p : PyData} (R : Rep G rho hh H) (h : Den G rho H d v) (e : pyOf d hh = some p) : Dp G.K H v p ∧ SeqAt.shaped p = true := by
  unfold pyOf at e
  split at e
  · rename_i q e1
    split at e
    · rename_i hs
      cases e
      exact ⟨dp_deref R h e1, hs⟩
    · cases e
  · cases e
end
def eqO : Op2 := fun a b h => match pyOf a h, pyOf b h with
  | some p, some q => some (.bl (PyData.eqv p q))
  | _, _ => none
def neO : Op2 := fun a b h => match pyOf a h, pyOf b h with
  | some p, some q => some (.bl (!PyData.eqv p q))
  | _, _ => none
section
variable {G : Gm}
theorem rz_eq : Rz2 G (rEqD G.K) eqO := fun rho hh H d1 d2 v1 v2 d Q R q1 q2 e k => by
  unfold eqO at e
  split at e
  · rename_i p q e1 e2
    cases e
    obtain ⟨a, b⟩ := pyOf_dp R q1 e1
    obtain ⟨a2, b2⟩ := pyOf_dp R q2 e2
    exact ⟨p, q, a, a2, b, b2, k _ H .refl R rfl⟩
  · cases e
theorem rz_ne : Rz2 G (rNeD G.K) neO := fun rho hh H d1 d2 v1 v2 d Q R q1 q2 e k => by
  unfold neO at e
  split at e
  · rename_i p q e1 e2
    cases e
    obtain ⟨a, b⟩ := pyOf_dp R q1 e1
    obtain ⟨a2, b2⟩ := pyOf_dp R q2 e2
    exact ⟨p, q, a, a2, b, b2, k _ H .refl R rfl⟩
  · cases e
/-- x in a list or a tuple of data -/
def rInDT (K : PySem.W.Frag) (neg : Bool) : R2 := fun x y H Q => ∃ d ds, Dp K H x d ∧ (Dp K H y (.list ds) ∧ SeqAt.shaped (.list ds) = true ∨ Dp K H y (.tuple ds) ∧ SeqAt.shaped (.tuple ds) = true) ∧ SeqAt.shaped d = true ∧ Q (.bl (if neg then !(ds.any fun z => PyData.eqv z d) else ds.any fun z => PyData.eqv z d)) H
theorem op_inDT {X : Cx} (hu : X.A.units + 65 < cLine) : OpR X (compareOp .In) (rInDT X.K false) := by
  intro pins s σ H x y v u Q I rx ry h
  obtain ⟨d, ds, hd, he, sd, q⟩ := h
  obtain ⟨as, r1⟩ := Dp.reads I d x v hd rx
  rcases he with ⟨he, se⟩ | ⟨he, se⟩
  · obtain ⟨bs, r2⟩ := Dp.reads I (.list ds) y u he ry
    exact SeqAt.in_list_reads r2 r1 (SeqAt.canLay_of_shaped se) (SeqAt.canLay_of_shaped sd) (room_in_shaped sd hu) ⟨.bl _, H, I, rfl, q⟩
  · obtain ⟨bs, r2⟩ := Dp.reads I (.tuple ds) y u he ry
    exact SeqAt.in_tuple_reads r2 r1 (SeqAt.canLay_of_shaped se) (SeqAt.canLay_of_shaped sd) (room_in_shaped sd hu) ⟨.bl _, H, I, rfl, q⟩
theorem op_notInDT {X : Cx} (hu : X.A.units + 65 < cLine) : OpR X (compareOp .NotIn) (rInDT X.K true) := by
  intro pins s σ H x y v u Q I rx ry h
  obtain ⟨d, ds, hd, he, sd, q⟩ := h
  obtain ⟨as, r1⟩ := Dp.reads I d x v hd rx
  rcases he with ⟨he, se⟩ | ⟨he, se⟩
  · obtain ⟨bs, r2⟩ := Dp.reads I (.list ds) y u he ry
    exact SeqAt.notIn_list_reads r2 r1 (SeqAt.canLay_of_shaped se) (SeqAt.canLay_of_shaped sd) (room_in_shaped sd hu) ⟨.bl _, H, I, rfl, q⟩
  · obtain ⟨bs, r2⟩ := Dp.reads I (.tuple ds) y u he ry
    exact SeqAt.notIn_tuple_reads r2 r1 (SeqAt.canLay_of_shaped se) (SeqAt.canLay_of_shaped sd) (room_in_shaped sd hu) ⟨.bl _, H, I, rfl, q⟩
def inO (neg : Bool) : Op2 := fun a b h => match pyOf a h, pyOf b h with
  | some d, some (.list ds) => some (.bl (if neg then !(ds.any fun z => PyData.eqv z d) else ds.any fun z => PyData.eqv z d))
  | some d, some (.tuple ds) => some (.bl (if neg then !(ds.any fun z => PyData.eqv z d) else ds.any fun z => PyData.eqv z d))
  | _, _ => none
theorem rz_in (neg : Bool) : Rz2 G (rInDT G.K neg) (inO neg) := fun rho hh H d1 d2 v1 v2 d Q R q1 q2 e k => by
  unfold inO at e
  split at e
  · rename_i p ds e1 e2
    cases e
    obtain ⟨a, b⟩ := pyOf_dp R q1 e1
    obtain ⟨a2, b2⟩ := pyOf_dp R q2 e2
    exact ⟨p, ds, a, .inl ⟨a2, b2⟩, b, k _ H .refl R rfl⟩
  · rename_i p ds e1 e2
    cases e
    obtain ⟨a, b⟩ := pyOf_dp R q1 e1
    obtain ⟨a2, b2⟩ := pyOf_dp R q2 e2
    exact ⟨p, ds, a, .inr ⟨a2, b2⟩, b, k _ H .refl R rfl⟩
  · cases e

def isNO (neg : Bool) : Op2 := fun a b _ => match b with
  | .non => match a with
    | .non => some (.bl (!neg))
    | .glb _ => none
    | _ => some (.bl neg)
  | _ => none
theorem den_non {rho : Rm} {H : Hp} {d : D} {v : V} (q : Den G rho H d v) (hn : d ≠ .non) (hg : ∀ u, d ≠ .glb u) : v ≠ .non := by
  intro e
  subst e
  cases d with
  | non => exact hn rfl
  | bl b => cases q
  | int b => cases q
  | str b => cases q
  | tup b => rw [Den] at q; obtain ⟨a, vs, e, _⟩ := q; cases e
  | wtp b => rw [Den] at q; obtain ⟨a, vs, e, _⟩ := q; cases e
  | lst b => rw [Den] at q; obtain ⟨a, vs, e, _⟩ := q; cases e
  | ref b => rw [Den] at q; obtain ⟨a, _, e⟩ := q; cases e
  | glb b => exact hg b rfl
  | scr b => rw [Den] at q; obtain ⟨a, e, _⟩ := q; cases e
  | dct b c => rw [Den] at q; obtain ⟨a, xs, es, us, e, _⟩ := q; cases e
theorem rz_isN : Rz2 G (fun x y H Q => y = .non ∧ Q (.bl (decide (x = .non))) H) (isNO false) := fun rho hh H d1 d2 v1 v2 d Q R q1 q2 e k => by
  unfold isNO at e
  split at e
  · refine ⟨q2, ?_⟩
    split at e
    · cases e
      rw [show v1 = .non from q1]
      exact k _ H .refl R rfl
    · cases e
    · rename_i hn hg
      cases e
      rw [decide_eq_false (den_non q1 hn hg)]
      exact k _ H .refl R rfl
  · cases e
theorem rz_notN : Rz2 G (fun x y H Q => y = .non ∧ Q (.bl (!decide (x = .non))) H) (isNO true) := fun rho hh H d1 d2 v1 v2 d Q R q1 q2 e k => by
  unfold isNO at e
  split at e
  · refine ⟨q2, ?_⟩
    split at e
    · cases e
      rw [show v1 = .non from q1]
      exact k _ H .refl R rfl
    · cases e
    · rename_i hn hg
      cases e
      rw [decide_eq_false (den_non q1 hn hg)]
      exact k _ H .refl R rfl
  · cases e

def i2 (g : Int → Int → Option D) : Op2 := fun a b _ => match a, b with
  | .int i, .int j => g i j
  | _, _ => none
theorem rz_i2 {C : Int → Int → Prop} {g : Int → Int → V} {f : Int → Int → Option D} (h : ∀ i j d, f i j = some d → C i j ∧ ∀ rho H, Den G rho H d (g i j)) : Rz2 G (rI C g) (i2 f) := fun rho hh H d1 d2 v1 v2 d Q R q1 q2 e k => by
  unfold i2 at e
  split at e
  · rename_i i j
    obtain ⟨c, z⟩ := h i j d e
    exact ⟨i, j, q1, q2, c, k _ H .refl R (z rho H)⟩
  · cases e
theorem rz_i20 {g : Int → Int → V} {f : Int → Int → Option D} (h : ∀ i j d, f i j = some d → ∀ rho H, Den G rho H d (g i j)) : Rz2 G (rI0 g) (i2 f) := fun rho hh H d1 d2 v1 v2 d Q R q1 q2 e k => by
  unfold i2 at e
  split at e
  · rename_i i j
    exact ⟨i, j, q1, q2, k _ H .refl R (h i j d e rho H)⟩
  · cases e
def subO : Op2 := i2 fun i j => some (.int (i - j))
def ltO : Op2 := i2 fun i j => some (.bl (decide (i < j)))
def leO : Op2 := i2 fun i j => some (.bl (decide (i ≤ j)))
def gtO : Op2 := i2 fun i j => some (.bl (decide (j < i)))
def geO : Op2 := i2 fun i j => some (.bl (decide (j ≤ i)))
def modO : Op2 := i2 fun i j => if 0 < j then some (.int (i % j)) else none
def fdivO : Op2 := i2 fun i j => if 0 < j ∧ j < 1073741824 then some (.int (i / j)) else none
def powO : Op2 := i2 fun i j => if 0 ≤ j ∧ j ≤ 1000000 ∧ i.natAbs < 18446744073709551616 then some (.int (i ^ j.toNat)) else none
theorem rz_sub : Rz2 G (rI0 fun i j => .int (i - j)) subO := rz_i20 fun i j d e => by cases e; intro rho H; rfl
theorem rz_lt : Rz2 G (rI0 fun i j => .bl (decide (i < j))) ltO := rz_i20 fun i j d e => by cases e; intro rho H; rfl
theorem rz_le : Rz2 G (rI0 fun i j => .bl (decide (i ≤ j))) leO := rz_i20 fun i j d e => by cases e; intro rho H; rfl
theorem rz_gt : Rz2 G (rI0 fun i j => .bl (decide (j < i))) gtO := rz_i20 fun i j d e => by cases e; intro rho H; rfl
theorem rz_mod : Rz2 G (rI (fun _ j => 0 < j) fun i j => .int (i % j)) modO := rz_i2 fun i j d e => by
  split at e
  · cases e; exact ⟨by assumption, fun _ _ => rfl⟩
  · cases e
theorem rz_fdiv : Rz2 G (rI CDiv fun i j => .int (i / j)) fdivO := rz_i2 fun i j d e => by
  split at e
  · rename_i h
    cases e; exact ⟨h, fun _ _ => rfl⟩
  · cases e
theorem rz_pow : Rz2 G (rI CPow fun i j => .int (i ^ j.toNat)) powO := rz_i2 fun i j d e => by
  split at e
  · rename_i h
    cases e; exact ⟨⟨h.1, h.2.1, by have := h.2.2; omega⟩, fun _ _ => rfl⟩
  · cases e

def seqL (d : D) (h : Hh) : Option (List D) := match d with
  | .lst ds => some ds
  | .ref i => match h[i]? with
    | some (.lst ds) => some ds
    | _ => none
  | _ => none
theorem seqL_of {rho : Rm} {hh : Hh} {H : Hp} {d : D} {v : V} {ds : List D} (R : Rep G rho hh H) (q : Den G rho H d v) (e : seqL d hh = some ds) : ∃ a vs, v = .ref a ∧ H a = some (.lst vs) ∧ vs.length ≤ sizeLine ∧ Dens G rho H ds vs := by
  cases d with
  | lst es =>
    cases e
    rw [Den] at q
    obtain ⟨a, vs, rfl, h, _, _, l, q⟩ := q
    exact ⟨a, vs, rfl, h, l, q⟩
  | ref i =>
    have e : (match hh[i]? with
      | some (O.lst ds) => some ds
      | _ => none) = some ds := e
    split at e
    · rename_i es e1
      cases e
      rw [Den] at q
      obtain ⟨a, e2, rfl⟩ := q
      obtain ⟨vs, e3, l, q⟩ := R.ob i a _ e2 e1
      exact ⟨a, vs, rfl, e3, l, q⟩
    · cases e
  | non => cases e
  | bl b => cases e
  | int b => cases e
  | str b => cases e
  | tup b => cases e
  | wtp b => cases e
  | glb b => cases e
  | scr b => cases e
  | dct b c => cases e
def addO : Op2 := fun a b h => match a, b with
  | .int i, .int j => some (.int (i + j))
  | .str x, .str y => if x.length + y.length ≤ sizeLine then some (.str (x ++ y)) else none
  | .tup xs, .tup ys => if xs.length + ys.length ≤ sizeLine then some (.tup (xs ++ ys)) else none
  | a, b => match seqL a h, seqL b h with
    | some xs, some ys => if xs.length + ys.length ≤ sizeLine then some (.lst (xs ++ ys)) else none
    | _, _ => none
/-- t + u, what is new known -/
def rCatF (K : PySem.W.Frag) : R2 := fun x y H Q => ∃ a b xs ys, x = .ref a ∧ y = .ref b ∧ SqT K H a xs ∧ SqT K H b ys ∧ xs.length + ys.length ≤ sizeLine ∧
  (xs = [] → Q (.ref b) H) ∧ (xs ≠ [] → ys = [] → Q (.ref a) H) ∧ (xs ≠ [] → ys ≠ [] → NewT H (xs ++ ys) Q)
theorem op_catF {X : Cx} : OpR X (binaryOp .Add) (rCatF X.K) := by
  intro pins s σ H x y v u Q I rx ry h
  obtain ⟨a, b, xs, ys, rfl, rfl, ha, hb, hz, q0, q1, q2⟩ := h
  by_cases hx : xs = []
  · exact op_catA pins s σ H _ _ v u Q I rx ry ⟨a, b, xs, ys, rfl, rfl, ha, hb, hz, q0, q1, fun z => absurd hx z⟩
  · cases rx
    cases ry
    obtain ⟨its, r1, p1, _⟩ := I.tuple ha
    obtain ⟨its2, r2, p2, _⟩ := I.tuple hb
    refine HT.cat_tup p1 p2 (fun z => hx (r1.nil_iff.mp z)) (fun z => ⟨.ref a, H, I, rfl, q1 hx (r2.nil_iff.mp z)⟩) (fun z => ?_) (by rw [← r1.length, ← r2.length]; exact hz)
    exact inv_newT I (r1.append r2) (by rw [List.length_append]; exact hz) (q2 hx fun w => z (r2.nil_iff.mpr w))
def rAddA (K : PySem.W.Frag) : R2 := fun x y H Q => rI0 (fun i j => .int (i + j)) x y H Q ∨ ((∃ i j, x = .str i ∧ y = .str j ∧ i.length + j.length ≤ sizeLine ∧ Q (.str (i ++ j)) H) ∨ (rCatF K x y H Q ∨ rCat x y H Q))
theorem op_addA {X : Cx} : OpR X (binaryOp .Add) (rAddA X.K) := op_add.or (op_add_str.or (op_catF.or op_cat))
theorem den_lst_new {rho : Rm} {hh : Hh} {H : Hp} {ds : List D} {vs : List V} {p : Addr} (R : Rep G rho hh H) (q : Dens G rho H ds vs) (l : vs.length ≤ sizeLine) (hp : H p = none) : Den G rho (upd H p (.lst vs)) (.lst ds) (.ref p) := by
  rw [Den]
  refine ⟨p, vs, rfl, upd_same, fun hm => ?_, fun hm => ?_, l, Dens.step R (.laid hp) _ _ q⟩
  · obtain ⟨u, e, _⟩ := R.mut hm
    rw [hp] at e; cases e
  · obtain ⟨o, e⟩ := R.hd p hm
    rw [hp] at e; cases e
theorem dens_nil {rho : Rm} {H : Hp} {ds : List D} (q : Dens G rho H ds []) : ds = [] := List.length_eq_zero_iff.mp q.length
theorem rz_add : Rz2 G (rAddA G.K) addO := fun rho hh H d1 d2 v1 v2 d Q R q1 q2 e k => by
  unfold addO at e
  split at e
  · rename_i i j
    cases e
    exact .inl ⟨i, j, q1, q2, k _ H .refl R rfl⟩
  · rename_i x y
    split at e
    · rename_i hl
      cases e
      exact .inr (.inl ⟨x, y, q1, q2, hl, k _ H .refl R rfl⟩)
    · cases e
  · rename_i xs ys
    split at e
    · rename_i hl
      cases e
      have q1' := q1
      have q2' := q2
      rw [Den] at q1 q2
      obtain ⟨a, vs, rfl, h1, l1, z1⟩ := q1
      obtain ⟨b, ws, rfl, h2, l2, z2⟩ := q2
      have e1 := z1.length
      have e2 := z2.length
      refine .inr (.inr (.inl ⟨a, b, vs, ws, rfl, rfl, h1.t, h2.t, by omega, fun hv => ?_, fun hv hw => ?_, fun hv hw p o hp ho => ?_⟩))
      · subst hv
        rw [dens_nil z1] at k
        exact k _ H .refl R q2'
      · subst hw
        rw [dens_nil z2, List.append_nil] at k
        exact k _ H .refl R q1'
      · exact k _ _ (.laid hp) (R.laid hp) (Den.tup_new ho R (z1.append z2) (by rw [List.length_append]; omega) hp)
    · cases e
  · split at e
    · rename_i xs ys e1 e2
      split at e
      · rename_i hl
        cases e
        obtain ⟨a, vs, rfl, h1, l1, z1⟩ := seqL_of R q1 e1
        obtain ⟨b, ws, rfl, h2, l2, z2⟩ := seqL_of R q2 e2
        have n1 := z1.length
        have n2 := z2.length
        exact .inr (.inr (.inr ⟨a, b, vs, ws, rfl, rfl, h1, h2, by omega, fun p hp => k _ _ (.laid hp) (R.laid hp) (den_lst_new R (z1.append z2) (by rw [List.length_append]; omega) hp)⟩))
      · cases e
    · cases e

def ixO : Op2 := fun a b h => match b with
  | .int i => match a with
    | .tup ds => atI ds i
    | .scr ns => atI (ns.map D.int) i
    | .str x => if x.length ≤ sizeLine then (atI x.cps.toList i).map fun c => .str ⟨#[c]⟩ else none
    | a => match seqL a h with
      | some ds => atI ds i
      | none => none
  | _ => none
theorem atI_of {rho : Rm} {H : Hp} {ds : List D} {vs : List V} {i : Int} {d : D} (q : Dens G rho H ds vs) (e : atI ds i = some d) : ∃ v, atI vs i = some v ∧ Den G rho H d v := by
  have hl := q.length
  unfold atI at e ⊢
  rw [← hl]
  cases h : ixN ds.length i with
  | none => rw [h] at e; cases e
  | some j =>
    rw [h] at e
    exact q.get e
theorem rz_ix : Rz2 G (rIx G.K) ixO := fun rho hh H d1 d2 v1 v2 d Q R q1 q2 e k => by
  unfold ixO at e
  split at e
  · rename_i i
    split at e
    · rename_i ds
      rw [Den] at q1
      obtain ⟨a, vs, rfl, h1, l1, z1⟩ := q1
      obtain ⟨v, e1, e2⟩ := atI_of z1 e
      exact .inr (.inl ⟨a, vs, i, v, rfl, q2, h1.t, e1, k _ H .refl R e2⟩)
    · rename_i ns
      rw [Den] at q1
      obtain ⟨a, rfl, hs, l⟩ := q1
      obtain ⟨v, e1, e2⟩ := atI_of (dens_ints (G := G) (rho := rho) (H := H) ns) e
      refine .inl ⟨a, ns.map V.int, i, v, rfl, q2, ?_, e1, k _ H .refl R e2⟩
      rcases hs with ⟨o, hs⟩ | hs
      · exact .inl (.inr ⟨o, hs⟩)
      · exact .inr hs
    · rename_i x
      split at e
      · rename_i hl
        obtain ⟨c, e1, rfl⟩ := Option.map_eq_some_iff.mp e
        exact .inr (.inr ⟨x, i, c, q1, q2, hl, e1, k _ H .refl R rfl⟩)
      · cases e
    · split at e
      · rename_i ds es
        obtain ⟨a, vs, rfl, h1, l1, z1⟩ := seqL_of R q1 es
        obtain ⟨v, e1, e2⟩ := atI_of z1 e
        exact .inl ⟨a, vs, i, v, rfl, q2, SqL.of h1, e1, k _ H .refl R e2⟩
      · cases e
  · cases e
end
end MR

namespace MR
open PySem PySem.Spec PyProof.Rows L2

def mulO : Op2 := i2 fun i j => if ((-18446744073709551616 < i ∧ i < 18446744073709551616) ∨ (-18446744073709551616 < j ∧ j < 18446744073709551616)) ∨ i.natAbs.log2 + j.natAbs.log2 < 1000000 then some (.int (i * j)) else none
def rMulA : R2 := fun x y H Q => rI CMul (fun i j => .int (i * j)) x y H Q ∨ rI CMulW (fun i j => .int (i * j)) x y H Q
theorem op_mulA {X : Cx} : OpR X (binaryOp .Mult) rMulA := op_mul.or op_mulW
section
variable {G : Gm}
theorem rz_mul : Rz2 G rMulA mulO := fun rho hh H d1 d2 v1 v2 d Q R q1 q2 e k => by
  unfold mulO i2 at e
  split at e
  · rename_i i j
    dsimp only at e
    split at e
    · rename_i h
      cases e
      rcases h with h | h
      · exact .inl ⟨i, j, q1, q2, by unfold CMul; omega, k _ H .refl R rfl⟩
      · exact .inr ⟨i, j, q1, q2, h, k _ H .refl R rfl⟩
    · cases e
  · cases e
end
def eNeg (m : ME) : ME := fun env h => (m env h).bind fun d h1 => lift (match d with | .int i => some (.int (-i)) | _ => none) h1
def eChain (f g : Op2) (a b c : ME) : ME := fun env h => (a env h).bind fun x h1 => (b env h1).bind fun y h2 => (lift (f x y h2) h2).bind fun z h3 => (lift (asB z) h3).bind fun k h4 => if k = true then (c env h4).bind fun u h5 => lift (g y u h5) h5 else .ok (.bl false) h4
section
variable {X : Cx} {a b c : Expr} {ma mb mc : ME} {pos : Pos}
theorem tChain_of {G : Gm} {W : WX} {r r' : R2} {f g : Op2} {σ : L2.St} {H : Hp} {Q : VK} (z : Rz2 G r f) (z' : Rz2 G r' g) (h : TD G W (eChain f g ma mb mc) σ H Q) : tChain r r' (TD G W ma) (TD G W mb) (TD G W mc) σ H Q := by
  refine tE_of (f := fun env x h1 => (mb env h1).bind fun y h2 => (lift (f x y h2) h2).bind fun z h3 => (lift (asB z) h3).bind fun k h4 => if k = true then (mc env h4).bind fun u h5 => lift (g y u h5) h5 else .ok (.bl false) h4) h fun rho env hh H1 x vx R E qx p => ?_
  refine tE2_of (f := fun env x y h2 => (lift (f x y h2) h2).bind fun z h3 => (lift (asB z) h3).bind fun k h4 => if k = true then (mc env h4).bind fun u h5 => lift (g y u h5) h5 else .ok (.bl false) h4) ⟨rho, env, hh, R, E, qx, p⟩ fun rho env hh H2 y vy R E qx qy p => ?_
  cases e1 : f x y hh with
  | none => rw [e1] at p; exact p.elim
  | some zz =>
    rw [e1] at p
    cases e2 : asB zz with
    | none => rw [show (lift (some zz) hh).bind (fun z h3 => (lift (asB z) h3).bind fun k h4 => if k = true then (mc env h4).bind fun u h5 => lift (g y u h5) h5 else .ok (.bl false) h4) = (lift (asB zz) hh).bind fun k h4 => if k = true then (mc env h4).bind fun u h5 => lift (g y u h5) h5 else .ok (.bl false) h4 from rfl, e2] at p; exact p.elim
    | some k =>
      rw [show (lift (some zz) hh).bind (fun z h3 => (lift (asB z) h3).bind fun k h4 => if k = true then (mc env h4).bind fun u h5 => lift (g y u h5) h5 else .ok (.bl false) h4) = (lift (asB zz) hh).bind fun k h4 => if k = true then (mc env h4).bind fun u h5 => lift (g y u h5) h5 else .ok (.bl false) h4 from rfl, e2] at p
      have ez := asB_some e2
      subst ez
      refine z rho hh H2 x y vx vy _ _ R qx qy e1 fun v3 H3 S3 R3 q3 => ⟨k, q3, ?_⟩
      have p := p.start S3
      have E3 := E.step R S3
      have qy3 := Den.step R S3 _ _ qy
      cases k with
      | true =>
        refine tE2_of (d1 := y) (v1 := vy) (f := fun env y u h5 => lift (g y u h5) h5) ⟨rho, env, hh, R3, E3, qy3, p⟩ fun rho env hh H4 u vu R E qy qu p => ?_
        obtain ⟨dd, e4, p⟩ := lift_post p
        exact z' rho hh H4 y u vy vu dd Q R qy qu e4 fun w H' S' R' q' => p rho H' w S' R' q'
      | false => exact PostE.val (a := D.bl false) (b := V.bl false) (Rl := Den G) p R3 rfl
theorem de_chain {op op' : CmpOp} {r r' : R2} {f g : Op2} (ho : OpR X (compareOp op) r) (ho' : OpR X (compareOp op') r') (z : Rz2 (Cx.gm X) r f) (z' : Rz2 (Cx.gm X) r' g) (ha : DE X a ma) (hb : DE X b mb) (hc : DE X c mc)
    (hm : lastMarks [op, op'] [b, c] = false := by with_unfolding_all rfl) : DE X (.Compare a [op, op'] [b, c] pos) (eChain f g ma mb mc) :=
  ⟨fun W tk => pe_weak (pe_chain ho ho' (ha.run W tk) (hb.run W tk) (hc.run W tk) hm) fun σ H Q q => tChain_of z z' q⟩
theorem dt_chain {op op' : CmpOp} {r r' : R2} {f g : Op2} (ho : OpR X (compareOp op) r) (ho' : OpR X (compareOp op') r') (z : Rz2 (Cx.gm X) r f) (z' : Rz2 (Cx.gm X) r' g) (ha : DE X a ma) (hb : DE X b mb) (hc : DE X c mc)
    (hm : lastMarks [op, op'] [b, c] = false := by with_unfolding_all rfl) : DT X (.Compare a [op, op'] [b, c] pos) (tE (eChain f g ma mb mc)) :=
  ⟨fun W tk => pt_weak (pt_chain ho ho' (ha.run W tk) (hb.run W tk) (hc.run W tk) hm) fun σ H Q q => tChain_of (Q := fun x H' => ∃ k, x = .bl k ∧ Q k H') z z' (tB_of q)⟩
end

def cutG {α : Type} (xs : List α) (lo hi : Option Int) : List α := (xs.drop (HT.sIx xs.length 0 lo)).take (HT.sIx xs.length xs.length hi - HT.sIx xs.length 0 lo)
section
variable {G : Gm} {rho : Rm} {H : Hp}
theorem Dens.take : ∀ {ds : List D} {vs : List V} (n : Nat), Dens G rho H ds vs → Dens G rho H (ds.take n) (vs.take n)
  | [], vs, n, h => by rw [Dens] at h; subst h; simp [Dens]
  | d :: ds, vs, 0, h => by simp [Dens]
  | d :: ds, vs, n + 1, h => by
    rw [Dens] at h
    obtain ⟨v, r, rfl, a, b⟩ := h
    exact ⟨v, r.take n, rfl, a, Dens.take n b⟩
theorem Dens.drop : ∀ {ds : List D} {vs : List V} (n : Nat), Dens G rho H ds vs → Dens G rho H (ds.drop n) (vs.drop n)
  | [], vs, n, h => by rw [Dens] at h; subst h; simp [Dens]
  | d :: ds, vs, 0, h => h
  | d :: ds, vs, n + 1, h => by
    rw [Dens] at h
    obtain ⟨v, r, rfl, a, b⟩ := h
    exact Dens.drop n b
theorem Dens.cut {ds : List D} {vs : List V} (lo hi : Option Int) (h : Dens G rho H ds vs) : Dens G rho H (cutG ds lo hi) (cutV vs lo hi) := by
  unfold cutG cutV
  rw [h.length]
  exact (h.drop _).take _
end
def sliceO (d : D) (lo hi : Option Int) (h : Hh) : Option D := match d with
  | .tup ds => some (.tup (cutG ds lo hi))
  | .str x => if x.length ≤ sizeLine then some (.str (cutS x lo hi)) else none
  | d => (seqL d h).map fun ds => .lst (cutG ds lo hi)
/-- t[lo:hi], what is new known -/
def rSlF (K : PySem.W.Frag) : V → Option Int → Option Int → Hp → VK → Prop := fun x lo hi H Q => ∃ a xs, x = .ref a ∧ SqT K H a xs ∧
  (HT.sIx xs.length 0 lo = 0 ∧ HT.sIx xs.length xs.length hi = xs.length → Q (.ref a) H) ∧ (¬ (HT.sIx xs.length 0 lo = 0 ∧ HT.sIx xs.length xs.length hi = xs.length) → NewT H (cutV xs lo hi) Q)
theorem sl_tupF {X : Cx} : SlR X (rSlF X.K) := by
  intro pins s σ H x v vl vu lo hi sl Q I rx hs pl pu h
  obtain ⟨a, xs, rfl, hx, q1, q2⟩ := h
  by_cases hw : HT.sIx xs.length 0 lo = 0 ∧ HT.sIx xs.length xs.length hi = xs.length
  · exact sl_tupA pins s σ H _ v vl vu lo hi sl Q I rx hs pl pu ⟨a, xs, rfl, hx, q1, fun z => absurd hw z⟩
  · cases rx
    obtain ⟨its, r, ht, hz⟩ := I.tuple hx
    have hlen : its.toArray.size = xs.length := by rw [List.size_toArray]; exact r.length.symm
    refine ⟨"tuple", _, PyProof.Rows.slot_tuple_getitem.lookup, ht.typeIs, ?_⟩
    refine HT.getItem_tuple_cut ht hs pl pu (by rw [hlen]; exact hw) ?_ (by rw [hlen]; exact hz)
    rw [hlen]
    exact inv_newT I ((r.drop (HT.sIx xs.length 0 lo)).take (HT.sIx xs.length xs.length hi - HT.sIx xs.length 0 lo)) (Nat.le_trans (cutV_length xs lo hi) hz) (q2 hw)
def rSlAny (K : PySem.W.Frag) : V → Option Int → Option Int → Hp → VK → Prop := fun x lo hi H Q => rSlF K x lo hi H Q ∨ (rSlL K x lo hi H Q ∨ rSlS x lo hi H Q)
theorem sl_any {X : Cx} : SlR X (rSlAny X.K) := sl_tupF.or (sl_list.or sl_str)
theorem cutV_len (vs : List V) (lo hi : Option Int) : (cutV vs lo hi).length ≤ vs.length := cutV_length vs lo hi
theorem sl_of {G : Gm} {rho : Rm} {hh : Hh} {H : Hp} {d e : D} {v : V} {lo hi : Option Int} {Q : VK} (R : Rep G rho hh H) (q : Den G rho H d v) (h : sliceO d lo hi hh = some e)
    (k : ∀ w H', Step rho H rho H' → Rep G rho hh H' → Den G rho H' e w → Q w H') : rSlAny G.K v lo hi H Q := by
  unfold sliceO at h
  split at h
  · rename_i ds
    cases h
    have q0 := q
    rw [Den] at q
    obtain ⟨a, vs, rfl, hs, l, z⟩ := q
    refine .inl ⟨a, vs, rfl, hs.t, fun hw => ?_, fun hw p o hp ho => ?_⟩
    · have ec : cutG ds lo hi = ds := by
        unfold cutG
        rw [z.length, hw.1, hw.2, List.drop_zero, Nat.sub_zero, ← z.length, List.take_length]
      rw [ec] at k
      exact k _ H .refl R q0
    · exact k _ _ (.laid hp) (R.laid hp) (Den.tup_new ho R (z.cut lo hi) (Nat.le_trans (cutV_len vs lo hi) l) hp)
  · rename_i x
    split at h
    · rename_i hl
      cases h
      exact .inr (.inr ⟨x, q, hl, k _ H .refl R rfl⟩)
    · cases h
  · obtain ⟨ds, e1, rfl⟩ := Option.map_eq_some_iff.mp h
    obtain ⟨a, vs, rfl, hs, l, z⟩ := seqL_of R q e1
    exact .inr (.inl ⟨a, vs, rfl, SqL.of hs, fun p hp => k _ _ (.laid hp) (R.laid hp) (den_lst_new R (z.cut lo hi) (Nat.le_trans (cutV_len vs lo hi) l) hp)⟩)
/-- an end of a slice -/
abbrev MO := DEnv → Hh → Res (Option Int)
def TDo (G : Gm) (W : WX) (m : MO) : TO := fun σ H Q => ∃ rho env hh, Rep G rho hh H ∧ EnvD G rho H env σ ∧ PostE G (fun _ _ a b => a = b) (wAt W σ) rho H (m env hh) Q
structure DO (X : Cx) (e : Option Expr) (m : MO) : Prop where
  run : ∀ W, Takes X W → PO X e (TDo (Cx.gm X) W m)
def oNone : MO := fun _ h => .ok none h
def asI (d : D) : Option Int := match d with | .int i => some i | _ => none
def oSome (m : ME) : MO := fun env h => (m env h).bind fun d h1 => lift ((asI d).map some) h1
theorem po_weak {X : Cx} {e : Option Expr} {t t' : TO} (h : PO X e t) (i : ∀ σ H Q, t' σ H Q → t σ H Q) : PO X e t' := ⟨fun pins s σ H Q I q => h.run pins s σ H Q I (i σ H Q q)⟩
section
variable {X : Cx} {e : Expr} {m : ME} {pos p2 : Pos}
theorem do_none : DO X none oNone := ⟨fun W _ => po_weak po_none fun σ H Q ⟨rho, env, hh, R, E, p⟩ => p.val R rfl⟩
theorem do_some (h : DE X e m) : DO X (some e) (oSome m) := ⟨fun W tk => po_weak (po_some (h.run W tk)) fun σ H Q q => by
  refine tE_of (Rl := fun _ _ a b => a = b) q fun rho env hh H1 d v R E qd p => ?_
  obtain ⟨a, e, p⟩ := lift_post p
  obtain ⟨i, e1, rfl⟩ := Option.map_eq_some_iff.mp e
  cases d with
  | int j => cases e1; exact ⟨_, qd, p.val R rfl⟩
  | non => cases e1
  | bl b => cases e1
  | str b => cases e1
  | tup b => cases e1
  | wtp b => cases e1
  | lst b => cases e1
  | ref b => cases e1
  | glb b => cases e1
  | scr b => cases e1
  | dct b c => cases e1⟩
def eSlice (m : ME) (lo hi : MO) : ME := fun env h => (m env h).bind fun d h1 => (lo env h1).bind fun l h2 => (hi env h2).bind fun u h3 => lift (sliceO d l u h3) h3
theorem tO_of {G : Gm} {W : WX} {mo : MO} {f : DEnv → D → Option Int → Hh → Res D} {σ : L2.St} {H : Hp} {Q : VK} {v1 : V} {d1 : D} {k : Option Int → Hp → Prop}
    (h : ∃ rho env hh, Rep G rho hh H ∧ EnvD G rho H env σ ∧ Den G rho H d1 v1 ∧ PostE G (Den G) (wAt W σ) rho H ((mo env hh).bind (f env d1)) Q)
    (hk : ∀ rho env hh H1 o, Rep G rho hh H1 → EnvD G rho H1 env σ → Den G rho H1 d1 v1 → PostE G (Den G) (wAt W σ) rho H1 (f env d1 o hh) Q → k o H1) : TDo G W mo σ H k := by
  obtain ⟨rho, env, hh, R, E, q1, p⟩ := h
  refine ⟨rho, env, hh, R, E, ?_⟩
  cases e : mo env hh with
  | ok d hh1 =>
    rw [e, bind_ok] at p
    exact fun rho1 H1 v S R1 q => by
      subst q
      exact hk rho1 env hh1 H1 d R1 (E.step R S) (Den.step R S _ _ q1) (p.start S)
  | err x hh1 => rw [e, bind_err] at p; exact p
  | stuck => rw [e, bind_stuck] at p; exact p
theorem de_slice {lo hi : Option Expr} {ml mh : MO} (h : DE X e m) (hl : DO X lo ml) (hu : DO X hi mh) : DE X (.Subscript e (.Slice lo hi none p2) pos) (eSlice m ml mh) :=
  ⟨fun W tk => pe_weak (pe_slice sl_any (h.run W tk) (hl.run W tk) (hu.run W tk)) fun σ H Q q => by
    refine tE_of (f := fun env d h1 => (ml env h1).bind fun l h2 => (mh env h2).bind fun u h3 => lift (sliceO d l u h3) h3) q fun rho env hh H1 d v R E qd p => ?_
    refine tO_of (d1 := d) (f := fun env d l h2 => (mh env h2).bind fun u h3 => lift (sliceO d l u h3) h3) ⟨rho, env, hh, R, E, qd, p⟩ fun rho env hh H2 l R E qd p => ?_
    refine tO_of (d1 := d) (f := fun env d u h3 => lift (sliceO d l u h3) h3) ⟨rho, env, hh, R, E, qd, p⟩ fun rho env hh H3 u R E qd p => ?_
    obtain ⟨a, e, p⟩ := lift_post p
    exact sl_of R qd e fun w H' S' R' q' => p rho H' w S' R' q'⟩
end

def lenO : OpN := fun ds h => match ds with
  | [.str x] => if x.length ≤ sizeLine then some (.int x.length) else none
  | [.ref i] => match h[i]? with
    | some (.lst xs) => some (.int xs.length)
    | some (.dK kvs) => some (.int kvs.length)
    | _ => none
  | [.tup xs] => some (.int xs.length)
  | [.lst xs] => some (.int xs.length)
  | [.scr ns] => some (.int ns.length)
  | _ => none
def rLenA (X : Cx) : List V → Hp → VK → Prop := fun xs H Q => (∃ p ys, xs = [.ref p] ∧ (SqL X.K H p ys ∨ SqT X.K H p ys) ∧ Q (.int ys.length) H) ∨ ((∃ z, xs = [.str z] ∧ z.length ≤ sizeLine ∧ Q (.int z.length) H) ∨ (∃ a kvs, xs = [V.ref a] ∧ H a = some (.dK kvs) ∧ Q (.int kvs.length) H))
theorem call_lenA {X : Cx} : CallR X (.builtin "len") (rLenA X) := call_len_seq.or (call_len_str.or call_lenD)
theorem dens_one {G : Gm} {rho : Rm} {H : Hp} {d : D} {vs : List V} (q : Dens G rho H [d] vs) : ∃ v, vs = [v] ∧ Den G rho H d v := by
  simp only [Dens] at q
  obtain ⟨v, r, rfl, h, rfl⟩ := q
  exact ⟨v, rfl, h⟩
theorem dens_two {G : Gm} {rho : Rm} {H : Hp} {d e : D} {vs : List V} (q : Dens G rho H [d, e] vs) : ∃ v w, vs = [v, w] ∧ Den G rho H d v ∧ Den G rho H e w := by
  simp only [Dens] at q
  obtain ⟨v, r, rfl, h, w, r2, rfl, h2, rfl⟩ := q
  exact ⟨v, w, rfl, h, h2⟩
theorem rz_len {X : Cx} : RzN (Cx.gm X) (rLenA X) lenO := fun rho hh H ds vs d Q R q e k => by
  unfold lenO at e
  split at e
  · rename_i x
    split at e
    · rename_i hl
      cases e
      obtain ⟨v, rfl, h⟩ := dens_one q
      exact .inr (.inl ⟨x, by rw [show v = .str x from h], hl, k _ H .refl R rfl⟩)
    · cases e
  · rename_i i
    obtain ⟨v, rfl, h⟩ := dens_one q
    rw [Den] at h
    obtain ⟨a, e1, rfl⟩ := h
    split at e
    · rename_i xs e2
      cases e
      obtain ⟨ws, e3, l, z⟩ := R.ob i a _ e1 e2
      rw [z.length] at k
      exact .inl ⟨a, ws, rfl, .inl (SqL.of e3), k _ H .refl R rfl⟩
    · rename_i kvs e2
      cases e
      obtain ⟨fvs, e3, l, z⟩ := R.ob i a _ e1 e2
      rw [Paired.length z] at k
      exact .inr (.inr ⟨a, fvs, rfl, e3, k _ H .refl R rfl⟩)
    · cases e
  · rename_i xs
    cases e
    obtain ⟨v, rfl, h⟩ := dens_one q
    rw [Den] at h
    obtain ⟨a, ws, rfl, h1, l, z⟩ := h
    rw [z.length] at k
    exact .inl ⟨a, ws, rfl, .inr h1.t, k _ H .refl R rfl⟩
  · rename_i xs
    cases e
    obtain ⟨v, rfl, h⟩ := dens_one q
    rw [Den] at h
    obtain ⟨a, ws, rfl, h1, _, _, l, z⟩ := h
    rw [z.length] at k
    exact .inl ⟨a, ws, rfl, .inl (SqL.of h1), k _ H .refl R rfl⟩
  · rename_i ns
    cases e
    obtain ⟨v, rfl, h⟩ := dens_one q
    rw [Den] at h
    obtain ⟨a, rfl, hs, l⟩ := h
    refine .inl ⟨a, ns.map V.int, rfl, .inl ?_, by rw [List.length_map]; exact k _ H .refl R rfl⟩
    rcases hs with ⟨o, hs⟩ | hs
    · exact .inl (.inr ⟨o, hs⟩)
    · exact .inr hs
  · cases e

/-- the built-in class of a value -/
def tyName (d : D) (h : Hh) : Option String := match d with
  | .non => some "NoneType"
  | .bl _ => some "bool"
  | .int _ => some "int"
  | .str _ => some "str"
  | .tup _ => some "tuple"
  | .wtp _ => none
  | .lst _ => some "list"
  | .scr _ => some "list"
  | .ref i => match h[i]? with
    | some (.lst _) => some "list"
    | some (.dK _) => some "dict"
    | some (.dN _) => some "dict"
    | _ => none
  | .glb _ => none
  | .dct _ _ => some "dict"
def isiO : OpN := fun ds h => match ds with
  | [d, .glb (.ty T)] => (tyName d h).bind fun t => (kitB t T).map D.bl
  | _ => none
def rIsiA (K : PySem.W.Frag) : List V → Hp → VK → Prop := fun xs H Q => rIsi K xs H Q ∨ ∃ (a : Addr) (es : Array DictEntry) (c : V) (u : Value) (b : Bool), xs = [.ref a, c] ∧ ClsV c u ∧ H a = some (.ext (dictRaw a es)) ∧ PySem.W.kitOne K (.type "dict") u = some b ∧ Q (.bl b) H
theorem call_isiA {X : Cx} : CallR X (.builtin "isinstance") (rIsiA X.K) := by
  intro pins s σ H xs us Q I r h
  rcases h with h | h
  · exact call_isi pins s σ H xs us Q I r h
  · obtain ⟨a, es, c, u, b, rfl, k, ha, e, q⟩ := h
    obtain ⟨u1, u2, rfl, r1, r2⟩ := vals2 r
    have e2 := k.eq r2
    subst e2
    cases (show u1 = Value.ref a from r1)
    obtain ⟨⟨o, ep, h1, h2, h3⟩, _, _⟩ := I.hok a _ ha
    exact PySem.W.kia_one PySem.W.kitx_dict I.kIn ⟨o, h1, h2.1⟩ e (fun z => nomatch z) fun tk => ⟨.bl b, H, I.tok tk, rfl, q⟩
theorem rz_isi {X : Cx} : RzN (Cx.gm X) (rIsiA X.K) isiO := fun rho hh H ds vs d Q R q e k => by
  unfold isiO at e
  split at e
  · rename_i x T
    obtain ⟨t, e1, e⟩ := Option.bind_eq_some_iff.mp e
    obtain ⟨b, e2, rfl⟩ := Option.map_eq_some_iff.mp e
    obtain ⟨v, w, rfl, h, hw⟩ := dens_two q
    rw [show w = .ty T from hw]
    have fin : Q (.bl b) H := k _ H .refl R rfl
    have via : TyX X.K H v (.type t) → rIsiA X.K [v, .ty T] H Q := fun ty => .inl ⟨v, .ty T, .type t, .type T, b, rfl, .ty T, ty, kit_ty e2, fin⟩
    clear e
    unfold tyName at e1
    split at e1
    · cases e1; rw [show v = .non from h] at via ⊢; exact via (.base .non)
    · rename_i y; cases e1; rw [show v = .bl y from h] at via ⊢; exact via (.base (.bl y))
    · rename_i y; cases e1; rw [show v = .int y from h] at via ⊢; exact via (.base (.int y))
    · rename_i y; cases e1; rw [show v = .str y from h] at via ⊢; exact via (.base (.str y))
    · cases e1
      rw [Den] at h
      obtain ⟨a, ws, rfl, h1, l, z⟩ := h
      rcases h1.t with (h1 | ⟨o, h1⟩) | ⟨o, its, n, h1, h2, _⟩
      · exact via (.base (.tup h1))
      · exact via (.fTuple h1)
      · exact via (.kTuple h1 h2)
    · cases e1
    · cases e1
      rw [Den] at h
      obtain ⟨a, ws, rfl, h1, _, _, l, z⟩ := h
      exact via (.base (.lst h1))
    · cases e1
      rw [Den] at h
      obtain ⟨a, rfl, hs, l⟩ := h
      rcases hs with ⟨o, hs⟩ | ⟨o, its, n, h1, h2, _⟩
      · exact via (.base (.frz hs))
      · exact via (.kList h1 h2)
    · rw [Den] at h
      obtain ⟨a, e3, rfl⟩ := h
      split at e1
      · rename_i e4
        cases e1
        obtain ⟨ws, e5, _⟩ := R.ob _ a _ e3 e4
        exact via (.base (.lst e5))
      · rename_i e4
        cases e1
        obtain ⟨ws, e5, _⟩ := R.ob _ a _ e3 e4
        exact via (.base (.dK e5))
      · rename_i e4
        cases e1
        obtain ⟨ws, _, _, es, e5, _⟩ := R.ob _ a _ e3 e4
        exact .inr ⟨a, es, .ty T, .type T, b, rfl, .ty T, e5, kit_ty e2, fin⟩
      · cases e1
    · cases e1
    · cases e1
      rw [Den] at h
      obtain ⟨a, xs, es, us, rfl, e5, _⟩ := h
      exact .inr ⟨a, es, .ty T, .type T, b, rfl, .ty T, e5, kit_ty e2, fin⟩
  · cases e

/-- a list of truths -/
def truths : List D → Option (List Bool)
  | [] => some []
  | .bl b :: ds => (truths ds).map (b :: ·)
  | _ :: _ => none
def allO : OpN := fun ds h => match ds with
  | [d] => (seqL d h).bind fun xs => (truths xs).map fun bs => .bl (bs.all id)
  | _ => none
def anyO : OpN := fun ds h => match ds with
  | [d] => (seqL d h).bind fun xs => (truths xs).map fun bs => .bl (bs.any id)
  | _ => none
section
variable {G : Gm} {rho : Rm} {H : Hp} {hh : Hh}
theorem truths_of : ∀ {ds : List D} {vs : List V} {bs : List Bool}, Dens G rho H ds vs → truths ds = some bs → vs = bs.map V.bl
  | [], vs, bs, h, e => by rw [truths] at e; cases e; rw [Dens] at h; exact h
  | d :: ds, vs, bs, h, e => by
    rw [Dens] at h
    obtain ⟨v, r, rfl, a, b⟩ := h
    cases d with
    | bl k =>
      rw [truths] at e
      obtain ⟨cs, e1, rfl⟩ := Option.map_eq_some_iff.mp e
      rw [truths_of b e1, show v = .bl k from a]; rfl
    | non => cases e
    | int i => cases e
    | str i => cases e
    | tup i => cases e
    | wtp i => cases e
    | lst i => cases e
    | ref i => cases e
    | glb i => cases e
    | scr i => cases e
    | dct i j => cases e
theorem rz_all : RzN G (rAll G.K) allO := fun rho hh H ds vs d Q R q e k => by
  unfold allO at e
  split at e
  · obtain ⟨xs, e1, e⟩ := Option.bind_eq_some_iff.mp e
    obtain ⟨bs, e2, rfl⟩ := Option.map_eq_some_iff.mp e
    obtain ⟨v, rfl, h⟩ := dens_one q
    obtain ⟨a, ws, rfl, h1, l, z⟩ := seqL_of R h e1
    have ew := truths_of z e2
    subst ew
    exact ⟨a, bs, rfl, SqL.of h1, k _ H .refl R rfl⟩
  · cases e
def max2O : OpN := fun ds _ => match ds with
  | [.int i, .int j] => some (.int (if j > i then j else i))
  | _ => none
def min2O : OpN := fun ds _ => match ds with
  | [.int i, .int j] => some (.int (if j < i then j else i))
  | _ => none
theorem rz_max2 : RzN G (fun xs H Q => ∃ i j, xs = [.int i, .int j] ∧ Q (.int (if j > i then j else i)) H) max2O := fun rho hh H ds vs d Q R q e k => by
  unfold max2O at e
  split at e
  · rename_i i j
    cases e
    obtain ⟨v, w, rfl, h, hw⟩ := dens_two q
    exact ⟨i, j, by rw [show v = .int i from h, show w = .int j from hw], k _ H .refl R rfl⟩
  · cases e
theorem rz_min2 : RzN G (fun xs H Q => ∃ i j, xs = [.int i, .int j] ∧ Q (.int (if j < i then j else i)) H) min2O := fun rho hh H ds vs d Q R q e k => by
  unfold min2O at e
  split at e
  · rename_i i j
    cases e
    obtain ⟨v, w, rfl, h, hw⟩ := dens_two q
    exact ⟨i, j, by rw [show v = .int i from h, show w = .int j from hw], k _ H .refl R rfl⟩
  · cases e
def int1O : OpN := fun ds _ => match ds with
  | [.int i] => some (.int i)
  | [.bl b] => some (.int (if b then 1 else 0))
  | _ => none
theorem rz_int1 : RzN G (fun xs H Q => (∃ i, xs = [.int i] ∧ Q (.int i) H) ∨ ∃ k, xs = [.bl k] ∧ Q (.int (if k then 1 else 0)) H) int1O := fun rho hh H ds vs d Q R q e k => by
  unfold int1O at e
  split at e
  · rename_i i
    cases e
    obtain ⟨v, rfl, h⟩ := dens_one q
    exact .inl ⟨i, by rw [show v = .int i from h], k _ H .refl R rfl⟩
  · rename_i b
    cases e
    obtain ⟨v, rfl, h⟩ := dens_one q
    exact .inr ⟨b, by rw [show v = .bl b from h], k _ H .refl R rfl⟩
  · cases e
/-- tuple(x) of a list or a tuple -/
def tupleO : OpN := fun ds h => match ds with
  | [.tup xs] => some (.tup xs)
  | [.scr ns] => some (.tup (ns.map D.int))
  | [d] => (seqL d h).map fun xs => .tup xs
  | _ => none
def rTupF (K : PySem.W.Frag) : List V → Hp → VK → Prop := fun xs H Q => ∃ p ys, xs = [.ref p] ∧ ((SqL K H p ys ∧ NewT H ys Q) ∨ (SqT K H p ys ∧ Q (.ref p) H))
theorem call_tupF {X : Cx} : CallR X (.type "tuple") (rTupF X.K) := by
  intro pins s σ H xs us Q I r h
  obtain ⟨p, ys, rfl, h⟩ := h
  rcases h with ⟨hq, q⟩ | ⟨hq, q⟩
  · obtain ⟨u, rfl, rx⟩ := vals1 r
    cases rx
    obtain ⟨its, r', pl, hz⟩ := I.list hq
    have hlen := r'.length
    refine call_tuple_list pl.isList (fun h' kp => ?_) (by simp only [List.size_toArray] <;> omega)
    exact inv_newT (I.kept (t' := s.toks) kp) r' hz q
  · exact call_tuple_of pins s σ H _ us Q I r ⟨p, ys, rfl, .inr ⟨hq, q⟩⟩
theorem rz_tuple {X : Cx} : RzN (Cx.gm X) (rTupF X.K) tupleO := fun rho hh H ds vs d Q R q e k => by
  unfold tupleO at e
  split at e
  · rename_i xs
    cases e
    obtain ⟨v, rfl, h⟩ := dens_one q
    have h0 := h
    rw [Den] at h
    obtain ⟨a, ws, rfl, h1, l, z⟩ := h
    exact ⟨a, ws, rfl, .inr ⟨h1.t, k _ H .refl R h0⟩⟩
  · rename_i ns
    cases e
    obtain ⟨v, rfl, h⟩ := dens_one q
    rw [Den] at h
    obtain ⟨a, rfl, hs, l⟩ := h
    refine ⟨a, ns.map V.int, rfl, .inl ⟨?_, fun p o hp ho => k _ _ (.laid hp) (R.laid hp) (Den.tup_new ho R (dens_ints ns) (by simpa using l) hp)⟩⟩
    rcases hs with ⟨o, hs⟩ | hs
    · exact .inl (.inr ⟨o, hs⟩)
    · exact .inr hs
  · obtain ⟨xs, e1, rfl⟩ := Option.map_eq_some_iff.mp e
    obtain ⟨v, rfl, h⟩ := dens_one q
    obtain ⟨a, ws, rfl, h1, l, z⟩ := seqL_of R h e1
    exact ⟨a, ws, rfl, .inl ⟨SqL.of h1, fun p o hp ho => k _ _ (.laid hp) (R.laid hp) (Den.tup_new ho R z l hp)⟩⟩
  · cases e
end
end MR

namespace MR
open PySem PySem.Spec PyProof.Rows L2

abbrev OpM := D → List D → Hh → Option (D × Hh)
def liftM {α : Type} (o : Option (α × Hh)) : Res α := match o with | some (a, h) => .ok a h | none => .stuck
structure RzM (G : Gm) (T : String) (r : V → List V → Hp → VK → Prop) (ok : D → Hh → Bool) (f : OpM) : Prop where
  ty : ∀ rho hh H d v, Rep G rho hh H → Den G rho H d v → ok d hh = true → tyV G.K T v H
  run : ∀ rho hh H d ds v vs d' hh' (Q : VK), Rep G rho hh H → Den G rho H d v → Dens G rho H ds vs → f d ds hh = some (d', hh') →
    (∀ w rho' H', Step rho H rho' H' → Rep G rho' hh' H' → Den G rho' H' d' w → Q w H') → r v vs H Q
def eMeth (ok : D → Hh → Bool) (f : OpM) (m : ME) (ms : MA) : ME := fun env h => (m env h).bind fun d h1 => if ok d h1 = true then (ms env h1).bind fun ds h2 => liftM (f d ds h2) else .stuck
section
variable {X : Cx} {o e : Expr} {es : List Expr} {m : ME} {ms : MA} {name : Str} {apos cpos : Pos} {T id : String} {r : V → List V → Hp → VK → Prop} {ok : D → Hh → Bool} {f : OpM}
theorem meth_of {G : Gm} {W : WX} {σ : L2.St} {H : Hp} {Q : VK} (z : RzM G T r ok f) (h : TD G W (eMeth ok f m ms) σ H Q) : tBM G.K T r (TD G W m) (TDa G W ms) σ H Q := by
  refine tE_of (f := fun env d h1 => if ok d h1 = true then (ms env h1).bind fun ds h2 => liftM (f d ds h2) else .stuck) h fun rho env hh H1 d v R E qd p => ?_
  split at p
  · rename_i hok
    refine ⟨z.ty rho hh H1 d v R qd hok, ?_⟩
    have h2 := At.seq2A (m := ms) (f := fun env d ds h2 => liftM (f d ds h2)) ⟨rho, env, hh, d, R, E, qd, p⟩
    obtain ⟨rho2, env2, hh2, R2, E2, p2⟩ := h2
    refine ⟨rho2, env2, hh2, R2, E2, ?_⟩
    cases e2 : ms env2 hh2 with
    | ok d2 hh3 =>
      rw [e2] at p2
      intro rho3 H3 vs S3 R3 q3
      obtain ⟨rho4, env4, hh4, x, xs, R4, E4, qx, qy, p4⟩ := p2 rho3 H3 vs S3 R3 q3
      cases e4 : f x xs hh4 with
      | none => rw [e4] at p4; exact p4.elim
      | some y =>
        obtain ⟨d', hh'⟩ := y
        rw [e4] at p4
        exact z.run rho4 hh4 H3 x xs v vs d' hh' Q R4 qx qy e4 fun w rho' H' S' R' q' => p4 rho' H' w S' R' q'
    | err x hh1 => rw [e2] at p2; exact p2
    | stuck => rw [e2] at p2; exact p2
  · exact p.elim
theorem de_meth (pa : PlainAttrs T) (slot : Slot T name id) (hty : typeOf (.builtin id) = pure (.type "method_descriptor")) (hm : MtR X id r) (z : RzM (Cx.gm X) T r ok f) (ho : DE X o m) (ha : DA X (e :: es) ms)
    (hbase : attributeBase o name X.env (eval o X.env) = eval o X.env := by rfl)
    (hfew : ((backTo cpos (starEach (e :: es) X.env)).all (fun x => !x.1) && (backToKw cpos (keywordEach [] X.env)).all (fun x => x.1.isSome)
      && decide ((e :: es).length + ([] : List Keyword).length + (if ([] : List Keyword).isEmpty then 0 else 1) < 30)) = true := by rfl)
    (hline : (apos.endLine == cpos.line) = true := by rfl) (hs : starEach (e :: es) X.env = (false, eval e X.env) :: starEach es X.env := by rfl) (hplain : (backTo cpos (starEach es X.env)).any (·.1) = false := by rfl) :
    DE X (.Call (.Attribute o name apos) (e :: es) [] cpos) (eMeth ok f m ms) :=
  ⟨fun W tk => pe_weak (pe_bm pa slot hty hm (ho.run W tk) (ha.run W tk) hbase hfew hline hs hplain) fun σ H Q h => meth_of z h⟩
end

def isL (d : D) (h : Hh) : Bool := (seqL d h).isSome
/-- the list at a ref, changed -/
def chL (g : List D → Option (D × List D)) (d : D) (h : Hh) : Option (D × Hh) := match d with
  | .ref i => match h[i]? with
    | some (.lst xs) => (g xs).map fun p => (p.1, h.set i (.lst p.2))
    | _ => none
  | _ => none
section
variable {G : Gm} {rho : Rm} {H : Hp} {hh : Hh}
theorem isL_ty {d : D} {v : V} (R : Rep G rho hh H) (q : Den G rho H d v) (h : isL d hh = true) : tyV G.K "list" v H := by
  obtain ⟨ds, e⟩ := Option.isSome_iff_exists.mp h
  obtain ⟨a, vs, rfl, h1, _, _⟩ := seqL_of R q e
  exact .inl ⟨rfl, _, SqL.of h1⟩
theorem chL_of {g : List D → Option (D × List D)} {d d' : D} {v : V} {hh' : Hh} (R : Rep G rho hh H) (q : Den G rho H d v) (h : chL g d hh = some (d', hh')) :
    ∃ (i : Nat) (a : Addr) (xs ys : List D) (vs : List V), d = .ref i ∧ rho.at_[i]? = some a ∧ v = .ref a ∧ H a = some (.lst vs) ∧ vs.length ≤ sizeLine ∧ Dens G rho H xs vs ∧ g xs = some (d', ys) ∧ hh' = hh.set i (.lst ys) ∧
      ∀ ws, ws.length ≤ sizeLine → Dens G rho H ys ws → Step rho H rho (upd H a (.lst ws)) ∧ Rep G rho (hh.set i (.lst ys)) (upd H a (.lst ws)) := by
  unfold chL at h
  split at h
  · rename_i i
    split at h
    · rename_i xs e
      obtain ⟨p, e2, e3⟩ := Option.map_eq_some_iff.mp h
      cases e3
      rw [Den] at q
      obtain ⟨a, e1, rfl⟩ := q
      obtain ⟨vs, e4, l, z⟩ := R.ob i a _ e1 e
      refine ⟨i, a, xs, p.2, vs, rfl, e1, rfl, e4, l, z, by rw [e2], rfl, fun ws hl hz => ?_⟩
      have S : Step rho H rho (upd H a (.lst ws)) := .put (List.mem_of_getElem? e1)
      exact ⟨S, R.put e1 ⟨ws, upd_same, hl, Dens.step R S _ _ hz⟩⟩
    · cases h
  · cases h
end
def appendO : OpM := fun d ds h => match ds with
  | [e] => chL (fun xs => if xs.length < sizeLine then some (.non, xs ++ [e]) else none) d h
  | _ => none
theorem rz_append {G : Gm} : RzM G "list" rAppend isL appendO where
  ty := fun rho hh H d v R q h => isL_ty R q h
  run := fun rho hh H d ds v vs d' hh' Q R qd qs e k => by
    unfold appendO at e
    split at e
    · rename_i x
      obtain ⟨y, rfl, qy⟩ := dens_one qs
      obtain ⟨i, a, xs, ys, ws, rfl, e1, rfl, e2, l, z, e3, rfl, fin⟩ := chL_of R qd e
      split at e3
      · rename_i hl
        cases e3
        have hw : ws.length < sizeLine := by rw [← z.length]; exact hl
        obtain ⟨S, R'⟩ := fin (ws ++ [y]) (by simp; omega) (z.append ⟨y, [], rfl, qy, rfl⟩)
        exact ⟨a, ws, y, rfl, rfl, e2, hw, k _ rho _ S R' rfl⟩
      · cases e3
    · cases e
def extendO : OpM := fun d ds h => match ds with
  | [e] => match seqL e h with
    | some ys => chL (fun xs => if xs.length + ys.length ≤ sizeLine then some (.non, xs ++ ys) else none) d h
    | none => none
  | _ => none
theorem rz_extend {G : Gm} : RzM G "list" rExtend isL extendO where
  ty := fun rho hh H d v R q h => isL_ty R q h
  run := fun rho hh H d ds v vs d' hh' Q R qd qs e k => by
    unfold extendO at e
    split at e
    · rename_i x
      obtain ⟨y, rfl, qy⟩ := dens_one qs
      split at e
      · rename_i ys es
        obtain ⟨b, us, rfl, e4, l4, z4⟩ := seqL_of R qy es
        obtain ⟨i, a, xs, zs, ws, rfl, e1, rfl, e2, l, z, e3, rfl, fin⟩ := chL_of R qd e
        split at e3
        · rename_i hl
          cases e3
          have hw : ws.length + us.length ≤ sizeLine := by rw [← z.length, ← z4.length]; exact hl
          obtain ⟨S, R'⟩ := fin (ws ++ us) (by simp; omega) (z.append z4)
          exact ⟨a, b, ws, us, rfl, rfl, e2, e4, hw, k _ rho _ S R' rfl⟩
        · cases e3
      · cases e
    · cases e
def insertO : OpM := fun d ds h => match ds with
  | [.int i, e] => chL (fun xs => if xs.length < sizeLine ∧ 0 ≤ i ∧ i < 1000000000 then some (.non, xs.take i.toNat ++ [e] ++ xs.drop i.toNat) else none) d h
  | _ => none
theorem rz_insert {G : Gm} : RzM G "list" (fun x vs H Q => ∃ (l : Addr) (xs : List V) (i : Int) (y : V), x = .ref l ∧ vs = [.int i, y] ∧ H l = some (.lst xs) ∧ xs.length < sizeLine ∧ 0 ≤ i ∧ i < 2 ^ 63 ∧
    Q .non (upd H l (.lst (xs.take i.toNat ++ [y] ++ xs.drop i.toNat)))) isL insertO where
  ty := fun rho hh H d v R q h => isL_ty R q h
  run := fun rho hh H d ds v vs d' hh' Q R qd qs e k => by
    unfold insertO at e
    split at e
    · rename_i i x
      obtain ⟨w, y, rfl, qw, qy⟩ := dens_two qs
      obtain ⟨j, a, xs, ys, ws, rfl, e1, rfl, e2, l, z, e3, rfl, fin⟩ := chL_of R qd e
      split at e3
      · rename_i hl
        cases e3
        have hw : ws.length < sizeLine := by rw [← z.length]; exact hl.1
        obtain ⟨S, R'⟩ := fin (ws.take i.toNat ++ [y] ++ ws.drop i.toNat) (by simp only [List.length_append, List.length_take, List.length_drop, List.length_singleton]; omega) (((z.take i.toNat).append (show Dens G rho H [x] [y] from ⟨y, [], rfl, qy, rfl⟩)).append (z.drop i.toNat))
        exact ⟨a, ws, i, y, rfl, by rw [show w = .int i from qw], e2, hw, hl.2.1, by have := hl.2.2; omega, k _ rho _ S R' rfl⟩
      · cases e3
    · cases e
def popO : OpM := fun d ds h => match ds with
  | [] => chL (fun xs => match xs[xs.length - 1]? with
    | some y => some (y, xs.dropLast)
    | none => none) d h
  | _ => none
theorem Dens.dropLast {G : Gm} {rho : Rm} {H : Hp} {ds : List D} {vs : List V} (h : Dens G rho H ds vs) : Dens G rho H ds.dropLast vs.dropLast := by
  rw [List.dropLast_eq_take, List.dropLast_eq_take, h.length]; exact h.take _
abbrev OpS := D → D → D → Hh → Option Hh
def RzS (G : Gm) (t : TSet) (f : OpS) : Prop := ∀ rho hh H o i d vo vi v hh' (Q : Hp → Prop), Rep G rho hh H → Den G rho H o vo → Den G rho H i vi → Den G rho H d v → f o i d hh = some hh' →
  (∀ H', Step rho H rho H' → Rep G rho hh' H' → Q H') → t vo vi v H Q
def gSubD (mo mi : ME) (f : OpS) : MG := fun d env h => match mo env h with
  | .ok o h1 => match mi env h1 with
    | .ok i h2 => (f o i d h2).map fun h3 => (env, h3)
    | _ => none
  | _ => none
section
variable {X : Cx} {o i : Expr} {mo mi : ME} {t : TSet} {f : OpS} {pos : Pos}
theorem dg_sub (ho : DE X.nox o mo) (hi : DE X.nox i mi) (hs : PSet X t) (z : RzS (Cx.gm X) t f)
    (ha : ∀ v, assign (.Subscript o i pos) X.env v = (do
      let ov ← holding [v] (eval o X.env)
      let iv ← holding [v, ov] (eval i X.env)
      standAt pos
      holding [v, ov, iv] (setItem ov iv v)
      release [v, ov, iv] []) := by intro _; rfl) : DG X (.Subscript o i pos) (gSubD mo mi f) :=
  ⟨pg_weak (pg_sub (PE.nox (ho.run WF takes0)) (PE.nox (hi.run WF takes0)) hs ha) fun v σ H Q ⟨rho, env, hh, d, R, E, q, p⟩ => by
    unfold gSubD at p
    refine ⟨rho, env, hh, R, E, ?_⟩
    show PostE (Cx.gm X) (Den (Cx.gm X)) _ rho H (mo env hh) _
    cases e1 : mo env hh with
    | stuck => rw [e1] at p; exact p.elim
    | err x h1 => rw [e1] at p; exact p.elim
    | ok od h1 =>
      rw [e1] at p
      intro rho1 H1 ov S1 R1 q1
      refine ⟨rho1, env, h1, R1, E.step R S1, ?_⟩
      show PostE (Cx.gm X) (Den (Cx.gm X)) _ rho1 H1 (mi env h1) _
      simp only at p
      cases e2 : mi env h1 with
      | stuck => rw [e2] at p; exact p.elim
      | err x h1 => rw [e2] at p; exact p.elim
      | ok id h2 =>
        rw [e2] at p
        intro rho2 H2 iv S2 R2 q2
        simp only at p
        cases e3 : f od id d h2 with
        | none => rw [e3] at p; exact p.elim
        | some hh' =>
          rw [e3] at p
          have S12 := S1.trans S2
          exact z rho2 h2 H2 od id d ov iv v hh' _ R2 (Den.step R1 S2 _ _ q1) q2 (Den.step R S12 _ _ q) e3 fun H' S' R' => p rho2 H' σ (S12.trans S') R' (E.step R (S12.trans S'))⟩
end
def setO : OpS := fun o i d h => match o with
  | .ref j => match h[j]? with
    | some (.lst xs) => match i with
      | .int k => (ixN xs.length k).map fun n => h.set j (.lst (xs.set n d))
      | _ => none
    | _ => none
  | _ => none
theorem Dens.set {G : Gm} {rho : Rm} {H : Hp} {d : D} {v : V} (q : Den G rho H d v) : ∀ {ds : List D} {vs : List V} (n : Nat), Dens G rho H ds vs → Dens G rho H (ds.set n d) (vs.set n v)
  | [], vs, n, h => by rw [Dens] at h; subst h; simp [Dens]
  | x :: ds, vs, 0, h => by
    rw [Dens] at h
    obtain ⟨w, r, rfl, a, b⟩ := h
    exact ⟨v, r, rfl, q, b⟩
  | x :: ds, vs, n + 1, h => by
    rw [Dens] at h
    obtain ⟨w, r, rfl, a, b⟩ := h
    exact ⟨w, r.set n v, rfl, a, Dens.set q n b⟩
theorem rz_set {G : Gm} : RzS G rSetL setO := fun rho hh H o i d vo vi v hh' Q R qo qi qd e k => by
  unfold setO at e
  split at e
  · rename_i j
    split at e
    · rename_i xs ex
      split at e
      · rename_i n
        obtain ⟨m, e1, rfl⟩ := Option.map_eq_some_iff.mp e
        rw [Den] at qo
        obtain ⟨a, e2, rfl⟩ := qo
        obtain ⟨ws, e3, l, z⟩ := R.ob j a _ e2 ex
        have S : Step rho H rho (upd H a (.lst (ws.set m v))) := .put (List.mem_of_getElem? e2)
        refine ⟨a, ws, n, m, rfl, qi, e3, by rw [← z.length]; exact e1, k _ S (R.put e2 ⟨_, upd_same, by simpa using l, Dens.step R S _ _ (z.set qd m)⟩)⟩
      · cases e
    · cases e
  · cases e

end MR

namespace MR
open PySem PySem.Spec PyProof.Rows L2

section
variable {G : Gm} {rho : Rm} {H : Hp} {hh : Hh}
/-- a thing is laid and set apart -/
theorem new_held (R : Rep G rho hh H) {p : Addr} {o : HO} (hp : H p = none) : Step rho H (rho.hold p) (upd H p o) ∧ Rep G (rho.hold p) hh (upd H p o) ∧ p ∉ rho.at_ := by
  refine ⟨.laidR hp, ?_, fun hm => ?_⟩
  · exact ⟨R.nd, fun a m => by
      rcases List.mem_cons.mp m with e | m
      · rw [e]; exact ⟨_, upd_same⟩
      · obtain ⟨o', e⟩ := R.hd a m
        exact ⟨o', by rw [upd_ne (ne_of_none e hp)]; exact e⟩, R.len, fun i a o' e1 e2 => (R.ob i a o' e1 e2).step R (.laidR hp) (fun u q => by rw [upd_ne (ne_of_none q hp)]; exact q) fun dx q => by rw [upd_ne (ne_of_none q hp)]; exact q⟩
  · obtain ⟨u, e, _⟩ := R.mut hm
    rw [hp] at e; cases e
end

section
variable {κ : Type} [DecidableEq κ] {α : Type}
def getG (kvs : List (κ × α)) (k : κ) : Option α := (kvs.find? fun kv => decide (kv.1 = k)).map (·.2)
def putG (kvs : List (κ × α)) (k : κ) (v : α) : List (κ × α) :=
  if (kvs.any fun kv => decide (kv.1 = k)) = true then kvs.map (fun kv => if kv.1 = k then (kv.1, v) else kv) else kvs ++ [(k, v)]
def dropG (kvs : List (κ × α)) (k : κ) : List (κ × α) := kvs.filter fun kv => decide (kv.1 ≠ k)
def mergeG (kvs more : List (κ × α)) : List (κ × α) := more.foldl (fun acc kv => putG acc kv.1 kv.2) kvs
end
def keyD (d : D) : Option Key := match d with
  | .int i => some (.inl i)
  | .str x => some (.inr x)
  | _ => none
abbrev KD (G : Gm) (rho : Rm) (H : Hp) : List (Key × D) → List (Key × V) → Prop := Paired fun (p : Key × D) (q : Key × V) => p.1 = q.1 ∧ Den G rho H p.2 q.2
section
variable {G : Gm} {rho rho' : Rm} {H H' : Hp} {hh : Hh}
theorem KD.step (R : Rep G rho hh H) (S : Step rho H rho' H') {a : List (Key × D)} {b : List (Key × V)} (h : KD G rho H a b) : KD G rho' H' a b := Paired.mapP h fun p q r => ⟨r.1, Den.step R S _ _ r.2⟩
theorem KD.get {a : List (Key × D)} {b : List (Key × V)} (h : KD G rho H a b) {k : Key} {d : D} (e : getG a k = some d) : ∃ v, valV b k = some v ∧ Den G rho H d v := by
  induction h with
  | nil => cases e
  | @cons p q ps qs r t ih =>
    unfold getG at e
    rw [List.find?_cons] at e
    by_cases hk : p.1 = k
    · simp only [hk, decide_true, Option.map_some, Option.some.injEq] at e
      subst e
      exact ⟨q.2, valV_pos (r.1.symm.trans hk), r.2⟩
    · simp only [hk, decide_false] at e
      obtain ⟨v, e1, e2⟩ := ih e
      exact ⟨v, by rw [valV_neg (fun z => hk (r.1.trans z))]; exact e1, e2⟩
theorem KD.any {a : List (Key × D)} {b : List (Key × V)} (h : KD G rho H a b) (k : Key) : (a.any fun kv => decide (kv.1 = k)) = (b.any fun kv => decide (kv.1 = k)) := by
  induction h with
  | nil => rfl
  | @cons p q ps qs r t ih => simp only [List.any_cons, ih, r.1]
theorem KD.none {a : List (Key × D)} {b : List (Key × V)} (h : KD G rho H a b) {k : Key} (e : getG a k = none) : valV b k = none := by
  induction h with
  | nil => rfl
  | @cons p q ps qs r t ih =>
    unfold getG at e
    rw [List.find?_cons] at e
    by_cases hk : p.1 = k
    · simp [hk] at e
    · simp only [hk, decide_false] at e
      rw [valV_neg (fun z => hk (r.1.trans z))]
      exact ih e
theorem KD.append {a a2 : List (Key × D)} {b b2 : List (Key × V)} (h : KD G rho H a b) (h2 : KD G rho H a2 b2) : KD G rho H (a ++ a2) (b ++ b2) := by
  induction h with
  | nil => exact h2
  | cons r t ih => exact .cons r ih
theorem KD.put {a : List (Key × D)} {b : List (Key × V)} (h : KD G rho H a b) (k : Key) {d : D} {v : V} (q : Den G rho H d v) : KD G rho H (putG a k d) (putK b k v) := by
  unfold putG putK
  rw [← h.any k]
  split
  · rename_i hany
    clear hany
    induction h with
    | nil => exact .nil
    | @cons p q' ps qs r t ih =>
      rw [List.map_cons, List.map_cons]
      refine .cons ?_ ih
      by_cases hk : p.1 = k
      · rw [if_pos hk, if_pos (r.1.symm.trans hk)]
        exact ⟨r.1, q⟩
      · rw [if_neg hk, if_neg (fun z => hk (r.1.trans z))]
        exact r
  · exact h.append (.cons ⟨rfl, q⟩ .nil)
theorem KD.drop {a : List (Key × D)} {b : List (Key × V)} (h : KD G rho H a b) (k : Key) : KD G rho H (dropG a k) (dropK b k) := by
  unfold dropG dropK
  induction h with
  | nil => exact .nil
  | @cons p q ps qs r t ih =>
    rw [List.filter_cons, List.filter_cons, ← r.1]
    split
    · exact .cons r ih
    · exact ih
theorem KD.merge {more : List (Key × D)} {rs : List (Key × V)} (h : KD G rho H more rs) : ∀ {a : List (Key × D)} {b : List (Key × V)}, KD G rho H a b → KD G rho H (mergeG a more) (mergeK b rs) := by
  unfold mergeG mergeK
  induction h with
  | nil => intro a b q; exact q
  | @cons p q ps qs r t ih =>
    intro a b z
    rw [List.foldl_cons, List.foldl_cons, ← r.1]
    exact ih (z.put p.1 r.2)
theorem keyD_of {d : D} {k : Key} {v : V} (h : keyD d = some k) (q : Den G rho H d v) : v = kV k := by
  cases d with
  | int i => cases h; exact q
  | str x => cases h; exact q
  | non => cases h
  | bl b => cases h
  | tup b => cases h
  | wtp b => cases h
  | lst b => cases h
  | ref b => cases h
  | glb b => cases h
  | scr b => cases h
  | dct a b => cases h
end
def aPairs : List (ME × ME) → DEnv → Hh → Res (List (D × D))
  | [], _, h => .ok [] h
  | (a, b) :: r, env, h => (a env h).bind fun x h1 => (b env h1).bind fun y h2 => (aPairs r env h2).bind fun ps h3 => .ok ((x, y) :: ps) h3
def keyDs : List (D × D) → Option (List (Key × D))
  | [] => some []
  | (a, b) :: r => match keyD a, keyDs r with
    | some k, some ks => some ((k, b) :: ks)
    | _, _ => none
def eDisp (prs : List (ME × ME)) : ME := fun env h => (aPairs prs env h).bind fun ps h1 => match keyDs ps with
  | some kvs => if kvs.length ≤ 15 then .ok (.ref h1.length) (h1 ++ [.dK (mergeG [] kvs)]) else .stuck
  | none => .stuck
section
variable {G : Gm} {W : WX} {σ : L2.St} {env : DEnv}
end
structure DPs (X : Cx) (pos : Pos) (keys : List (Option Expr)) (values : List Expr) (prs : List (ME × ME)) : Prop where
  run : ∀ W, Takes X W → PPs X pos keys values (prs.map fun p => (TD (Cx.gm X) W p.1, TD (Cx.gm X) W p.2))
section
variable {X : Cx} {pos : Pos} {keys : List (Option Expr)} {values : List Expr} {prs : List (ME × ME)} {k v : Expr} {mk mv : ME}
end

def ixDO : Op2 := fun a b h => match a with
  | .ref i => match h[i]? with
    | some (.dK kvs) => match keyD b with
      | some k => getG kvs k
      | none => none
    | _ => none
  | _ => none
def rIxD : R2 := fun x y H Q => ∃ a kvs k v, x = .ref a ∧ H a = some (.dK kvs) ∧ y = kV k ∧ valV kvs k = some v ∧ Q v H
theorem ix_dict {X : Cx} (hu : X.A.units + 1 < cLine) : IxR X rIxD := by
  intro value slice pins s σ H x y v u Q I rx ry h hs
  obtain ⟨a, kvs, k, z, rfl, ha, rfl, hv, q⟩ := h
  cases rx
  have g : DGet H a (kV k) (some z) := by rw [← hv]; exact .k ha
  exact tail_any (dict_typeIs I g) PySem.F.slot_dict_getitem.lookup (d_getItem hu I g ry fun w' s' I' r' => ⟨z, H, I', r', q⟩) hs
theorem rz_ixD {G : Gm} : Rz2 G rIxD ixDO := fun rho hh H d1 d2 v1 v2 d Q R q1 q2 e k => by
  unfold ixDO at e
  split at e
  · rename_i i
    split at e
    · rename_i kvs e1
      split at e
      · rename_i key e2
        rw [Den] at q1
        obtain ⟨a, e3, rfl⟩ := q1
        obtain ⟨fvs, e4, l, z⟩ := R.ob i a _ e3 e1
        obtain ⟨v, e5, qv⟩ := KD.get z e
        exact ⟨a, fvs, key, v, rfl, e4, keyD_of e2 q2, e5, k _ H .refl R qv⟩
      · cases e
    · cases e
  · cases e
/-- an item of anything -/
def ixA : Op2 := fun a b h => match ixO a b h with
  | some d => some d
  | none => ixDO a b h
theorem rz_ixA {G : Gm} : Rz2 G (fun x y H Q => rIx G.K x y H Q ∨ rIxD x y H Q) ixA := fun rho hh H d1 d2 v1 v2 d Q R q1 q2 e k => by
  unfold ixA at e
  split at e
  · rename_i d' e1
    cases e
    exact .inl (rz_ix rho hh H d1 d2 v1 v2 d Q R q1 q2 e1 k)
  · exact .inr (rz_ixD rho hh H d1 d2 v1 v2 d Q R q1 q2 e k)
theorem de_ixA {X : Cx} {a b : Expr} {ma mb : ME} {pos : Pos} (hu : X.A.units + 1 < cLine) (ha : DE X a ma) (hb : DE X b mb) (hs : PlainIx b := by intro _ _; rfl) : DE X (.Subscript a b pos) (eOp2 ixA ma mb) := de_ix (ix_seq.or (ix_dict hu)) rz_ixA ha hb hs
end MR

namespace MR
open PySem PySem.Spec PyProof.Rows L2

theorem hu65 {k : Nat} {A : Around} (r : Room k A) : A.units + 65 < cLine := by have := r.un; omega

section
variable {P : Program} {w : World} {K : PySem.W.Frag} {mg : Str → Option Value} {base : Heap}
/-- what is new is dropped; what stood may have changed, within -/
noncomputable def dropF (F : MF) : MF := fun ds h => match F ds h with
  | .ok d h' => open Classical in if bel h.length d = true ∧ h.length ≤ h'.length ∧ ∀ (i : Nat) o, i < h.length → h'[i]? = some o → h[i]? = some o ∨ O.bel h.length o then .ok d (h'.take h.length) else .stuck
  | .err x h' => .err x h'
  | .stuck => .stuck
theorem dropF_of {F : MF} {ds : List D} {h h' : Hh} {d : D} (e : F ds h = .ok d h') (b : bel h.length d = true) (hl : h.length ≤ h'.length) (ho : ∀ (i : Nat) o, i < h.length → h'[i]? = some o → h[i]? = some o ∨ O.bel h.length o) :
    dropF F ds h = .ok d (h'.take h.length) := by
  unfold dropF
  rw [e]
  exact if_pos ⟨b, hl, ho⟩
theorem FnD.drop {k : Nat} {f : Addr} {fd : FuncData} {ps : List Str} {F : MF} (h : FnD P w K mg base k f fd ps F) : FnD P w K mg base k f fd ps (dropF F) :=
  FnOk.imp h fun vs H Q E ⟨hl, rho, hh, ds, R, q, p⟩ => ⟨hl, rho, hh, ds, R, q, by
    unfold dropF at p
    cases e : F ds hh with
    | ok d hh' =>
      rw [e] at p
      simp only at p
      split at p
      · rename_i hc
        obtain ⟨hb, hle, ho⟩ := hc
        intro rho' H' v S R' q'
        obtain ⟨ex, ee, hex⟩ := S.ext
        have b' : bel rho.at_.length d = true := by rw [R.len]; exact hb
        have h2 : ∀ a, a ∉ rho'.at_ → a ∉ rho'.res → a ∉ rho.res := fun a _ n m => n (S.kept a m)
        refine p rho H' v S.drop ⟨R.nd, fun a m => let ⟨o', e⟩ := R.hd a m; S.there a o' e, by rw [List.length_take, R.len]; omega, fun i a o e1 e2 => ?_⟩ (Den.res ⟨ex, ee⟩ h2 d v q' b')
        have hi : i < hh.length := by rw [← R.len]; exact (List.getElem?_eq_some_iff.mp e1).1
        have e3 : hh'[i]? = some o := by
          rw [List.getElem?_take] at e2
          simpa [hi] using e2
        refine (R'.ob i a o (S.get e1) e3).res ⟨ex, ee⟩ h2 ?_
        rcases ho i o hi e3 with z | z
        · exact (R.ob i a o e1 z).bel
        · rw [R.len]; exact z
      · exact p.elim
    | err x hh' => rw [e] at p; exact p
    | stuck => rw [e] at p; exact p⟩
end

/-- a def of the module -/
structure Fd (K : PySem.W.Frag) (mg : Str → Option Value) (x : Str) (st : Stmt) (ps : List Str) where
  f : Addr
  fd : FuncData
  F : Fun K x x st f fd
  g : mg x = some (.ref f)
  b : Binds K fd ps []
  r : ∀ (s : Shared) (us : List Value), us.length = ps.length → BindsTo s fd ⟨us, []⟩ (ps.zip us)
def mkFd {K : PySem.W.Frag} {h : Heap} {mg : Str → Option Value} (X : K.In h) (G : h.Ns mainGlobals mg) {x : Str} {st : Stmt} {ps : List Str} {f : Addr} {oc : Value} {od an : Option Addr} {osl : Array (Option Value)} {kV doc pm cdv ct : Value}
    (a : PySem.W.nsIn K mainGlobals x = some (some (.ref f))) (l : K.lookup f = some ⟨oc, od, .func (PySem.W.fnOf x x (defArgs st) (defBody st) (defScope st) .none kV doc pm an cdv ct), osl⟩) (c : PySem.W.codeIn K cdv x = true) (k : PySem.W.keepIn K (.ref f) = true)
    (hb : ∀ (kV doc pm : Value) (an : Option Addr) (cdv ct : Value) (us : List Value), us.length = ps.length → bindArgs (PySem.W.fnOf x x (defArgs st) (defBody st) (defScope st) .none kV doc pm an cdv ct) ⟨us, []⟩ = pure (ps.zip us)) : Fd K mg x st ps :=
  ⟨f, _, fun_mk l c k, PySem.W.mg_of X G a, (fun_mk l c k).binds hb, fun s us hl => .of_eq (hb _ _ _ _ _ _ us hl)⟩
/-- a def that stands at another name y -/
structure FdA (K : PySem.W.Frag) (mg : Str → Option Value) (y x : Str) (st : Stmt) (ps : List Str) where
  f : Addr
  fd : FuncData
  F : Fun K x x st f fd
  g : mg y = some (.ref f)
  b : Binds K fd ps []
  r : ∀ (s : Shared) (us : List Value), us.length = ps.length → BindsTo s fd ⟨us, []⟩ (ps.zip us)
/-- a constant of the module -/
structure Cn (P : Program) (w : World) (K : PySem.W.Frag) (mg : Str → Option Value) (x : Str) (d : D) where
  v : V
  u : Value
  g : mg x = some u
  r : RelV v u
  q : ∀ rho H, Den ⟨P, w, K⟩ rho H d v
def mkInt {P : Program} {w : World} {K : PySem.W.Frag} {h : Heap} {mg : Str → Option Value} (X : K.In h) (G : h.Ns mainGlobals mg) {x : Str} {i : Int} {t : Tok} (a : PySem.W.nsIn K mainGlobals x = some (some (.int i t))) : Cn P w K mg x (.int i) :=
  ⟨.int i, .int i t, PySem.W.mg_of X G a, ⟨t, rfl⟩, fun _ _ => rfl⟩
def mkStr {P : Program} {w : World} {K : PySem.W.Frag} {h : Heap} {mg : Str → Option Value} (X : K.In h) (G : h.Ns mainGlobals mg) {x : Str} {i : Str} {t : Tok} (a : PySem.W.nsIn K mainGlobals x = some (some (.str i t))) : Cn P w K mg x (.str i) :=
  ⟨.str i, .str i t, PySem.W.mg_of X G a, ⟨t, rfl⟩, fun _ _ => rfl⟩
/-- texts as they stand in a tuple of the module -/
theorem strs_dens {G : Gm} {rho : Rm} {H : Hp} : ∀ (xs : List Str), Dens G rho H (xs.map D.str) (xs.map V.str)
  | [] => rfl
  | x :: xs => ⟨.str x, xs.map V.str, rfl, rfl, strs_dens xs⟩
theorem strs_vals : ∀ (xs : List (Str × Tok)), Vals (xs.map fun p => V.str p.1) (xs.map fun p => Value.str p.1 p.2)
  | [] => .nil
  | x :: xs => .cons ⟨x.2, rfl⟩ (strs_vals xs)
def mkTupS {P : Program} {w : World} {K : PySem.W.Frag} {h : Heap} {mg : Str → Option Value} (X : K.In h) (G : h.Ns mainGlobals mg) {x : Str} {xs : List Str} {us : List Value} {f : Addr} {n : Nat} {sl : Array (Option Value)}
    (a : PySem.W.nsIn K mainGlobals x = some (some (.ref f))) (l : K.lookup f = some ⟨.type "tuple", none, .seq us.toArray n, sl⟩) (r : Vals (xs.map V.str) us) (hz : us.length ≤ sizeLine) : Cn P w K mg x (.tup (xs.map D.str)) :=
  ⟨.ref f, .ref f, PySem.W.mg_of X G a, rfl, fun rho H => by
    rw [Den]
    exact ⟨f, xs.map V.str, rfl, .inr ⟨_, us.toArray, n, l, rfl, rfl, rfl, by simpa using hz, by simpa using r⟩, by rw [r.length]; exact hz, strs_dens xs⟩⟩
theorem de_cn {X : Cx} {x : Str} {d : D} {pos : Pos} (hg : Gl X x) (c : Cn X.prog X.w X.K X.mg x d) (hd : (x == ("__debug__" : Str)) = false := by decide) : DE X (.Name x pos) (eC d) := de_glbD hg c.g c.r c.q hd

theorem sp_law {P : Program} {w : World} {K : PySem.W.Frag} {F : MF} {n : Nat} (hn : n ≤ sizeLine) (h : ∀ ns : List Int, ns.length ≤ n → ∃ h', F [.scr ns] [] = .ok (.bl true) h') (H : Hp) (a : Addr) (ns : List Int) (hl : ns.length ≤ n) (hO : Only H) (hS : SqL K H a (ns.map V.int)) :
    spD ⟨P, w, K⟩ 1 F [.ref a] H (fun v _ => v = .bl true) fun _ _ _ => False := by
  obtain ⟨h', e⟩ := h ns hl
  refine ⟨rfl, ⟨[], []⟩, [], [.scr ns], ⟨List.nodup_nil, (fun a h => absurd h (by simp)), rfl, (fun i a o e => by simp at e)⟩, ⟨.ref a, [], rfl, ?_, rfl⟩, ?_⟩
  · rw [Den]
    refine ⟨a, rfl, ?_, Nat.le_trans hl hn⟩
    rcases hS with (hS | hS) | hS
    · rcases hO a with z | ⟨o, xs, z⟩
      · rw [hS] at z; cases z
      · rw [hS] at z; cases z
    · exact .inl hS
    · exact .inr hS
  · rw [e]
    intro rho' H' v S R q
    exact q
theorem cx_law {P : Program} {w : World} {H : Hp} {s : Shared} {e : Value} {s' : Shared} (h : L2.CX P w [] H s (fun _ _ _ => False) e s') : False := by
  obtain ⟨_, _, _, _, _, _, _, _, _, _, _, _, z⟩ := h
  exact z
end MR

namespace MR
open PySem PySem.Spec PyProof.Rows L2

section
variable {X : Cx}
/-- a type's name as a value -/
theorem de_tyN {x : Str} {T : String} {pos : Pos} (hg : Gl X x) (hm : X.mg x = none) (hv : bootBuiltins x = some (.type T)) (hn : x ≠ "__name__" := by decide) (hd : (x == ("__debug__" : Str)) = false := by decide) : DE X (.Name x pos) (eC (.glb (.ty T))) :=
  de_bltn hg hm hv rfl hn hd
end

def isBO (neg : Bool) : Op2 := fun a b _ => match a, b with
  | .bl x, .bl y => some (.bl (if neg then !decide (x = y) else decide (x = y)))
  | _, _ => none
def seqA (d : D) (h : Hh) : Option (List D) := match d with
  | .tup xs => some xs
  | .scr ns => some (ns.map D.int)
  | d => seqL d h
theorem seqA_of {G : Gm} {rho : Rm} {hh : Hh} {H : Hp} {d : D} {v : V} {ds : List D} (R : Rep G rho hh H) (q : Den G rho H d v) (e : seqA d hh = some ds) :
    ∃ a vs, v = .ref a ∧ (SqL G.K H a vs ∨ SqT G.K H a vs) ∧ vs.length ≤ sizeLine ∧ Dens G rho H ds vs := by
  unfold seqA at e
  split at e
  · rename_i xs
    cases e
    rw [Den] at q
    obtain ⟨a, ws, rfl, h1, l, z⟩ := q
    exact ⟨a, ws, rfl, .inr h1.t, by rw [← z.length]; have := z.length; omega, z⟩
  · rename_i ns
    cases e
    rw [Den] at q
    obtain ⟨a, rfl, hs, l⟩ := q
    refine ⟨a, ns.map V.int, rfl, .inl ?_, by simpa using l, dens_ints ns⟩
    rcases hs with ⟨o, hs⟩ | hs
    · exact .inl (.inr ⟨o, hs⟩)
    · exact .inr hs
  · obtain ⟨a, vs, rfl, h1, l, z⟩ := seqL_of R q e
    exact ⟨a, vs, rfl, .inl (SqL.of h1), l, z⟩
/-- the items of a sequence -/
def aSeq (m : ME) : MA := fun env h => (m env h).bind fun d h1 => lift (seqA d h1) h1
section
variable {X : Cx} {e : Expr} {m : ME} {pos p : Pos} {x : Str}
theorem dl_list1 (hg : Gl X x) (hm : X.mg x = none) (hv : bootBuiltins x = some (.type "list")) (ha : DE X e m)
    (hn : x ≠ "__name__" := by decide) (hdb : (x == ("__debug__" : Str)) = false := by decide) (he : starEach [e] X.env = (false, eval e X.env) :: starEach [] X.env := by rfl) (hpl : (backTo pos (starEach [] X.env)).any (·.1) = false := by rfl) :
    DL X (.Call (.Name x p) [e] [] pos) (aSeq m) :=
  ⟨fun W tk => pe_weak (pe_callTy call_list_of hg hm hv ((da_cons ha da_nil he).run W tk) hn hdb he hpl) fun σ H Q hq => by
    obtain ⟨rho, env, hh, R, E, p⟩ := hq
    refine ⟨rho, env, hh, R, E, ?_⟩
    unfold aSeq at p
    unfold aCons aNil
    cases e1 : m env hh with
    | stuck => rw [e1] at p; exact p
    | err z h1 => rw [e1] at p; exact p
    | ok d h1 =>
      rw [e1, bind_ok] at p
      rw [bind_ok, bind_ok]
      intro rho1 H1 vs S1 R1 q1
      obtain ⟨v, rfl, qv⟩ := dens_one q1
      cases e2 : seqA d h1 with
      | none => rw [e2] at p; exact p.elim
      | some ds =>
        rw [e2] at p
        obtain ⟨a, ws, rfl, hs, l, z⟩ := seqA_of R1 qv e2
        refine ⟨a, ws, rfl, hs, fun pp hp => ?_⟩
        obtain ⟨a, b, c, d⟩ := new_list S1 R1 z hp
        exact p _ _ pp ws a b upd_same List.mem_cons_self c (S1.back hp) l d⟩
/-- {} -/
def eDict0 : ME := fun _ h => .ok (.ref h.length) (h ++ [.dK []])
theorem de_dict0 : DE X (.Dict [] [] pos) eDict0 := ⟨fun W tk => pe_weak pe_dnewK fun σ H Q ⟨rho, env, hh, R, E, p⟩ pp hp => by
  obtain ⟨S0, R0, na⟩ := new_held (o := .dK []) R hp
  refine p _ _ _ (S0.turn hp) (R0.turn (List.mem_cons_self) na ⟨_, upd_same, Nat.zero_le _, .nil⟩) ?_
  rw [Den]
  exact ⟨pp, by rw [← R.len]; show (rho.at_ ++ [pp])[_]? = _; rw [List.getElem?_append_right (Nat.le_refl _)]; simp, rfl⟩⟩
end

theorem fn_stuck {P : Program} {w : World} {K : PySem.W.Frag} {mg : Str → Option Value} {base : Heap} {k : Nat} {f : Addr} {fd : FuncData} {ps : List Str} : FnD P w K mg base k f fd ps (fun _ _ => .stuck) :=
  ⟨fun vs H Q E h => h.1, fun A outer s H args us vs Q E hr he hb hv ⟨hl, rho, hh, ds, R, q, p⟩ => p.elim⟩
end MR

namespace MR
open PySem PySem.Spec PyProof.Rows L2

section
variable {α β : Type}
@[simp] theorem ev_bind_ok (a : α) (h : Hh) (f : α → Hh → Res β) : (Res.ok a h).bind f = f a h := rfl
@[simp] theorem ev_bind_err (x : Exn) (h : Hh) (f : α → Hh → Res β) : (Res.err x h).bind f = .err x h := rfl
@[simp] theorem ev_bind_stuck (f : α → Hh → Res β) : (Res.stuck : Res α).bind f = .stuck := rfl
@[simp] theorem ev_lift_some (a : α) (h : Hh) : lift (some a) h = .ok a h := rfl
@[simp] theorem ev_lift_none (h : Hh) : lift (none : Option α) h = .stuck := rfl
@[simp] theorem ev_st_ok (a : α) (h : Hh) (env : DEnv) (f : α → Hh → RS) : (Res.ok a h).st env f = f a h := rfl
@[simp] theorem ev_st_err (x : Exn) (h : Hh) (env : DEnv) (f : α → Hh → RS) : (Res.err x h).st env f = .er x env h := rfl
@[simp] theorem ev_seq_nx (env : DEnv) (h : Hh) (f : DEnv → Hh → RS) : (RS.nx env h).seq f = f env h := rfl
@[simp] theorem ev_seq_rt (d : D) (h : Hh) (f : DEnv → Hh → RS) : (RS.rt d h).seq f = .rt d h := rfl
@[simp] theorem ev_seq_bk (env : DEnv) (h : Hh) (f : DEnv → Hh → RS) : (RS.bk env h).seq f = .bk env h := rfl
@[simp] theorem ev_seq_ct (env : DEnv) (h : Hh) (f : DEnv → Hh → RS) : (RS.ct env h).seq f = .ct env h := rfl
@[simp] theorem ev_seq_er (x : Exn) (env : DEnv) (h : Hh) (f : DEnv → Hh → RS) : (RS.er x env h).seq f = .er x env h := rfl
@[simp] theorem ev_lb_nx (env : DEnv) (h : Hh) (f : DEnv → Hh → RS) : loopBack (.nx env h) f = f env h := rfl
@[simp] theorem ev_lb_ct (env : DEnv) (h : Hh) (f : DEnv → Hh → RS) : loopBack (.ct env h) f = f env h := rfl
@[simp] theorem ev_lb_bk (env : DEnv) (h : Hh) (f : DEnv → Hh → RS) : loopBack (.bk env h) f = .nx env h := rfl
@[simp] theorem ev_lb_rt (d : D) (h : Hh) (f : DEnv → Hh → RS) : loopBack (.rt d h) f = .rt d h := rfl
@[simp] theorem ev_RSof (env : DEnv) (h : Hh) : RSof (some (env, h)) = .nx env h := rfl
@[simp] theorem ev_noErr (a : α) (h : Hh) : noErr (.ok a h) = .ok a h := rfl
end

/-- what a slot gives -/
def slotR (o : Option (Option D)) (h : Hh) : Res D := match o with
  | some (some d) => .ok d h
  | _ => .stuck
@[simp] theorem ev_slotR (d : D) (h : Hh) : slotR (some (some d)) h = .ok d h := rfl
@[simp] theorem ev_slot (i : Nat) (env : DEnv) (h : Hh) : eSlot i env h = slotR env[i]? h := rfl
@[simp] theorem ev_c (d : D) (env : DEnv) (h : Hh) : eC d env h = .ok d h := rfl
def k_op2 (f : Op2) (b : ME) (env : DEnv) : D → Hh → Res D := fun x h1 => (b env h1).bind fun y h2 => lift (f x y h2) h2
def k_op2' (f : Op2) (x : D) : D → Hh → Res D := fun y h2 => lift (f x y h2) h2
@[simp] theorem ev_op2 (f : Op2) (a b : ME) (env : DEnv) (h : Hh) : eOp2 f a b env h = (a env h).bind (k_op2 f b env) := rfl
@[simp] theorem ev_k_op2 (f : Op2) (b : ME) (env : DEnv) (x : D) (h : Hh) : k_op2 f b env x h = (b env h).bind (k_op2' f x) := rfl
@[simp] theorem ev_k_op2' (f : Op2) (x y : D) (h : Hh) : k_op2' f x y h = lift (f x y h) h := rfl
def k_opN (f : OpN) : List D → Hh → Res D := fun xs h1 => lift (f xs h1) h1
@[simp] theorem ev_opN (f : OpN) (as : MA) (env : DEnv) (h : Hh) : eOpN f as env h = (as env h).bind (k_opN f) := rfl
@[simp] theorem ev_k_opN (f : OpN) (xs : List D) (h : Hh) : k_opN f xs h = lift (f xs h) h := rfl
@[simp] theorem ev_nil (env : DEnv) (h : Hh) : aNil env h = .ok [] h := rfl
def k_cons (as : MA) (env : DEnv) : D → Hh → Res (List D) := fun x h1 => (as env h1).bind fun xs h2 => .ok (x :: xs) h2
def k_cons' (x : D) : List D → Hh → Res (List D) := fun xs h2 => .ok (x :: xs) h2
@[simp] theorem ev_cons (a : ME) (as : MA) (env : DEnv) (h : Hh) : aCons a as env h = (a env h).bind (k_cons as env) := rfl
@[simp] theorem ev_k_cons (as : MA) (env : DEnv) (x : D) (h : Hh) : k_cons as env x h = (as env h).bind (k_cons' x) := rfl
@[simp] theorem ev_k_cons' (x : D) (xs : List D) (h : Hh) : k_cons' x xs h = .ok (x :: xs) h := rfl
def k_tup : List D → Hh → Res D := fun xs h1 => .ok (.tup xs) h1
@[simp] theorem ev_tup (ms : MA) (env : DEnv) (h : Hh) : eTup ms env h = (ms env h).bind k_tup := rfl
@[simp] theorem ev_k_tup (xs : List D) (h : Hh) : k_tup xs h = .ok (.tup xs) h := rfl
def k_frz : List D → Hh → Res D := fun xs h1 => .ok (.lst xs) h1
@[simp] theorem ev_frz (ms : MA) (env : DEnv) (h : Hh) : eFrz ms env h = (ms env h).bind k_frz := rfl
@[simp] theorem ev_k_frz (xs : List D) (h : Hh) : k_frz xs h = .ok (.lst xs) h := rfl
def k_new : List D → Hh → Res D := fun xs h1 => .ok (.ref h1.length) (h1 ++ [.lst xs])
@[simp] theorem ev_new (ms : MA) (env : DEnv) (h : Hh) : eNew ms env h = (ms env h).bind k_new := rfl
@[simp] theorem ev_k_new (xs : List D) (h : Hh) : k_new xs h = .ok (.ref h.length) (h ++ [.lst xs]) := rfl
def k_seqM : D → Hh → Res (List D) := fun d h1 => lift (seqA d h1) h1
@[simp] theorem ev_seqM (m : ME) (env : DEnv) (h : Hh) : aSeq m env h = (m env h).bind k_seqM := rfl
@[simp] theorem ev_k_seqM (d : D) (h : Hh) : k_seqM d h = lift (seqA d h) h := rfl
@[simp] theorem ev_seqAT (xs : List D) (h : Hh) : seqA (.tup xs) h = some xs := rfl
@[simp] theorem ev_seqAL (xs : List D) (h : Hh) : seqA (.lst xs) h = some xs := rfl
@[simp] theorem ev_dict0 (env : DEnv) (h : Hh) : eDict0 env h = .ok (.ref h.length) (h ++ [.dK []]) := rfl
def k_tE : D → Hh → Res Bool := fun d h1 => lift (asB d) h1
@[simp] theorem ev_tE (m : ME) (env : DEnv) (h : Hh) : tE m env h = (m env h).bind k_tE := rfl
@[simp] theorem ev_k_tE (d : D) (h : Hh) : k_tE d h = lift (asB d) h := rfl
@[simp] theorem ev_asB (b : Bool) : asB (.bl b) = some b := rfl
def k_tAnd (b : MT) (env : DEnv) : Bool → Hh → Res Bool := fun k h1 => if k = true then b env h1 else .ok false h1
@[simp] theorem ev_tAnd (a b : MT) (env : DEnv) (h : Hh) : tAnd a b env h = (a env h).bind (k_tAnd b env) := rfl
@[simp] theorem ev_k_tAnd1 (b : MT) (env : DEnv) (h : Hh) : k_tAnd b env true h = b env h := rfl
@[simp] theorem ev_k_tAnd0 (b : MT) (env : DEnv) (h : Hh) : k_tAnd b env false h = .ok false h := rfl
def k_tOr (b : MT) (env : DEnv) : Bool → Hh → Res Bool := fun k h1 => if k = true then .ok true h1 else b env h1
@[simp] theorem ev_tOr (a b : MT) (env : DEnv) (h : Hh) : tOr a b env h = (a env h).bind (k_tOr b env) := rfl
@[simp] theorem ev_k_tOr1 (b : MT) (env : DEnv) (h : Hh) : k_tOr b env true h = .ok true h := rfl
@[simp] theorem ev_k_tOr0 (b : MT) (env : DEnv) (h : Hh) : k_tOr b env false h = b env h := rfl
def k_tNot : Bool → Hh → Res Bool := fun k h1 => .ok (!k) h1
@[simp] theorem ev_tNot (a : MT) (env : DEnv) (h : Hh) : tNot a env h = (a env h).bind k_tNot := rfl
@[simp] theorem ev_k_tNot (k : Bool) (h : Hh) : k_tNot k h = .ok (!k) h := rfl
def k_eAnd (b : ME) (env : DEnv) : D → Hh → Res D := fun d h1 => (lift (asB d) h1).bind fun k h2 => if k = true then b env h2 else .ok (.bl false) h2
@[simp] theorem ev_eAnd (a b : ME) (env : DEnv) (h : Hh) : eAnd a b env h = (a env h).bind (k_eAnd b env) := rfl
@[simp] theorem ev_k_eAnd1 (b : ME) (env : DEnv) (h : Hh) : k_eAnd b env (.bl true) h = b env h := rfl
@[simp] theorem ev_k_eAnd0 (b : ME) (env : DEnv) (h : Hh) : k_eAnd b env (.bl false) h = .ok (.bl false) h := rfl
def k_eOr (b : ME) (env : DEnv) : D → Hh → Res D := fun d h1 => (lift (asB d) h1).bind fun k h2 => if k = true then .ok (.bl true) h2 else b env h2
@[simp] theorem ev_eOr (a b : ME) (env : DEnv) (h : Hh) : eOr a b env h = (a env h).bind (k_eOr b env) := rfl
@[simp] theorem ev_k_eOr1 (b : ME) (env : DEnv) (h : Hh) : k_eOr b env (.bl true) h = .ok (.bl true) h := rfl
@[simp] theorem ev_k_eOr0 (b : ME) (env : DEnv) (h : Hh) : k_eOr b env (.bl false) h = b env h := rfl
def k_eNot : D → Hh → Res D := fun d h1 => (lift (asB d) h1).bind fun k h2 => .ok (.bl (!k)) h2
@[simp] theorem ev_eNot (a : ME) (env : DEnv) (h : Hh) : eNot a env h = (a env h).bind k_eNot := rfl
@[simp] theorem ev_k_eNot (k : Bool) (h : Hh) : k_eNot (.bl k) h = .ok (.bl (!k)) h := rfl
def k_eIf (a b : ME) (env : DEnv) : Bool → Hh → Res D := fun k h1 => if k = true then a env h1 else b env h1
@[simp] theorem ev_eIf (t : MT) (a b : ME) (env : DEnv) (h : Hh) : eIf t a b env h = (t env h).bind (k_eIf a b env) := rfl
@[simp] theorem ev_k_eIf1 (a b : ME) (env : DEnv) (h : Hh) : k_eIf a b env true h = a env h := rfl
@[simp] theorem ev_k_eIf0 (a b : ME) (env : DEnv) (h : Hh) : k_eIf a b env false h = b env h := rfl
def k_neg : D → Hh → Res D := fun d h1 => lift (match d with | .int i => some (.int (-i)) | _ => none) h1
@[simp] theorem ev_neg (m : ME) (env : DEnv) (h : Hh) : eNeg m env h = (m env h).bind k_neg := rfl
@[simp] theorem ev_k_neg (i : Int) (h : Hh) : k_neg (.int i) h = .ok (.int (-i)) h := rfl
def k_ch1 (f g : Op2) (b c : ME) (env : DEnv) : D → Hh → Res D := fun x h1 => (b env h1).bind fun y h2 => (lift (f x y h2) h2).bind fun z h3 => (lift (asB z) h3).bind fun k h4 => if k = true then (c env h4).bind fun u h5 => lift (g y u h5) h5 else .ok (.bl false) h4
def k_ch2 (f g : Op2) (c : ME) (env : DEnv) (x : D) : D → Hh → Res D := fun y h2 => (lift (f x y h2) h2).bind fun z h3 => (lift (asB z) h3).bind fun k h4 => if k = true then (c env h4).bind fun u h5 => lift (g y u h5) h5 else .ok (.bl false) h4
def k_ch3 (g : Op2) (c : ME) (env : DEnv) (y : D) : D → Hh → Res D := fun z h3 => (lift (asB z) h3).bind fun k h4 => if k = true then (c env h4).bind fun u h5 => lift (g y u h5) h5 else .ok (.bl false) h4
@[simp] theorem ev_chain (f g : Op2) (a b c : ME) (env : DEnv) (h : Hh) : eChain f g a b c env h = (a env h).bind (k_ch1 f g b c env) := rfl
@[simp] theorem ev_k_ch1 (f g : Op2) (b c : ME) (env : DEnv) (x : D) (h : Hh) : k_ch1 f g b c env x h = (b env h).bind (k_ch2 f g c env x) := rfl
@[simp] theorem ev_k_ch2 (f g : Op2) (c : ME) (env : DEnv) (x y : D) (h : Hh) : k_ch2 f g c env x y h = (lift (f x y h) h).bind (k_ch3 g c env y) := rfl
@[simp] theorem ev_k_ch31 (g : Op2) (c : ME) (env : DEnv) (y : D) (h : Hh) : k_ch3 g c env y (.bl true) h = (c env h).bind (k_op2' g y) := rfl
@[simp] theorem ev_k_ch30 (g : Op2) (c : ME) (env : DEnv) (y : D) (h : Hh) : k_ch3 g c env y (.bl false) h = .ok (.bl false) h := rfl
def k_sl1 (lo hi : MO) (env : DEnv) : D → Hh → Res D := fun d h1 => (lo env h1).bind fun l h2 => (hi env h2).bind fun u h3 => lift (sliceO d l u h3) h3
def k_sl2 (hi : MO) (env : DEnv) (d : D) : Option Int → Hh → Res D := fun l h2 => (hi env h2).bind fun u h3 => lift (sliceO d l u h3) h3
def k_sl3 (d : D) (l : Option Int) : Option Int → Hh → Res D := fun u h3 => lift (sliceO d l u h3) h3
@[simp] theorem ev_slice (m : ME) (lo hi : MO) (env : DEnv) (h : Hh) : eSlice m lo hi env h = (m env h).bind (k_sl1 lo hi env) := rfl
@[simp] theorem ev_k_sl1 (lo hi : MO) (env : DEnv) (d : D) (h : Hh) : k_sl1 lo hi env d h = (lo env h).bind (k_sl2 hi env d) := rfl
@[simp] theorem ev_k_sl2 (hi : MO) (env : DEnv) (d : D) (l : Option Int) (h : Hh) : k_sl2 hi env d l h = (hi env h).bind (k_sl3 d l) := rfl
@[simp] theorem ev_k_sl3 (d : D) (l u : Option Int) (h : Hh) : k_sl3 d l u h = lift (sliceO d l u h) h := rfl
@[simp] theorem ev_oNone (env : DEnv) (h : Hh) : oNone env h = .ok none h := rfl
def k_some : D → Hh → Res (Option Int) := fun d h1 => lift ((asI d).map some) h1
@[simp] theorem ev_oSome (m : ME) (env : DEnv) (h : Hh) : oSome m env h = (m env h).bind k_some := rfl
@[simp] theorem ev_k_some (i : Int) (h : Hh) : k_some (.int i) h = .ok (some i) h := rfl
@[simp] theorem ev_asI (i : Int) : asI (.int i) = some i := rfl
def k_call (F : MF) : List D → Hh → Res D := fun ds h1 => F ds h1
@[simp] theorem ev_call (F : MF) (ms : MA) (env : DEnv) (h : Hh) : eCall F ms env h = (ms env h).bind (k_call F) := rfl
@[simp] theorem ev_k_call (F : MF) (ds : List D) (h : Hh) : k_call F ds h = F ds h := rfl
def k_m1 (ok : D → Hh → Bool) (f : OpM) (ms : MA) (env : DEnv) : D → Hh → Res D := fun d h1 => if ok d h1 = true then (ms env h1).bind fun ds h2 => liftM (f d ds h2) else .stuck
def k_m2 (f : OpM) (ms : MA) (env : DEnv) (d : D) (h1 : Hh) (k : Bool) : Res D := if k = true then (ms env h1).bind fun ds h2 => liftM (f d ds h2) else .stuck
def k_m3 (f : OpM) (d : D) : List D → Hh → Res D := fun ds h2 => liftM (f d ds h2)
@[simp] theorem ev_meth (ok : D → Hh → Bool) (f : OpM) (m : ME) (ms : MA) (env : DEnv) (h : Hh) : eMeth ok f m ms env h = (m env h).bind (k_m1 ok f ms env) := rfl
@[simp] theorem ev_k_m1 (ok : D → Hh → Bool) (f : OpM) (ms : MA) (env : DEnv) (d : D) (h : Hh) : k_m1 ok f ms env d h = k_m2 f ms env d h (ok d h) := rfl
@[simp] theorem ev_k_m2 (f : OpM) (ms : MA) (env : DEnv) (d : D) (h : Hh) : k_m2 f ms env d h true = (ms env h).bind (k_m3 f d) := rfl
@[simp] theorem ev_k_m3 (f : OpM) (d : D) (ds : List D) (h : Hh) : k_m3 f d ds h = liftM (f d ds h) := rfl
@[simp] theorem ev_liftM {α : Type} (a : α) (h : Hh) : liftM (some (a, h)) = .ok a h := rfl
def k_disp : List (D × D) → Hh → Res D := fun ps h1 => match keyDs ps with
  | some kvs => if kvs.length ≤ 15 then .ok (.ref h1.length) (h1 ++ [.dK (mergeG [] kvs)]) else .stuck
  | none => .stuck
def k_disp' (h1 : Hh) : Option (List (Key × D)) → Res D := fun o => match o with
  | some kvs => if kvs.length ≤ 15 then .ok (.ref h1.length) (h1 ++ [.dK (mergeG [] kvs)]) else .stuck
  | none => .stuck
@[simp] theorem ev_disp (prs : List (ME × ME)) (env : DEnv) (h : Hh) : eDisp prs env h = (aPairs prs env h).bind k_disp := rfl
@[simp] theorem ev_k_disp (ps : List (D × D)) (h : Hh) : k_disp ps h = k_disp' h (keyDs ps) := rfl
@[simp] theorem ev_k_disp' (h : Hh) (kvs : List (Key × D)) : k_disp' h (some kvs) = if kvs.length ≤ 15 then .ok (.ref h.length) (h ++ [.dK (mergeG [] kvs)]) else .stuck := rfl
@[simp] theorem ev_keyDs0 : keyDs [] = some [] := rfl
@[simp] theorem ev_keyDsI (i : Int) (b : D) (r : List (D × D)) : keyDs ((.int i, b) :: r) = (keyDs r).map ((.inl i, b) :: ·) := by
  show (match keyD (.int i), keyDs r with | some k, some ks => some ((k, b) :: ks) | _, _ => none) = _
  cases keyDs r <;> rfl
@[simp] theorem ev_keyDsS (i : Str) (b : D) (r : List (D × D)) : keyDs ((.str i, b) :: r) = (keyDs r).map ((.inr i, b) :: ·) := by
  show (match keyD (.str i), keyDs r with | some k, some ks => some ((k, b) :: ks) | _, _ => none) = _
  cases keyDs r <;> rfl
@[simp] theorem ev_prs_nil (env : DEnv) (h : Hh) : aPairs [] env h = .ok [] h := rfl
def k_p1 (v : ME) (r : List (ME × ME)) (env : DEnv) : D → Hh → Res (List (D × D)) := fun x h1 => (v env h1).bind fun y h2 => (aPairs r env h2).bind fun ps h3 => .ok ((x, y) :: ps) h3
def k_p2 (r : List (ME × ME)) (env : DEnv) (x : D) : D → Hh → Res (List (D × D)) := fun y h2 => (aPairs r env h2).bind fun ps h3 => .ok ((x, y) :: ps) h3
def k_p3 (x y : D) : List (D × D) → Hh → Res (List (D × D)) := fun ps h3 => .ok ((x, y) :: ps) h3
@[simp] theorem ev_prs_cons (k v : ME) (r : List (ME × ME)) (env : DEnv) (h : Hh) : aPairs ((k, v) :: r) env h = (k env h).bind (k_p1 v r env) := rfl
@[simp] theorem ev_k_p1 (v : ME) (r : List (ME × ME)) (env : DEnv) (x : D) (h : Hh) : k_p1 v r env x h = (v env h).bind (k_p2 r env x) := rfl
@[simp] theorem ev_k_p2 (r : List (ME × ME)) (env : DEnv) (x y : D) (h : Hh) : k_p2 r env x y h = (aPairs r env h).bind (k_p3 x y) := rfl
@[simp] theorem ev_k_p3 (x y : D) (ps : List (D × D)) (h : Hh) : k_p3 x y ps h = .ok ((x, y) :: ps) h := rfl
@[simp] theorem ev_sSeq (a b : MS) (env : DEnv) (h : Hh) : sSeq a b env h = (a env h).seq b := rfl
@[simp] theorem ev_sNext (env : DEnv) (h : Hh) : sNext env h = .nx env h := rfl
def k_drop (env : DEnv) : D → Hh → RS := fun _ h1 => .nx env h1
@[simp] theorem ev_sDrop (m : ME) (env : DEnv) (h : Hh) : sDrop m env h = (m env h).st env (k_drop env) := rfl
@[simp] theorem ev_k_drop (env : DEnv) (d : D) (h : Hh) : k_drop env d h = .nx env h := rfl
def k_ret : D → Hh → RS := fun d h1 => .rt d h1
@[simp] theorem ev_sRet (m : ME) (env : DEnv) (h : Hh) : sRet m env h = (m env h).st env k_ret := rfl
@[simp] theorem ev_k_ret (d : D) (h : Hh) : k_ret d h = .rt d h := rfl
@[simp] theorem ev_sRetN (env : DEnv) (h : Hh) : sRetN env h = .rt .non h := rfl
def k_if (a b : MS) (env : DEnv) : Bool → Hh → RS := fun k h1 => if k = true then a env h1 else b env h1
@[simp] theorem ev_sIf (t : MT) (a b : MS) (env : DEnv) (h : Hh) : sIf t a b env h = (t env h).st env (k_if a b env) := rfl
@[simp] theorem ev_k_if1 (a b : MS) (env : DEnv) (h : Hh) : k_if a b env true h = a env h := rfl
@[simp] theorem ev_k_if0 (a b : MS) (env : DEnv) (h : Hh) : k_if a b env false h = b env h := rfl
@[simp] theorem ev_sBreak (env : DEnv) (h : Hh) : sBreak env h = .bk env h := rfl
@[simp] theorem ev_sCont (env : DEnv) (h : Hh) : sCont env h = .ct env h := rfl
def k_asg (g : MG) (env : DEnv) : D → Hh → RS := fun d h1 => RSof (g d env h1)
@[simp] theorem ev_sAsg (m : ME) (g : MG) (env : DEnv) (h : Hh) : sAsg m g env h = (m env h).st env (k_asg g env) := rfl
@[simp] theorem ev_k_asg (g : MG) (env : DEnv) (d : D) (h : Hh) : k_asg g env d h = RSof (g d env h) := rfl
@[simp] theorem ev_gName (i : Nat) (d : D) (env : DEnv) (h : Hh) : gName i d env h = some (env.set i (some d), h) := rfl
@[simp] theorem ev_gNil (env : DEnv) (h : Hh) : gNil [] env h = some (env, h) := rfl
@[simp] theorem ev_gCons (i : Nat) (gs : MGs) (d : D) (r : List D) (env : DEnv) (h : Hh) : gCons (gName i) gs (d :: r) env h = gs r (env.set i (some d)) h := rfl
@[simp] theorem ev_gTup (n : Nat) (gs : MGs) (ds : List D) (env : DEnv) (h : Hh) : gTup n gs (.tup ds) env h = if ds.length = n then gs ds env h else none := rfl
def k_par (i j : Nat) (env : DEnv) : List D → Hh → RS := fun ds h1 => match ds with
  | [d1, d2] => .nx ((env.set i (some d1)).set j (some d2)) h1
  | _ => .stuck
@[simp] theorem ev_sPar (i j : Nat) (ms : MA) (env : DEnv) (h : Hh) : sPar i j ms env h = (ms env h).st env (k_par i j env) := rfl
@[simp] theorem ev_k_par (i j : Nat) (env : DEnv) (d1 d2 : D) (h : Hh) : k_par i j env [d1, d2] h = .nx ((env.set i (some d1)).set j (some d2)) h := rfl
def k_iA (f : List D → Hh → Option Src) : List D → Hh → Res Src := fun ds h1 => lift (f ds h1) h1
@[simp] theorem ev_iA (f : List D → Hh → Option Src) (ms : MA) (env : DEnv) (h : Hh) : iA f ms env h = (ms env h).bind (k_iA f) := rfl
@[simp] theorem ev_k_iA (f : List D → Hh → Option Src) (ds : List D) (h : Hh) : k_iA f ds h = lift (f ds h) h := rfl
def k_iOf : D → Hh → Res Src := fun d h1 => lift (srcOf d h1) h1
@[simp] theorem ev_iOf (m : ME) (env : DEnv) (h : Hh) : iOf m env h = (m env h).bind k_iOf := rfl
@[simp] theorem ev_k_iOf (d : D) (h : Hh) : k_iOf d h = lift (srcOf d h) h := rfl
noncomputable def k_for (T : Tg) (b : MS) (env : DEnv) : Src → Hh → RS := fun src h1 => forL src.live (bodyT T b) src.items env h1
@[simp] theorem ev_sFor (mi : MI) (T : Tg) (b : MS) (env : DEnv) (h : Hh) : sFor mi T b env h = (mi env h).st env (k_for T b env) := rfl
@[simp] theorem ev_k_for (T : Tg) (b : MS) (env : DEnv) (src : Src) (h : Hh) : k_for T b env src h = forL src.live (bodyT T b) src.items env h := rfl
@[simp] theorem ev_gOk (h : Hh) : gOk none h ↔ True := ⟨fun _ => trivial, fun _ _ _ e => by cases e⟩
@[simp] theorem ev_for_nil (body : D → DEnv → Hh → RS) (env : DEnv) (h : Hh) : forL none body [] env h = .nx env h := by unfold forL; simp
@[simp] theorem ev_for_cons (body : D → DEnv → Hh → RS) (d : D) (ds : List D) (env : DEnv) (h : Hh) : forL none body (d :: ds) env h = loopBack (body d env h) (forL none body ds) := by
  conv => lhs; unfold forL
  rw [if_pos ((ev_gOk h).mpr trivial)]
def k_bd (b : MS) (h : Hh) : Option DEnv → RS := fun o => match o with | some env' => b env' h | none => .stuck
@[simp] theorem ev_bodyT (T : Tg) (b : MS) (d : D) (env : DEnv) (h : Hh) : bodyT T b d env h = k_bd b h (bindT T d env) := rfl
@[simp] theorem ev_k_bd (b : MS) (h : Hh) (env : DEnv) : k_bd b h (some env) = b env h := rfl
@[simp] theorem ev_bindN (i : Nat) (d : D) (env : DEnv) : bindT (.name i) d env = some (env.set i (some d)) := rfl
@[simp] theorem ev_bindT (is : List Nat) (ds : List D) (env : DEnv) : bindT (.tup is) (.tup ds) env = if ds.length = is.length then some (setAll is ds env) else none := rfl
@[simp] theorem ev_bindW (is : List Nat) (ds : List D) (env : DEnv) : bindT (.tup is) (.wtp ds) env = if ds.length = is.length then some (setAll is ds env) else none := rfl
@[simp] theorem ev_setAll0 (env : DEnv) : setAll [] [] env = env := rfl
@[simp] theorem ev_setAll (i : Nat) (is : List Nat) (d : D) (ds : List D) (env : DEnv) : setAll (i :: is) (d :: ds) env = setAll is ds (env.set i (some d)) := rfl
noncomputable def k_comp (T : Tg) (t : MT) (e : ME) (env : DEnv) : Src → Hh → Res (List D) := fun src h1 => noErr (compL src.live T t e env src.items h1)
@[simp] theorem ev_aComp (mi : MI) (T : Tg) (t : MT) (e : ME) (vs : List Nat) (env : DEnv) (h : Hh) : aComp mi T t e vs env h = (mi env h).bind (k_comp T t e (wipeE env vs)) := rfl
@[simp] theorem ev_k_comp (T : Tg) (t : MT) (e : ME) (env : DEnv) (src : Src) (h : Hh) : k_comp T t e env src h = noErr (compL src.live T t e env src.items h) := rfl
@[simp] theorem ev_wipe0 (env : DEnv) : wipeE env [] = env := rfl
@[simp] theorem ev_wipe (env : DEnv) (v : Nat) (vs : List Nat) : wipeE env (v :: vs) = (wipeE env vs).set v none := rfl
@[simp] theorem ev_comp_nil (T : Tg) (t : MT) (e : ME) (env : DEnv) (h : Hh) : compL none T t e env [] h = .ok [] h := by unfold compL; simp
noncomputable def k_c0 (T : Tg) (t : MT) (e : ME) (env : DEnv) (ds : List D) (h : Hh) : Option DEnv → Res (List D) := fun o => match o with
  | some env' => (t env' h).bind fun k h1 => if k = true then (e env' h1).bind fun y h2 => (compL none T t e env ds h2).bind fun ys h3 => .ok (y :: ys) h3 else compL none T t e env ds h1
  | none => .stuck
noncomputable def k_c1 (T : Tg) (t : MT) (e : ME) (env env' : DEnv) (ds : List D) : Bool → Hh → Res (List D) := fun k h1 => if k = true then (e env' h1).bind fun y h2 => (compL none T t e env ds h2).bind fun ys h3 => .ok (y :: ys) h3 else compL none T t e env ds h1
noncomputable def k_c2 (T : Tg) (t : MT) (e : ME) (env : DEnv) (ds : List D) : D → Hh → Res (List D) := fun y h2 => (compL none T t e env ds h2).bind fun ys h3 => .ok (y :: ys) h3
@[simp] theorem ev_comp_cons (T : Tg) (t : MT) (e : ME) (env : DEnv) (d : D) (ds : List D) (h : Hh) : compL none T t e env (d :: ds) h = k_c0 T t e env ds h (bindT T d env) := by
  conv => lhs; unfold compL
  simp
  rfl
@[simp] theorem ev_k_c0 (T : Tg) (t : MT) (e : ME) (env env' : DEnv) (ds : List D) (h : Hh) : k_c0 T t e env ds h (some env') = (t env' h).bind (k_c1 T t e env env' ds) := rfl
@[simp] theorem ev_k_c11 (T : Tg) (t : MT) (e : ME) (env env' : DEnv) (ds : List D) (h : Hh) : k_c1 T t e env env' ds true h = (e env' h).bind (k_c2 T t e env ds) := rfl
@[simp] theorem ev_k_c10 (T : Tg) (t : MT) (e : ME) (env env' : DEnv) (ds : List D) (h : Hh) : k_c1 T t e env env' ds false h = compL none T t e env ds h := rfl
@[simp] theorem ev_k_c2 (T : Tg) (t : MT) (e : ME) (env : DEnv) (ds : List D) (y : D) (h : Hh) : k_c2 T t e env ds y h = (compL none T t e env ds h).bind (k_cons' y) := rfl
/-- what a body's end gives -/
def outR : RS → Res D
  | .nx _ h' => .ok .non h'
  | .rt d h' => .ok d h'
  | .er x _ h' => .err x h'
  | _ => .stuck
@[simp] theorem ev_out_nx (env : DEnv) (h : Hh) : outR (.nx env h) = .ok .non h := rfl
@[simp] theorem ev_out_rt (d : D) (h : Hh) : outR (.rt d h) = .ok d h := rfl
theorem run_eq {n : Nat} {N : List Str} {b : MS} {ds : List D} {h : Hh} (hn : ds.length = n) : runF n N b ds h = outR (b (startD N ds) h) := by
  unfold runF
  rw [if_pos hn]
  cases b (startD N ds) h <;> rfl

@[simp] theorem ev_start (N : List Str) (ds : List D) : startD N ds = ds.map some ++ List.replicate (N.length - ds.length) none := rfl
@[simp] theorem ev_run0 (N : List Str) (b : MS) (h : Hh) : runF 0 N b [] h = outR (b (startD N []) h) := run_eq rfl
@[simp] theorem ev_run1 (N : List Str) (b : MS) (x0 : D) (h : Hh) : runF 1 N b [x0] h = outR (b (startD N [x0]) h) := run_eq rfl
@[simp] theorem ev_run2 (N : List Str) (b : MS) (x0 x1 : D) (h : Hh) : runF 2 N b [x0, x1] h = outR (b (startD N [x0, x1]) h) := run_eq rfl
@[simp] theorem ev_run3 (N : List Str) (b : MS) (x0 x1 x2 : D) (h : Hh) : runF 3 N b [x0, x1, x2] h = outR (b (startD N [x0, x1, x2]) h) := run_eq rfl
@[simp] theorem ev_run4 (N : List Str) (b : MS) (x0 x1 x2 x3 : D) (h : Hh) : runF 4 N b [x0, x1, x2, x3] h = outR (b (startD N [x0, x1, x2, x3]) h) := run_eq rfl
@[simp] theorem ev_run5 (N : List Str) (b : MS) (x0 x1 x2 x3 x4 : D) (h : Hh) : runF 5 N b [x0, x1, x2, x3, x4] h = outR (b (startD N [x0, x1, x2, x3, x4]) h) := run_eq rfl
@[simp] theorem ev_run6 (N : List Str) (b : MS) (x0 x1 x2 x3 x4 x5 : D) (h : Hh) : runF 6 N b [x0, x1, x2, x3, x4, x5] h = outR (b (startD N [x0, x1, x2, x3, x4, x5]) h) := run_eq rfl
@[simp] theorem ev_run7 (N : List Str) (b : MS) (x0 x1 x2 x3 x4 x5 x6 : D) (h : Hh) : runF 7 N b [x0, x1, x2, x3, x4, x5, x6] h = outR (b (startD N [x0, x1, x2, x3, x4, x5, x6]) h) := run_eq rfl
theorem deq {α : Type} [BEq α] [LawfulBEq α] [DecidableEq α] {x y : α} : (x == y) = decide (x = y) := by
  by_cases h : x = y
  · subst h; simp
  · rw [decide_eq_false h]; exact beq_eq_false_iff_ne.mpr h
@[simp] theorem ev_add (i j : Int) (h : Hh) : addO (.int i) (.int j) h = some (.int (i + j)) := rfl
@[simp] theorem ev_addT (xs ys : List D) (h : Hh) : addO (.tup xs) (.tup ys) h = if xs.length + ys.length ≤ sizeLine then some (.tup (xs ++ ys)) else none := rfl
@[simp] theorem ev_addL (xs ys : List D) (h : Hh) : addO (.lst xs) (.lst ys) h = if xs.length + ys.length ≤ sizeLine then some (.lst (xs ++ ys)) else none := rfl
@[simp] theorem ev_sub (i j : Int) (h : Hh) : subO (.int i) (.int j) h = some (.int (i - j)) := rfl
@[simp] theorem ev_lt (i j : Int) (h : Hh) : ltO (.int i) (.int j) h = some (.bl (decide (i < j))) := rfl
@[simp] theorem ev_le (i j : Int) (h : Hh) : leO (.int i) (.int j) h = some (.bl (decide (i ≤ j))) := rfl
@[simp] theorem ev_gt (i j : Int) (h : Hh) : gtO (.int i) (.int j) h = some (.bl (decide (j < i))) := rfl
@[simp] theorem ev_ge (i j : Int) (h : Hh) : geO (.int i) (.int j) h = some (.bl (decide (j ≤ i))) := rfl
@[simp] theorem ev_mod (i j : Int) (h : Hh) : modO (.int i) (.int j) h = if 0 < j then some (.int (i % j)) else none := rfl
@[simp] theorem ev_fdiv (i j : Int) (h : Hh) : fdivO (.int i) (.int j) h = if 0 < j ∧ j < 1073741824 then some (.int (i / j)) else none := rfl
@[simp] theorem ev_pow (i j : Int) (h : Hh) : powO (.int i) (.int j) h = if 0 ≤ j ∧ j ≤ 1000000 ∧ i.natAbs < 18446744073709551616 then some (.int (i ^ j.toNat)) else none := rfl
@[simp] theorem ev_eqI (i j : Int) (h : Hh) : eqO (.int i) (.int j) h = some (.bl (decide (i = j))) := by
  rw [← deq]
  rfl
@[simp] theorem ev_neI (i j : Int) (h : Hh) : neO (.int i) (.int j) h = some (.bl (!(decide (i = j)))) := by
  rw [← deq]
  rfl
theorem shaped_str {x : Str} (h : PyData.strOk x = true) : SeqAt.shaped (.str x) = true := by simp [SeqAt.shaped, PyData.canLay0, PyData.depth, h]
theorem ev_eqS (x y : Str) (h : Hh) (hx : PyData.strOk x = true) (hy : PyData.strOk y = true) : eqO (.str x) (.str y) h = some (.bl (decide (x = y))) := by
  rw [← deq]
  have e1 : pyOf (.str x) h = some (.str x) := if_pos (shaped_str hx)
  have e2 : pyOf (.str y) h = some (.str y) := if_pos (shaped_str hy)
  unfold eqO
  rw [e1, e2]
  rfl
@[simp] theorem ev_eqB (x y : Bool) (h : Hh) : eqO (.bl x) (.bl y) h = some (.bl (decide (x = y))) := by cases x <;> cases y <;> rfl
@[simp] theorem ev_neB (x y : Bool) (h : Hh) : neO (.bl x) (.bl y) h = some (.bl (!decide (x = y))) := by cases x <;> cases y <;> rfl
@[simp] theorem ev_max (i j : Int) (h : Hh) : max2O [.int i, .int j] h = some (.int (if j > i then j else i)) := rfl
@[simp] theorem ev_min (i j : Int) (h : Hh) : min2O [.int i, .int j] h = some (.int (if j < i then j else i)) := rfl
@[simp] theorem ev_int1 (i : Int) (h : Hh) : int1O [.int i] h = some (.int i) := rfl
@[simp] theorem ev_int1b (b : Bool) (h : Hh) : int1O [.bl b] h = some (.int (if b then 1 else 0)) := rfl
@[simp] theorem ev_lenT (xs : List D) (h : Hh) : lenO [.tup xs] h = some (.int xs.length) := rfl
@[simp] theorem ev_lenL (xs : List D) (h : Hh) : lenO [.lst xs] h = some (.int xs.length) := rfl
@[simp] theorem ev_lenScr (ns : List Int) (h : Hh) : lenO [.scr ns] h = some (.int ns.length) := rfl
@[simp] theorem ev_isi (d : D) (T : String) (h : Hh) : isiO [d, .glb (.ty T)] h = (tyName d h).bind fun t => (kitB t T).map D.bl := rfl
@[simp] theorem ev_tyNon (h : Hh) : tyName .non h = some "NoneType" := rfl
@[simp] theorem ev_tyB (b : Bool) (h : Hh) : tyName (.bl b) h = some "bool" := rfl
@[simp] theorem ev_tyI (i : Int) (h : Hh) : tyName (.int i) h = some "int" := rfl
@[simp] theorem ev_tyS (x : Str) (h : Hh) : tyName (.str x) h = some "str" := rfl
@[simp] theorem ev_tyT (xs : List D) (h : Hh) : tyName (.tup xs) h = some "tuple" := rfl
@[simp] theorem ev_tyL (xs : List D) (h : Hh) : tyName (.lst xs) h = some "list" := rfl
@[simp] theorem ev_tyScr (ns : List Int) (h : Hh) : tyName (.scr ns) h = some "list" := rfl
@[simp] theorem ev_isN (h : Hh) (neg : Bool) : isNO neg .non .non h = some (.bl (!neg)) := rfl
@[simp] theorem ev_isNI (h : Hh) (neg : Bool) (i : Int) : isNO neg (.int i) .non h = some (.bl neg) := rfl
@[simp] theorem ev_isNB (h : Hh) (neg : Bool) (i : Bool) : isNO neg (.bl i) .non h = some (.bl neg) := rfl
@[simp] theorem ev_isNS (h : Hh) (neg : Bool) (i : Str) : isNO neg (.str i) .non h = some (.bl neg) := rfl
@[simp] theorem ev_isNT (h : Hh) (neg : Bool) (i : List D) : isNO neg (.tup i) .non h = some (.bl neg) := rfl
@[simp] theorem ev_isNL (h : Hh) (neg : Bool) (i : List D) : isNO neg (.lst i) .non h = some (.bl neg) := rfl
@[simp] theorem ev_isNR (h : Hh) (neg : Bool) (i : Nat) : isNO neg (.ref i) .non h = some (.bl neg) := rfl
@[simp] theorem ev_isB (h : Hh) (a b neg : Bool) : isBO neg (.bl a) (.bl b) h = some (.bl (if neg then !decide (a = b) else decide (a = b))) := rfl
@[simp] theorem ev_ixT (ds : List D) (i : Int) (h : Hh) : ixA (.tup ds) (.int i) h = atI ds i := by
  unfold ixA
  have e : ixO (.tup ds) (.int i) h = atI ds i := rfl
  rw [e]
  cases atI ds i <;> rfl
@[simp] theorem ev_ixL (ds : List D) (i : Int) (h : Hh) : ixA (.lst ds) (.int i) h = atI ds i := by
  unfold ixA
  have e : ixO (.lst ds) (.int i) h = atI ds i := rfl
  rw [e]
  cases atI ds i <;> rfl
@[simp] theorem ev_ixScr (ns : List Int) (i : Int) (h : Hh) : ixA (.scr ns) (.int i) h = atI (ns.map D.int) i := by
  unfold ixA
  have e : ixO (.scr ns) (.int i) h = atI (ns.map D.int) i := rfl
  rw [e]
  cases atI (ns.map D.int) i <;> rfl
/-- an item of a thing that may change -/
def refIx (o : Option O) (d : D) : Option D := match o with
  | some (.lst ds) => (match d with | .int i => atI ds i | _ => none)
  | some (.dK kvs) => (match keyD d with | some k => getG kvs k | none => none)
  | _ => none
@[simp] theorem ev_ixR (j : Nat) (i : Int) (h : Hh) : ixA (.ref j) (.int i) h = refIx h[j]? (.int i) := by
  show (match (match (match h[j]? with | some (.lst ds) => some ds | _ => none : Option (List D)) with | some ds => atI ds i | none => none : Option D) with
    | some d => some d
    | none => (match h[j]? with | some (.dK kvs) => (match keyD (.int i) with | some k => getG kvs k | none => none) | _ => none : Option D)) = _
  cases h[j]? with
  | none => rfl
  | some o =>
    cases o with
    | lst ds =>
      show (match atI ds i with | some d => some d | none => none : Option D) = atI ds i
      cases atI ds i <;> rfl
    | dK kvs => rfl
    | dN kvs => rfl
    | ins C fs => rfl
    | exc x => rfl
@[simp] theorem ev_ixRS (j : Nat) (x : Str) (h : Hh) : ixA (.ref j) (.str x) h = refIx h[j]? (.str x) := by
  show (match h[j]? with | some (.dK kvs) => (match keyD (.str x) with | some k => getG kvs k | none => none) | _ => none : Option D) = _
  cases h[j]? with
  | none => rfl
  | some o => cases o <;> rfl
@[simp] theorem ev_refIxL (ds : List D) (i : Int) : refIx (some (.lst ds)) (.int i) = atI ds i := rfl
@[simp] theorem ev_refIxI (kvs : List (Key × D)) (i : Int) : refIx (some (.dK kvs)) (.int i) = getG kvs (.inl i) := rfl
@[simp] theorem ev_refIxS (kvs : List (Key × D)) (x : Str) : refIx (some (.dK kvs)) (.str x) = getG kvs (.inr x) := rfl
@[simp] theorem ev_atI0 {α : Type} (x : α) (xs : List α) : atI (x :: xs) 0 = some x := by simp [atI, ixN]
/-- an item by its place -/
@[simp] theorem ev_atIp {α : Type} (xs : List α) (k : Int) (h : 0 ≤ k) : atI xs k = xs[k.toNat]? := by
  unfold atI ixN
  rw [if_pos h]
  by_cases h2 : k < xs.length
  · rw [if_pos h2]; rfl
  · rw [if_neg h2, List.getElem?_eq_none (by omega)]; rfl
@[simp] theorem ev_atIm {α : Type} (xs : List α) (k : Int) (h : k < 0) : atI xs k = if -(xs.length : Int) ≤ k then xs[(k + xs.length).toNat]? else none := by
  unfold atI ixN
  rw [if_neg (by omega)]
  by_cases h2 : -(xs.length : Int) ≤ k
  · rw [if_pos h2, if_pos h2]; rfl
  · rw [if_neg h2, if_neg h2]; rfl
@[simp] theorem ev_ixN (n : Nat) (k : Int) (h : 0 ≤ k) : ixN n k = if k < n then some k.toNat else none := if_pos h
/-- a thing that is written to -/
def refSet (o : Option O) (j : Nat) (i : D) (d : D) (h : Hh) : Option Hh := match o with
  | some (.lst xs) => match i with
    | .int k => (ixN xs.length k).map fun n => h.set j (.lst (xs.set n d))
    | _ => none
  | _ => none
@[simp] theorem ev_set (j : Nat) (i d : D) (h : Hh) : setO (.ref j) i d h = refSet h[j]? j i d h := by
  show (match h[j]? with | some (.lst xs) => (match i with | .int k => (ixN xs.length k).map fun n => h.set j (.lst (xs.set n d)) | _ => none) | _ => none : Option Hh) = _
  cases h[j]? with
  | none => rfl
  | some o => cases o <;> rfl
@[simp] theorem ev_refSet (xs : List D) (j : Nat) (k : Int) (d : D) (h : Hh) : refSet (some (.lst xs)) j (.int k) d h = (ixN xs.length k).map fun n => h.set j (.lst (xs.set n d)) := rfl
/-- where x[i] = d leads -/
def subO' (f : OpS) (d : D) (env : DEnv) (a : Res D) (b : ME) : Option (DEnv × Hh) := match a with
  | .ok o h1 => match b env h1 with
    | .ok i h2 => (f o i d h2).map fun h3 => (env, h3)
    | _ => none
  | _ => none
@[simp] theorem ev_gSub (mo mi : ME) (f : OpS) (d : D) (env : DEnv) (h : Hh) : gSubD mo mi f d env h = subO' f d env (mo env h) mi := rfl
/-- the second step -/
def subO2 (f : OpS) (d o : D) (env : DEnv) (b : Res D) : Option (DEnv × Hh) := match b with
  | .ok i h2 => (f o i d h2).map fun h3 => (env, h3)
  | _ => none
@[simp] theorem ev_subO (f : OpS) (d o : D) (env : DEnv) (h1 : Hh) (b : ME) : subO' f d env (.ok o h1) b = subO2 f d o env (b env h1) := rfl
@[simp] theorem ev_subO2 (f : OpS) (d o i : D) (env : DEnv) (h2 : Hh) : subO2 f d o env (.ok i h2) = (f o i d h2).map fun h3 => (env, h3) := rfl
@[simp] theorem ev_ixN0 (n : Nat) : ixN (n + 1) 0 = some 0 := by simp [ixN]
@[simp] theorem ev_slT (ds : List D) (lo hi : Option Int) (h : Hh) : sliceO (.tup ds) lo hi h = some (.tup (cutG ds lo hi)) := rfl
@[simp] theorem ev_slL (ds : List D) (lo hi : Option Int) (h : Hh) : sliceO (.lst ds) lo hi h = some (.lst (cutG ds lo hi)) := rfl
@[simp] theorem ev_all (bs : List D) (h : Hh) : allO [.lst bs] h = (truths bs).map fun bs => .bl (bs.all id) := rfl
@[simp] theorem ev_any (bs : List D) (h : Hh) : anyO [.lst bs] h = (truths bs).map fun bs => .bl (bs.any id) := rfl
@[simp] theorem ev_truths0 : truths [] = some [] := rfl
@[simp] theorem ev_truths (b : Bool) (ds : List D) : truths (.bl b :: ds) = (truths ds).map (b :: ·) := rfl
@[simp] theorem ev_srcT (ds : List D) (h : Hh) : srcOf (.tup ds) h = some ⟨ds, none⟩ := rfl
@[simp] theorem ev_srcL (ds : List D) (h : Hh) : srcOf (.lst ds) h = some ⟨ds, none⟩ := rfl
@[simp] theorem ev_rng1 (j : Int) (h : Hh) : rng1 [.int j] h = if -1000000 ≤ j ∧ j ≤ 1000000 then some ⟨rangeD 0 j, none⟩ else none := rfl
@[simp] theorem ev_rng2 (i j : Int) (h : Hh) : rng2 [.int i, .int j] h = if (-1000000 ≤ i ∧ i ≤ 1000000) ∧ -1000000 ≤ j ∧ j ≤ 1000000 then some ⟨rangeD i j, none⟩ else none := rfl
@[simp] theorem ev_zpTT (xs ys : List D) (h : Hh) : zp [.tup xs, .tup ys] h = some ⟨zipD xs ys, none⟩ := rfl
@[simp] theorem ev_zpLL (xs ys : List D) (h : Hh) : zp [.lst xs, .lst ys] h = some ⟨zipD xs ys, none⟩ := rfl
@[simp] theorem ev_zip0 (ys : List D) : zipD [] ys = [] := rfl
@[simp] theorem ev_zip1 (x : D) (xs : List D) : zipD (x :: xs) [] = [] := rfl
@[simp] theorem ev_zip2 (x y : D) (xs ys : List D) : zipD (x :: xs) (y :: ys) = .wtp [x, y] :: zipD xs ys := rfl

end MR

namespace MR
open PySem PySem.Spec PyProof.Rows L2

@[simp] theorem ev_sizeLine : sizeLine = 16777216 := sizeLine_eq
def refIsL (o : Option O) : Bool := match o with | some (.lst _) => true | _ => false
@[simp] theorem ev_isLR (j : Nat) (h : Hh) : isL (.ref j) h = refIsL h[j]? := by
  show (match h[j]? with | some (.lst ds) => some ds | _ => none : Option (List D)).isSome = _
  cases h[j]? with
  | none => rfl
  | some o => cases o <;> rfl
@[simp] theorem ev_refIsL (xs : List D) : refIsL (some (.lst xs)) = true := rfl
def refCh (g : List D → Option (D × List D)) (i : Nat) (h : Hh) (o : Option O) : Option (D × Hh) := match o with
  | some (.lst xs) => (g xs).map fun p => (p.1, h.set i (.lst p.2))
  | _ => none
def g_app (e : D) : List D → Option (D × List D) := fun xs => if xs.length < sizeLine then some (.non, xs ++ [e]) else none
def g_ext (ys : List D) : List D → Option (D × List D) := fun xs => if xs.length + ys.length ≤ sizeLine then some (.non, xs ++ ys) else none
def g_ins (i : Int) (e : D) : List D → Option (D × List D) := fun xs => if xs.length < sizeLine ∧ 0 ≤ i ∧ i < 1000000000 then some (.non, xs.take i.toNat ++ [e] ++ xs.drop i.toNat) else none
def g_pop : List D → Option (D × List D) := fun xs => match xs[xs.length - 1]? with
  | some y => some (y, xs.dropLast)
  | none => none
@[simp] theorem ev_app (e : D) (j : Nat) (h : Hh) : appendO (.ref j) [e] h = refCh (g_app e) j h h[j]? := rfl
def extR (j : Nat) (h : Hh) (o : Option (List D)) : Option (D × Hh) := match o with
  | some ys => refCh (g_ext ys) j h h[j]?
  | none => none
@[simp] theorem ev_ext (e : D) (j : Nat) (h : Hh) : extendO (.ref j) [e] h = extR j h (seqL e h) := by
  show (match seqL e h with | some ys => chL (g_ext ys) (.ref j) h | none => none : Option (D × Hh)) = _
  cases seqL e h <;> rfl
@[simp] theorem ev_extR (j : Nat) (h : Hh) (ys : List D) : extR j h (some ys) = refCh (g_ext ys) j h h[j]? := rfl
@[simp] theorem ev_ins (i : Int) (e : D) (j : Nat) (h : Hh) : insertO (.ref j) [.int i, e] h = refCh (g_ins i e) j h h[j]? := rfl
@[simp] theorem ev_pop (j : Nat) (h : Hh) : popO (.ref j) [] h = refCh g_pop j h h[j]? := rfl
@[simp] theorem ev_refCh (g : List D → Option (D × List D)) (i : Nat) (h : Hh) (xs : List D) : refCh g i h (some (.lst xs)) = (g xs).map fun p => (p.1, h.set i (.lst p.2)) := rfl
@[simp] theorem ev_gapp (e : D) (xs : List D) : g_app e xs = if xs.length < 16777216 then some (.non, xs ++ [e]) else none := by rw [← sizeLine_eq]; rfl
@[simp] theorem ev_gext (ys xs : List D) : g_ext ys xs = if xs.length + ys.length ≤ 16777216 then some (.non, xs ++ ys) else none := by rw [← sizeLine_eq]; rfl
@[simp] theorem ev_seqLL (xs : List D) (h : Hh) : seqL (.lst xs) h = some xs := rfl
def refSeq (o : Option O) : Option (List D) := match o with | some (.lst xs) => some xs | _ => none
@[simp] theorem ev_seqLR (j : Nat) (h : Hh) : seqL (.ref j) h = refSeq h[j]? := by
  show (match h[j]? with | some (.lst ds) => some ds | _ => none : Option (List D)) = _
  cases h[j]? with
  | none => rfl
  | some o => cases o <;> rfl
@[simp] theorem ev_refSeq (xs : List D) : refSeq (some (.lst xs)) = some xs := rfl
/-- the list that was laid last -/
@[simp] theorem set_last (h : Hh) (o o' : O) : (h ++ [o]).set h.length o' = h ++ [o'] := by
  induction h with
  | nil => rfl
  | cons x xs ih => simp [ih]
/-- a loop over a thing that may change -/
def refSrc (j : Nat) (o : Option O) : Option Src := match o with
  | some (.lst ds) => some ⟨ds, some (j, ds)⟩
  | _ => none
@[simp] theorem ev_srcR (j : Nat) (h : Hh) : srcOf (.ref j) h = refSrc j h[j]? := by
  show (match h[j]? with | some (.lst ds) => some ⟨ds, some (j, ds)⟩ | _ => none : Option Src) = _
  cases h[j]? with
  | none => rfl
  | some o => cases o <;> rfl
@[simp] theorem ev_refSrc (j : Nat) (ds : List D) : refSrc j (some (.lst ds)) = some ⟨ds, some (j, ds)⟩ := rfl
def lenR (o : Option O) : Option D := match o with
  | some (.lst xs) => some (.int xs.length)
  | some (.dK kvs) => some (.int kvs.length)
  | _ => none
@[simp] theorem ev_lenR (j : Nat) (h : Hh) : lenO [.ref j] h = lenR h[j]? := by
  show (match h[j]? with | some (.lst xs) => some (.int xs.length) | some (.dK kvs) => some (.int kvs.length) | _ => none : Option D) = _
  cases h[j]? with
  | none => rfl
  | some o => cases o <;> rfl
@[simp] theorem ev_lenRL (xs : List D) : lenR (some (.lst xs)) = some (.int xs.length) := rfl
@[simp] theorem ev_lenRD (xs : List (Key × D)) : lenR (some (.dK xs)) = some (.int xs.length) := rfl
def refTy (o : Option O) : Option String := match o with
  | some (.lst _) => some "list"
  | some (.dK _) => some "dict"
  | some (.dN _) => some "dict"
  | _ => none
@[simp] theorem ev_tyR (j : Nat) (h : Hh) : tyName (.ref j) h = refTy h[j]? := by
  show (match h[j]? with | some (.lst _) => some "list" | some (.dK _) => some "dict" | some (.dN _) => some "dict" | _ => none : Option String) = _
  cases h[j]? with
  | none => rfl
  | some o => cases o <;> rfl
@[simp] theorem ev_refTyL (xs : List D) : refTy (some (.lst xs)) = some "list" := rfl
@[simp] theorem ev_refTyD (xs : List (Key × D)) : refTy (some (.dK xs)) = some "dict" := rfl
@[simp] theorem ev_refTyN (xs : List (D × D)) : refTy (some (.dN xs)) = some "dict" := rfl
theorem mem_range {lo hi : Int} {d : D} (h : d ∈ rangeD lo hi) : ∃ k : Int, d = .int k ∧ lo ≤ k ∧ k < hi := by
  unfold rangeD at h
  obtain ⟨i, hi, rfl⟩ := List.mem_map.mp h
  exact ⟨lo + i, rfl, by omega, by have := List.mem_range.mp hi; omega⟩
end MR

namespace MR
open PySem PySem.Spec PyProof.Rows L2

theorem mulE (i j : Int) (h : Hh) : mulO (.int i) (.int j) h = if ((-18446744073709551616 < i ∧ i < 18446744073709551616) ∨ (-18446744073709551616 < j ∧ j < 18446744073709551616)) ∨ i.natAbs.log2 + j.natAbs.log2 < 1000000 then some (.int (i * j)) else none := rfl
/-- plain things, no deeper than n -/
def fit : Nat → D → Bool
  | 0, _ => false
  | n + 1, d => match d with
    | .non => true
    | .bl _ => true
    | .int _ => true
    | .str x => PyData.strOk x
    | .tup ds => ds.all (fit n)
    | .lst ds => ds.all (fit n)
    | _ => false
theorem truths_all {α : Type} (xs : List α) : truths (xs.map fun _ => D.bl true) = some (xs.map fun _ => true) := by
  induction xs with
  | nil => rfl
  | cons x xs ih => simp [ih]
theorem kit_all : kitB "NoneType" "dict" = some false ∧ kitB "NoneType" "list" = some false ∧ kitB "NoneType" "tuple" = some false ∧ kitB "NoneType" "str" = some false ∧ kitB "NoneType" "bool" = some false ∧ kitB "NoneType" "int" = some false := by decide +kernel
theorem kit_bool : kitB "bool" "dict" = some false ∧ kitB "bool" "list" = some false ∧ kitB "bool" "tuple" = some false ∧ kitB "bool" "str" = some false ∧ kitB "bool" "bool" = some true ∧ kitB "bool" "int" = some true := by decide +kernel
theorem kit_int : kitB "int" "dict" = some false ∧ kitB "int" "list" = some false ∧ kitB "int" "tuple" = some false ∧ kitB "int" "str" = some false ∧ kitB "int" "bool" = some false ∧ kitB "int" "int" = some true := by decide +kernel
theorem kit_str : kitB "str" "dict" = some false ∧ kitB "str" "list" = some false ∧ kitB "str" "tuple" = some false ∧ kitB "str" "str" = some true ∧ kitB "str" "bool" = some false ∧ kitB "str" "int" = some false := by decide +kernel
theorem kit_tuple : kitB "tuple" "dict" = some false ∧ kitB "tuple" "list" = some false ∧ kitB "tuple" "tuple" = some true ∧ kitB "tuple" "str" = some false ∧ kitB "tuple" "bool" = some false ∧ kitB "tuple" "int" = some false := by decide +kernel
theorem kit_list : kitB "list" "dict" = some false ∧ kitB "list" "list" = some true ∧ kitB "list" "tuple" = some false ∧ kitB "list" "str" = some false ∧ kitB "list" "bool" = some false ∧ kitB "list" "int" = some false := by decide +kernel
/-- where the numbers that are left stand -/
def Lf (h : Hh) (i : Nat) : Prop := ∃ a b c : Int, h[i]? = some (.lst [.int a, .int b, .int c]) ∧ 0 ≤ a ∧ 0 ≤ b ∧ b < 2147483648 ∧ 0 ≤ c
/-- all the rest stands as it stood -/
def Nx (i : Nat) (h h' : Hh) : Prop := h'.length = h.length ∧ ∀ j, j ≠ i → h'[j]? = h[j]?
theorem Nx.trans {i : Nat} {a b c : Hh} (x : Nx i a b) (y : Nx i b c) : Nx i a c := ⟨by rw [y.1, x.1], fun j n => by rw [y.2 j n, x.2 j n]⟩
theorem Nx.refl {i : Nat} {a : Hh} : Nx i a a := ⟨rfl, fun _ _ => rfl⟩
theorem Nx.set {i : Nat} {a : Hh} {o : O} : Nx i a (a.set i o) := ⟨by simp, fun j n => by simp [List.getElem?_set, Ne.symm n]⟩
theorem Lf.lt {h : Hh} {i : Nat} (l : Lf h i) : i < h.length := by
  obtain ⟨a, b, c, e, _⟩ := l
  exact (List.getElem?_eq_some_iff.mp e).1
theorem Lf.app {h : Hh} {a b c : Int} (a0 : 0 ≤ a) (b0 : 0 ≤ b) (b1 : b < 2147483648) (c0 : 0 ≤ c) : Lf (h ++ [.lst [.int a, .int b, .int c]]) h.length := ⟨a, b, c, by simp, a0, b0, b1, c0⟩
abbrev WL : List Str := ["rows", "readers", "writers", "turns", "passes"]
/-- a rule that the law makes -/
structure Rul (w : Str) (m t u : Int) : Prop where
  hw : w ∈ WL
  hm : m = 0 ∨ m = 1 ∨ m = 2 ∨ m = 3 ∨ m = 5
  ht : t = 0 ∨ w = "passes" ∧ (t = 1 ∨ t = 2 ∨ t = 9)
  hu : u = 0 ∨ u = 1

/-- the kind of a thing -/
def kindOf (d : D) : Option String := match d with
  | .non => some "NoneType" | .bl _ => some "bool" | .int _ => some "int" | .str _ => some "str" | .tup _ => some "tuple" | .lst _ => some "list" | .scr _ => some "list"
  | _ => none
end MR

namespace MR
open PySem PySem.Spec PyProof.Rows L2

theorem tuple_mul_same (l : Addr) (items : Array Value) (n : Nat) (dd : Option Addr) (sl : Array (Option Value)) (x : Int) (u : Tok) (c0 : (decide (x < -(2 ^ 63)) || decide (x ≥ 2 ^ 63)) = false) (c1 : (items.isEmpty || x == 1) = true) :
    Meets (Builtin.«tuple.__mul__» ⟨[.ref l, .int x u], []⟩) (fun _ R s => s.heap.get? l = some { cls := .type "tuple", dict := dd, data := .seq items n, slots := sl } ∧ R (.ok (.ret (Value.ref l))) s) :=
  .of_wp fun prog w A R s h => by
    obtain ⟨hp, g, d, tk, os⟩ := s
    obtain ⟨hl, h⟩ := h
    have f1 := AutoSeq1.idx_int
    wp_walk using wpAny_loadPart' hl
    repeat (first
      | (refine wpAny_ite_false (decide_eq_false (by rw [c0]; exact Bool.false_ne_true)) ?_; wp_walk using wpAny_loadPart' hl)
      | (refine wpAny_ite_true (decide_eq_true c1) ?_; wp_walk using wpAny_loadPart' hl))
    exact ⟨_, rfl, h⟩
theorem tuple_mul_none (l : Addr) (items : Array Value) (n : Nat) (dd : Option Addr) (sl : Array (Option Value)) (x : Int) (u : Tok) (c0 : (decide (x < -(2 ^ 63)) || decide (x ≥ 2 ^ 63)) = false) (c1 : (items.isEmpty || x == 1) = false) (c2 : (decide (x ≤ 0) || items.isEmpty) = true) :
    Meets (Builtin.«tuple.__mul__» ⟨[.ref l, .int x u], []⟩) (fun _ R s => s.heap.get? l = some { cls := .type "tuple", dict := dd, data := .seq items n, slots := sl } ∧
      R (.ok (.ret (Value.ref s.heap.objs.size))) { s with heap := s.heap.push { cls := Value.type "tuple", data := Data.seq #[] }, toks := s.toks }) :=
  .of_wp fun prog w A R s h => by
    obtain ⟨hp, g, d, tk, os⟩ := s
    obtain ⟨hl, h⟩ := h
    have f1 := AutoSeq1.idx_int
    wp_walk using wpAny_loadPart' hl
    repeat (first
      | (refine wpAny_ite_false (decide_eq_false (by rw [c0]; exact Bool.false_ne_true)) ?_; wp_walk using wpAny_loadPart' hl)
      | (refine wpAny_ite_false (decide_eq_false (by rw [c1]; exact Bool.false_ne_true)) ?_; wp_walk using wpAny_loadPart' hl)
      | (refine wpAny_ite_true (decide_eq_true c2) ?_; wp_walk using wpAny_loadPart' hl))
    exact ⟨_, rfl, h⟩
def rRep1 (K : PySem.W.Frag) : R2 := fun x y H Q => ∃ l k xs, x = .ref l ∧ y = .int k ∧ SqT K H l xs ∧ -1000 ≤ k ∧ k ≤ 1000 ∧ ((xs = [] ∨ k = 1) ∧ Q (.ref l) H ∨ (xs ≠ [] ∧ k ≤ 0) ∧ NewT H [] Q ∨ (xs ≠ [] ∧ 2 ≤ k ∧ xs.length ≤ 1000) ∧ NewT H (List.replicate k.toNat xs).flatten Q)
section
variable {X : Cx}
theorem op_rep1 : OpR X (binaryOp .Mult) (rRep1 X.K) := by
  intro pins s σ H x y v u Q I rx ry h
  obtain ⟨l, k, xs, rfl, rfl, hT, h1, h2, q⟩ := h
  cases rx
  obtain ⟨t, rfl⟩ := ry
  obtain ⟨its, r, ⟨⟨cls, dd, data, sl⟩, ho, hc, n, hd⟩, hs⟩ := I.tuple hT
  simp only at hc hd
  subst hc hd
  have hle : its.length = xs.length := r.length.symm
  have c0 : (decide (k < -(2 ^ 63)) || decide (k ≥ 2 ^ 63)) = false := by
    rw [decide_eq_false (by omega), decide_eq_false (by omega)] <;> rfl
  rcases q with ⟨c, q⟩ | ⟨⟨c1, c2⟩, q⟩ | ⟨⟨c1, c2, hz⟩, q⟩
  · have c1 : (its.toArray.isEmpty || k == 1) = true := by
      rcases c with c | c
      · subst c
        have : its = [] := List.eq_nil_of_length_eq_zero hle
        subst this; rfl
      · subst c; simp
    refine wpAny_binaryOp_repeat_ref (T := "tuple") (U := "int") (by decide) ⟨_, ho, rfl⟩ (fun s' => typeIs_int s' k t) noFill_tuple_mul F.fills_int_mul F.slot_int_rmul repeat_tuple F.slot_int_index.lookup
      (call_meets F.slot_int_rmul (typeIs_int s k t) F.entry_int_rmul (F.args_int_rmul_2 _ _) (int_rmul_tuple k t l its.toArray n dd sl)
        ⟨ho, rfl, ⟨_, ho, rfl⟩, call_meets F.slot_tuple_mul ⟨_, ho, rfl⟩ F.entry_tuple_mul (F.args_tuple_mul_2 _ _) (tuple_mul_same l its.toArray n dd sl k t c0 c1) ⟨ho, ?_⟩⟩)
    exact ⟨.ref l, H, I, rfl, q⟩
  · have hn : its ≠ [] := fun e => c1 (by
      rw [e] at hle
      exact List.eq_nil_of_length_eq_zero hle.symm)
    have hi : its.toArray.isEmpty = false := by
      cases its with
      | nil => exact absurd rfl hn
      | cons a b => rfl
    have c3 : (its.toArray.isEmpty || k == 1) = false := by
      rw [hi, Bool.false_or]
      exact beq_eq_false_iff_ne.mpr (by omega)
    have c4 : (decide (k ≤ 0) || its.toArray.isEmpty) = true := by
      rw [decide_eq_true c2]; rfl
    refine wpAny_binaryOp_repeat_ref (T := "tuple") (U := "int") (by decide) ⟨_, ho, rfl⟩ (fun s' => typeIs_int s' k t) noFill_tuple_mul F.fills_int_mul F.slot_int_rmul repeat_tuple F.slot_int_index.lookup
      (call_meets F.slot_int_rmul (typeIs_int s k t) F.entry_int_rmul (F.args_int_rmul_2 _ _) (int_rmul_tuple k t l its.toArray n dd sl)
        ⟨ho, rfl, ⟨_, ho, rfl⟩, call_meets F.slot_tuple_mul ⟨_, ho, rfl⟩ F.entry_tuple_mul (F.args_tuple_mul_2 _ _) (tuple_mul_none l its.toArray n dd sl k t c0 c3 c4) ⟨ho, ?_⟩⟩)
    exact inv_newT I (its := []) .nil (Nat.zero_le _) q
  · have hn : its ≠ [] := fun e => c1 (by
      rw [e] at hle
      exact List.eq_nil_of_length_eq_zero hle.symm)
    have hi : its.toArray.isEmpty = false := by
      cases its with
      | nil => exact absurd rfl hn
      | cons a b => rfl
    have hsz0 : its.toArray.size = xs.length := by rw [List.size_toArray, hle]
    have hm : ((its.toArray.size : Nat) : Int) * k ≤ 1000000 := by
      rw [hsz0]
      have a1 : ((xs.length : Nat) : Int) * k ≤ 1000 * k := Int.mul_le_mul_of_nonneg_right (by omega) (by omega)
      omega
    have nlen : k.toNat * xs.length ≤ 1000000 := by
      have a1 : k.toNat * xs.length ≤ 1000 * 1000 := Nat.mul_le_mul (by omega) hz
      omega
    have flen : (List.replicate k.toNat its).flatten.length ≤ sizeLine := by
      rw [PyProof.Rows.lm_len_rep_flat, hle, sizeLine_eq]; omega
    have c3 : (its.toArray.isEmpty || k == 1) = false := by
      rw [hi, Bool.false_or]
      exact beq_eq_false_iff_ne.mpr (by omega)
    have c4 : (decide (k ≤ 0) || its.toArray.isEmpty) = false := by
      rw [hi, Bool.or_false]
      exact decide_eq_false (by omega)
    have c5 : Builtin.Tuple.tupleTooMany (((its.toArray.size : Nat) : Int) * k) = false := by
      unfold Builtin.Tuple.tupleTooMany
      rw [sizeLine_eq]
      exact decide_eq_false (by omega)
    refine wpAny_binaryOp_repeat_ref (T := "tuple") (U := "int") (by decide) ⟨_, ho, rfl⟩ (fun s' => typeIs_int s' k t) noFill_tuple_mul F.fills_int_mul F.slot_int_rmul repeat_tuple F.slot_int_index.lookup
      (call_meets F.slot_int_rmul (typeIs_int s k t) F.entry_int_rmul (F.args_int_rmul_2 _ _) (int_rmul_tuple k t l its.toArray n dd sl)
        ⟨ho, rfl, ⟨_, ho, rfl⟩, call_meets F.slot_tuple_mul ⟨_, ho, rfl⟩ F.entry_tuple_mul (F.args_tuple_mul_2 _ _) (tuple_mulW l its.toArray n dd sl k t c0 c3 c4 (by omega) c5 (by rw [size_rep, List.size_toArray]; exact flen)) ⟨ho, ?_⟩⟩)
    rw [size_rep]
    exact inv_newT I (r.rep k.toNat) (by rw [PyProof.Rows.lm_len_rep_flat, sizeLine_eq]; omega) q
end

def repG {α : Type} (xs : List α) (k : Int) : List α := (List.replicate k.toNat xs).flatten
def mulB : Op2 := fun a b h => match a, b with
  | .tup xs, .int k => if -1000 ≤ k ∧ k ≤ 1000 ∧ xs.length ≤ 1000 then some (.tup (repG xs k)) else none
  | .lst xs, .int k => if -1000 ≤ k ∧ k ≤ 1000 ∧ xs.length ≤ 1000 then some (.lst (repG xs k)) else none
  | a, b => mulO a b h
def rMulB (K : PySem.W.Frag) : R2 := fun x y H Q => rMulA x y H Q ∨ (rRep1 K x y H Q ∨ rRep x y H Q)
theorem op_mulB {X : Cx} : OpR X (binaryOp .Mult) (rMulB X.K) := op_mulA.or (op_rep1.or op_rep)
section
variable {G : Gm} {rho : Rm} {H : Hp}
theorem Dens.rep {ds : List D} {vs : List V} (q : Dens G rho H ds vs) : ∀ n : Nat, Dens G rho H (List.replicate n ds).flatten (List.replicate n vs).flatten
  | 0 => rfl
  | n + 1 => by
    rw [List.replicate_succ, List.replicate_succ, List.flatten_cons, List.flatten_cons]
    exact q.append (Dens.rep q n)
theorem rep_len {α : Type} (xs : List α) (n : Nat) : (List.replicate n xs).flatten.length = n * xs.length := by simp
theorem rz_mulB : Rz2 G (rMulB G.K) mulB := fun rho hh H d1 d2 v1 v2 d Q R q1 q2 e k => by
  unfold mulB at e
  split at e
  · rename_i xs i
    split at e
    · rename_i hc
      obtain ⟨c1, c2, c3⟩ := hc
      cases e
      have q0 := q1
      rw [Den] at q1
      obtain ⟨a, vs, rfl, hT, l, z⟩ := q1
      have q2 : v2 = .int i := q2
      have hl := z.length
      by_cases h1 : vs = [] ∨ i = 1
      · have ex : repG xs i = xs := by
          rcases h1 with h1 | h1
          · subst h1
            have : xs = [] := List.eq_nil_of_length_eq_zero (by simpa using hl)
            subst this
            unfold repG
            simp
          · subst h1; simp [repG]
        refine .inr (.inl ⟨a, i, vs, rfl, q2, hT.t, c1, c2, .inl ⟨h1, k _ H .refl R ?_⟩⟩)
        rw [ex]; exact q0
      · by_cases h2 : i ≤ 0
        · have e0 : i.toNat = 0 := by omega
          refine .inr (.inl ⟨a, i, vs, rfl, q2, hT.t, c1, c2, .inr (.inl ⟨⟨fun e => h1 (.inl e), h2⟩, fun p o hp ho => k _ _ (.laid hp) (R.laid hp) ?_⟩)⟩)
          have : repG xs i = [] := by unfold repG; rw [e0]; rfl
          rw [this]
          exact Den.tup_new (ds := []) (vs := []) ho R rfl (Nat.zero_le _) hp
        · refine .inr (.inl ⟨a, i, vs, rfl, q2, hT.t, c1, c2, .inr (.inr ⟨⟨fun e => h1 (.inl e), by omega, by omega⟩, fun p o hp ho => k _ _ (.laid hp) (R.laid hp) (Den.tup_new ho R (z.rep _) ?_ hp)⟩)⟩)
          rw [rep_len, sizeLine_eq]
          have a1 : i.toNat * vs.length ≤ 1000 * 1000 := Nat.mul_le_mul (by omega) (by omega)
          omega
    · cases e
  · rename_i xs i
    split at e
    · rename_i hc
      obtain ⟨c1, c2, c3⟩ := hc
      cases e
      obtain ⟨a, vs, rfl, hT, l, z⟩ := seqL_of (ds := xs) R q1 rfl
      have hl := z.length
      have a1 : i.toNat * vs.length ≤ 1000 * 1000 := Nat.mul_le_mul (by omega) (by omega)
      refine .inr (.inr ⟨a, i, vs, rfl, q2, hT, by omega, by omega, by rw [sizeLine_eq, Nat.mul_comm]; omega, fun p hp => k _ _ (.laid hp) (R.laid hp) (den_lst_new R (z.rep _) ?_ hp)⟩)
      rw [rep_len, sizeLine_eq]
      omega
    · cases e
  · exact .inl (rz_mul rho hh H d1 d2 v1 v2 d Q R q1 q2 e k)
end
@[simp] theorem ev_mulBI (i j : Int) (h : Hh) : mulB (.int i) (.int j) h = mulO (.int i) (.int j) h := rfl
@[simp] theorem ev_mulBT (xs : List D) (k : Int) (h : Hh) : mulB (.tup xs) (.int k) h = if -1000 ≤ k ∧ k ≤ 1000 ∧ xs.length ≤ 1000 then some (.tup (repG xs k)) else none := rfl
@[simp] theorem ev_mulBL (xs : List D) (k : Int) (h : Hh) : mulB (.lst xs) (.int k) h = if -1000 ≤ k ∧ k ≤ 1000 ∧ xs.length ≤ 1000 then some (.lst (repG xs k)) else none := rfl
end MR

namespace MR
open PySem PySem.Spec PyProof.Rows L2

@[simp] theorem ev_tupleT (xs : List D) (h : Hh) : tupleO [.tup xs] h = some (.tup xs) := rfl
@[simp] theorem ev_tupleL (xs : List D) (h : Hh) : tupleO [.lst xs] h = some (.tup xs) := rfl
@[simp] theorem ev_tupleR (j : Nat) (h : Hh) : tupleO [.ref j] h = (refSeq h[j]?).map fun xs => .tup xs := by
  show (seqL (.ref j) h).map _ = _
  rw [ev_seqLR]
@[simp] theorem truths_map {α : Type} (p : α → Bool) (xs : List α) : truths (xs.map fun x => D.bl (p x)) = some (xs.map p) := by
  induction xs with
  | nil => rfl
  | cons x xs ih => rw [List.map_cons, ev_truths, ih]; rfl
theorem all_map {α : Type} (p : α → Bool) (xs : List α) : (xs.map p).all id = xs.all p := by
  induction xs with
  | nil => rfl
  | cons x xs ih => rw [List.map_cons, List.all_cons, List.all_cons, ih]; rfl
theorem fit_up : ∀ (n : Nat) (d : D), fit n d = true → fit (n + 1) d = true
  | 0, d, f => by cases f
  | n + 1, d, f => by
    cases d with
    | tup ds =>
      have f : ds.all (fit n) = true := f
      show ds.all (fit (n + 1)) = true
      rw [List.all_eq_true] at f ⊢
      exact fun d m => fit_up n d (f d m)
    | lst ds =>
      have f : ds.all (fit n) = true := f
      show ds.all (fit (n + 1)) = true
      rw [List.all_eq_true] at f ⊢
      exact fun d m => fit_up n d (f d m)
    | non => exact f
    | bl b => exact f
    | int i => exact f
    | str x => exact f
    | ref i => cases f
    | glb v => cases f
    | scr ns => cases f
    | dct ks ns => cases f
    | wtp ds => cases f
theorem fit_le {n m : Nat} (hm : n ≤ m) {d : D} (f : fit n d = true) : fit m d = true := by
  induction hm with
  | refl => exact f
  | step _ ih => exact fit_up _ _ ih
theorem fit_tup {n : Nat} {ds : List D} : fit (n + 1) (.tup ds) = true ↔ ∀ d ∈ ds, fit n d = true := by
  show ds.all (fit n) = true ↔ _
  rw [List.all_eq_true]
theorem cut_from {α : Type} (xs : List α) (k : Int) (h : 0 ≤ k) : cutG xs (some k) none = xs.drop k.toNat := by
  unfold cutG HT.sIx
  simp only [show ¬ k < 0 from by omega, if_false]
  rw [Nat.min_def]
  split
  · rw [List.take_of_length_le (by rw [List.length_drop]; omega)]
  · rw [List.drop_eq_nil_of_le (Nat.le_refl _), List.drop_eq_nil_of_le (by omega)]; simp
end MR

namespace MR
open PySem PySem.Spec PyProof.Rows L2

/-- a value of a built-in type, without a dict -/
def TyAt (X : Cx) (T : String) (x : V) (H : Hp) : Prop := ∀ (pins : List (Addr × Obj)) (σ : L2.St) (s : Shared) (v : Value), Inv X pins σ H s → RelV x v → s.TypeIs v T ∧ ∀ a, v = .ref a → ∃ ob, s.heap.get? a = some ob ∧ ob.dict = none
section
variable {X : Cx} {o e : Expr} {es : List Expr} {to : TE} {t : TA} {name : Str} {apos cpos : Pos} {T id : String} {r : V → List V → Hp → VK → Prop}
end
/-- either of two roads, as the thing is -/
theorem pe_or {X : Cx} {e : Expr} {t t' : TE} (h : PE X e t) (h' : PE X e t') : PE X e (fun σ H Q => t σ H Q ∨ t' σ H Q) := ⟨fun pins s σ H Q I q => by
  rcases q with q | q
  · exact h.run pins s σ H Q I q
  · exact h'.run pins s σ H Q I q⟩
/-- what a method of a thing that is only read tells -/
abbrev OpR1 := D → List D → Hh → Option D
structure RzR (X : Cx) (T : String) (r : V → List V → Hp → VK → Prop) (ok : D → Hh → Bool) (f : OpR1) : Prop where
  ty : ∀ rho hh H d v, Rep (Cx.gm X) rho hh H → Den (Cx.gm X) rho H d v → ok d hh = true → TyAt X T v H
  run : ∀ rho hh H d ds v vs d' (Q : VK), Rep (Cx.gm X) rho hh H → Den (Cx.gm X) rho H d v → Dens (Cx.gm X) rho H ds vs → f d ds hh = some d' →
    (∀ w H', Step rho H rho H' → Rep (Cx.gm X) rho hh H' → Den (Cx.gm X) rho H' d' w → Q w H') → r v vs H Q
def eMethR (ok : D → Hh → Bool) (f : OpR1) (m : ME) (ms : MA) : ME := fun env h => (m env h).bind fun d h1 => if ok d h1 = true then (ms env h1).bind fun ds h2 => lift (f d ds h2) h2 else .stuck
section
variable {X : Cx} {o e : Expr} {es : List Expr} {m : ME} {ms : MA} {name : Str} {apos cpos : Pos} {T T' id id' : String} {r r' : V → List V → Hp → VK → Prop} {ok ok' : D → Hh → Bool} {f f' : OpR1}
/-- the same text does one or the other -/
theorem de_either {m1 m2 : ME} (h1 : DE X e m1) (h2 : DE X e m2) {m : ME} (hm : ∀ env h, m env h = m1 env h ∨ m env h = m2 env h) : DE X e m :=
  ⟨fun W tk => pe_weak (pe_or (h1.run W tk) (h2.run W tk)) fun σ H Q ⟨rho, env, hh, R, E, p⟩ => by
    rcases hm env hh with q | q
    · rw [q] at p; exact .inl ⟨rho, env, hh, R, E, p⟩
    · rw [q] at p; exact .inr ⟨rho, env, hh, R, E, p⟩⟩
/-- a method that two kinds of things have -/
def eMeth2 (ok ok' : D → Hh → Bool) (f f' : OpR1) (m : ME) (ms : MA) : ME := fun env h => (m env h).bind fun d h1 => if ok d h1 = true then (ms env h1).bind fun ds h2 => lift (f d ds h2) h2 else if ok' d h1 = true then (ms env h1).bind fun ds h2 => lift (f' d ds h2) h2 else .stuck
end

/-- the items of a list, of a tuple, as data -/
def pysL (d : D) (h : Hh) : Option (List PyData) := match pyOf d h with
  | some (.list ds) => some ds
  | _ => none
def pysT (d : D) (h : Hh) : Option (List PyData) := match pyOf d h with
  | some (.tuple ds) => some ds
  | _ => none
def cntOf (o : Option (List PyData)) (p : Option PyData) : Option D := match o, p with
  | some ps, some p => some (.int (ps.countP fun z => PyData.eqv z p : Nat))
  | _, _ => none
def countL : OpR1 := fun d ds h => match ds with
  | [e] => cntOf (pysL d h) (pyOf e h)
  | _ => none
def countT : OpR1 := fun d ds h => match ds with
  | [e] => cntOf (pysT d h) (pyOf e h)
  | _ => none
def isTp (d : D) (_ : Hh) : Bool := match d with | .tup _ => true | _ => false
section
variable {G : Gm} {rho : Rm} {hh : Hh} {H : Hp} {d : D} {v : V} {ps : List PyData}
end
def idxOf (o : Option (List PyData)) (p : Option PyData) : Option D := match o, p with
  | some ps, some p => (ps.findIdx? fun z => PyData.eqv z p).map fun n => .int (n : Nat)
  | _, _ => none
def indexL : OpR1 := fun d ds h => match ds with
  | [e] => idxOf (pysL d h) (pyOf e h)
  | _ => none
def k_mr (ok : D → Hh → Bool) (f : OpR1) (ms : MA) (env : DEnv) : D → Hh → Res D := fun d h1 => if ok d h1 = true then (ms env h1).bind fun ds h2 => lift (f d ds h2) h2 else .stuck
def k_mr2 (f : OpR1) (ms : MA) (env : DEnv) (d : D) (h1 : Hh) (k : Bool) : Res D := if k = true then (ms env h1).bind fun ds h2 => lift (f d ds h2) h2 else .stuck
def k_mr3 (f : OpR1) (d : D) : List D → Hh → Res D := fun ds h2 => lift (f d ds h2) h2
@[simp] theorem ev_methR (ok : D → Hh → Bool) (f : OpR1) (m : ME) (ms : MA) (env : DEnv) (h : Hh) : eMethR ok f m ms env h = (m env h).bind (k_mr ok f ms env) := rfl
@[simp] theorem ev_k_mr (ok : D → Hh → Bool) (f : OpR1) (ms : MA) (env : DEnv) (d : D) (h : Hh) : k_mr ok f ms env d h = k_mr2 f ms env d h (ok d h) := rfl
@[simp] theorem ev_k_mr2 (f : OpR1) (ms : MA) (env : DEnv) (d : D) (h : Hh) : k_mr2 f ms env d h true = (ms env h).bind (k_mr3 f d) := rfl
@[simp] theorem ev_k_mr3 (f : OpR1) (d : D) (ds : List D) (h : Hh) : k_mr3 f d ds h = lift (f d ds h) h := rfl
def k_mm (ok ok' : D → Hh → Bool) (f f' : OpR1) (ms : MA) (env : DEnv) : D → Hh → Res D := fun d h1 => if ok d h1 = true then (ms env h1).bind fun ds h2 => lift (f d ds h2) h2 else if ok' d h1 = true then (ms env h1).bind fun ds h2 => lift (f' d ds h2) h2 else .stuck
@[simp] theorem ev_meth2 (ok ok' : D → Hh → Bool) (f f' : OpR1) (m : ME) (ms : MA) (env : DEnv) (h : Hh) : eMeth2 ok ok' f f' m ms env h = (m env h).bind (k_mm ok ok' f f' ms env) := rfl
@[simp] theorem ev_mmL (f f' : OpR1) (ms : MA) (env : DEnv) (xs : List D) (h : Hh) : k_mm isL isTp f f' ms env (.lst xs) h = (ms env h).bind (k_mr3 f (.lst xs)) := rfl
@[simp] theorem ev_mmT (f f' : OpR1) (ms : MA) (env : DEnv) (xs : List D) (h : Hh) : k_mm isL isTp f f' ms env (.tup xs) h = (ms env h).bind (k_mr3 f' (.tup xs)) := rfl
@[simp] theorem ev_countL (d e : D) (h : Hh) : countL d [e] h = cntOf (pysL d h) (pyOf e h) := rfl
@[simp] theorem ev_countT (d e : D) (h : Hh) : countT d [e] h = cntOf (pysT d h) (pyOf e h) := rfl
@[simp] theorem ev_indexL (d e : D) (h : Hh) : indexL d [e] h = idxOf (pysL d h) (pyOf e h) := rfl
@[simp] theorem ev_isLL (xs : List D) (h : Hh) : isL (.lst xs) h = true := rfl
def revO (d : D) (h : Hh) : Option D := match d with
  | .tup xs => some (.tup xs.reverse)
  | d => (seqL d h).map fun xs => .lst xs.reverse
def eRev (m : ME) : ME := fun env h => (m env h).bind fun d h1 => lift (revO d h1) h1
end MR

namespace MR
open PySem PySem.Spec PyProof.Rows L2

section
variable {prog : Program} {w : World} {A : Around} {E : Value → Shared → Prop} {s : Shared}
theorem fmap_cg {α β : Type} {f g : α → Option β} : ∀ {l : List α}, (∀ a ∈ l, f a = g a) → l.filterMap f = l.filterMap g
  | [], _ => rfl
  | a :: l, h => by
    rw [List.filterMap_cons, List.filterMap_cons, h a List.mem_cons_self, fmap_cg fun b m => h b (List.mem_cons_of_mem _ m)]
theorem places_back (n : Nat) : Builtin.Slice.slicePlaces ((n : Int) - 1) (-1) (-1) = n := by
  unfold Builtin.Slice.slicePlaces
  have h1 : ¬ (-1 : Int) > 0 := by omega
  simp only [h1, if_false]
  have h2 : (-(-1) : Int) = 1 := rfl
  rw [h2, Int.ediv_one]
  split <;> omega
theorem pick_back (xs : Array Value) : ((List.range xs.size).filterMap fun (m : Nat) => xs[(((xs.size : Int) - 1) + (m : Int) * (-1)).toNat]?).toArray = xs.toList.reverse.toArray := by
  congr 1
  have e : ∀ m ∈ List.range xs.size, xs[(((xs.size : Int) - 1) + (m : Int) * (-1)).toNat]? = xs.toList.reverse[m]? := fun m hm => by
    have hm := List.mem_range.mp hm
    have e1 : (((xs.size : Int) - 1) + (m : Int) * (-1)).toNat = xs.size - 1 - m := by omega
    rw [e1, List.getElem?_reverse (by simpa using hm)]
    simp
  rw [fmap_cg e]
  have hl : xs.size = xs.toList.reverse.length := by simp
  rw [hl]
  generalize xs.toList.reverse = l
  induction l with
  | nil => rfl
  | cons a r ih =>
    rw [List.length_cons, List.range_succ_eq_map, List.filterMap_cons]
    simp only [List.getElem?_cons_zero, List.filterMap_map]
    congr 1
theorem sliceApplied_back {sl : Addr} {vl vu vs : Value} {n : Nat} {Q : Int × Int × Nat → Shared → Prop} (hs : s.heap.IsSliceOf sl vl vu vs) (pl : IsPart vl none) (pu : IsPart vu none) (ps : IsPart vs (some (-1)))
    (h : Q ((n : Int) - 1, -1, n) s) : wpAny (model prog w) A (Builtin.Slice.sliceApplied (.ref sl) (pure (n : Int))) Q E s := by
  obtain ⟨os, hos, hcs, hds⟩ := id hs
  unfold Builtin.Slice.sliceApplied Builtin.Slice.sliceFields
  refine wpAny_bind (wpAny_bind (wpAny_field hos hds (x := vl) rfl (wpAny_bind (wpAny_field hos hds (x := vu) rfl (wpAny_bind (wpAny_field hos hds (x := vs) rfl (wpAny_pure ?_)))))))
  refine wpAny_bind (HT.slicePart_ ps ?_)
  show wpAny _ _ (if ((-1 : Int) == 0) = true then _ else _) _ _ s
  rw [if_neg (by decide)]
  refine wpAny_bind (HT.slicePart_ pl (wpAny_bind (HT.slicePart_ pu (wpAny_bind (wpAny_pure ?_)))))
  show wpAny _ _ (pure ((n : Int) - 1, (-1 : Int), Builtin.Slice.slicePlaces ((n : Int) - 1) (-1) (-1))) _ _ s
  rw [places_back]
  exact wpAny_pure h
theorem getItem_tuple_back {t sl : Addr} {items : Array Value} {vl vu vs : Value} {Q : Value → Shared → Prop} (ht : IsTup s.heap t items) (hs : s.heap.IsSliceOf sl vl vu vs) (pl : IsPart vl none) (pu : IsPart vu none) (ps : IsPart vs (some (-1)))
    (h : Q (.ref s.heap.objs.size) { s with heap := s.heap.push { cls := .type "tuple", data := .seq items.toList.reverse.toArray } })
    (hsz : items.size ≤ sizeLine) : wpAny (model prog w) A (getItem (.ref t) (.ref sl)) Q E s := by
  have htake : sizeOk (.seq items.toList.reverse.toArray) := by
    show items.toList.reverse.toArray.size ≤ sizeLine
    simpa using hsz
  obtain ⟨os, hos, hcs, hds⟩ := id hs
  have hTs : s.TypeIs (.ref sl) "slice" := ⟨os, hos, hcs⟩
  unfold getItem
  try with_reducible refine wpAny_holding ?_
  first | refine wpAny_bind (wpAny_pure ?_) | skip
  refine wpAny_bind (wpAny_sequenceKey ht.typeIs (by decide) ?_)
  refine wpAny_bind (wpAny_callSpecial?_slot (name := Str.ofString "__getitem__") ht.typeIs PyProof.Rows.slot_tuple_getitem
    (wpAny_call_entry PyProof.Rows.slot_tuple_getitem ht.typeIs entry_tuple_getitem ?_ (args_tuple_getitem _ _)))
  show wpAny _ _ (Builtin.Tuple.tupleItemsOf (.ref t) >>= _) _ _ s
  refine wpAny_bind (tupleItemsOf_ ht ?_)
  refine wpAny_bind (wpAny_typeOf hTs ?_)
  rw [if_pos (by decide)]
  refine wpAny_bind (sliceApplied_back hs pl pu ps ?_)
  show wpAny _ _ (if (((items.size : Int) - 1) == 0 && (-1 : Int) == 1 && items.size == items.size) = true then _ else _) _ _ s
  have hno : ¬ ((((items.size : Int) - 1) == 0 && (-1 : Int) == 1 && items.size == items.size) = true) := by
    intro q
    rw [Bool.and_eq_true, Bool.and_eq_true] at q
    exact absurd q.1.2 (by decide)
  rw [if_neg hno, pick_back]
  exact wpAny_bind (m := Builtin.Tuple.tupleExact _) (wpAny_newObj_type (wpAny_pure ⟨_, rfl, wpAny_pure h⟩) htake)
end
section
variable {G : Gm} {rho : Rm} {H : Hp}
theorem Dens.reverse : ∀ {ds : List D} {vs : List V}, Dens G rho H ds vs → Dens G rho H ds.reverse vs.reverse
  | [], vs, h => by rw [Dens] at h; subst h; rfl
  | d :: ds, vs, h => by
    rw [Dens] at h
    obtain ⟨v, r, rfl, a, b⟩ := h
    rw [List.reverse_cons, List.reverse_cons]
    exact (Dens.reverse b).append ⟨v, [], rfl, a, rfl⟩
end
def tRevT (K : PySem.W.Frag) (te : TE) : TE := fun σ H Q => te σ H fun x H1 => ∃ a xs, x = .ref a ∧ SqT K H1 a xs ∧ NewT H1 xs.reverse Q
theorem pe_revT {X : Cx} {e : Expr} {te : TE} {k : Nat} {p1 p2 p3 pos : Pos} (he : PE X e te) : PE X (.Subscript e (.Slice none none (some (.UnaryOp .USub (.Constant (.int 1) k p1) p2)) p3) pos) (tRevT X.K te) := by
  refine ⟨fun pins s σ H Q I h => ?_⟩
  refine Subscript_ (thn (he.run pins s σ H _ I h) fun v s1 ⟨x, H1, I1, r1, q1⟩ => ?_)
  obtain ⟨a, xs, ex, hx, q⟩ := q1
  subst ex
  cases r1
  have hst : PO X (some (.UnaryOp .USub (.Constant (.int 1) k p1) p2)) (tPart (tUn (rU fun i => .int (-i)) (tC (.int 1)))) := po_some (pe_un un_neg pe_int)
  refine wpAny_Slice (thn (po_none.run pins s1 σ H1 (fun o H2 => o = none ∧ H2 = H1) I1 ⟨rfl, rfl⟩) fun vl s2 ⟨l, H2, I2, pl, el, e2⟩ => ?_)
  subst el e2
  refine thn (po_none.run pins s2 σ H2 (fun o H3 => o = none ∧ H3 = H2) I2 ⟨rfl, rfl⟩) fun vu s3 ⟨u, H3, I3, pu, eu, e3⟩ => ?_
  subst eu e3
  refine thn (hst.run pins s3 σ H3 (fun o H4 => o = some (-1) ∧ H4 = H3) I3 ⟨1, rfl, -1, rfl, rfl, rfl⟩) fun vs s4 ⟨o, H4, I4, ps, eo, e4⟩ => ?_
  subst eo e4
  have I5 : Inv X pins σ H4 { s4 with heap := s4.heap.push { cls := .type "slice", data := .fields #[vl, vu, vs] } } := I4.kept (t' := s4.toks) fun b ob q => Heap.get?_push_of_some _ q
  obtain ⟨its, r, ht, hz⟩ := I5.tuple hx
  have hlen := r.length
  show wpAny (model X.prog X.w) X.A (subscriptTail e (.Slice none none (some (.UnaryOp .USub (.Constant (.int 1) k p1) p2)) p3) (.ref a) (.ref s4.heap.objs.size)) (EP X pins σ Q) X.xe { s4 with heap := s4.heap.push { cls := .type "slice", data := .fields #[vl, vu, vs] } }
  refine tail_any (ops := [.ref a, .ref s4.heap.objs.size]) ht.typeIs PyProof.Rows.slot_tuple_getitem.lookup ?_ (by with_unfolding_all rfl)
  refine getItem_tuple_back ht (Heap.IsSliceOf.new _ vl vu vs) pl pu ps ?_ (by rw [List.size_toArray]; omega)
  exact inv_newT I5 r.reverse (by rw [List.length_reverse]; exact hz) q
def revT (d : D) (_ : Hh) : Option D := match d with | .tup xs => some (.tup xs.reverse) | _ => none
def revL (d : D) (h : Hh) : Option D := match d with | .tup _ => none | d => (seqL d h).map fun xs => .lst xs.reverse
theorem rev_or (m : ME) (env : DEnv) (h : Hh) : eRev m env h = ((m env h).bind fun d h1 => lift (revT d h1) h1) ∨ eRev m env h = ((m env h).bind fun d h1 => lift (revL d h1) h1) := by
  unfold eRev
  cases e : m env h with
  | ok d h1 =>
    rw [bind_ok, bind_ok, bind_ok]
    cases d with
    | tup xs => left; rfl
    | _ => right; rfl
  | err x h1 => left; rfl
  | stuck => left; rfl
theorem de_rev {X : Cx} {e : Expr} {m : ME} {k : Nat} {p1 p2 p3 pos : Pos} (he : DE X e m) : DE X (.Subscript e (.Slice none none (some (.UnaryOp .USub (.Constant (.int 1) k p1) p2)) p3) pos) (eRev m) := by
  refine de_either (m1 := fun env h => (m env h).bind fun d h1 => lift (revT d h1) h1) (m2 := fun env h => (m env h).bind fun d h1 => lift (revL d h1) h1) ⟨fun W tk => pe_weak (pe_revT (he.run W tk)) fun σ H Q q => ?_⟩ ⟨fun W tk => pe_weak (pe_revL (he.run W tk)) fun σ H Q q => ?_⟩ (rev_or m)
  · refine tE_of (f := fun env d h1 => lift (revT d h1) h1) q fun rho env hh H1 d v R E qd p => ?_
    obtain ⟨a, e, p⟩ := lift_post p
    unfold revT at e
    split at e
    · cases e
      rw [Den] at qd
      obtain ⟨a, vs, rfl, hs, l, z⟩ := qd
      exact ⟨a, vs, rfl, hs.t, fun pp o hp ho => p rho _ _ (.laid hp) (R.laid hp) (Den.tup_new ho R z.reverse (by rw [List.length_reverse]; exact l) hp)⟩
    · cases e
  · refine tE_of (f := fun env d h1 => lift (revL d h1) h1) q fun rho env hh H1 d v R E qd p => ?_
    obtain ⟨a, e, p⟩ := lift_post p
    unfold revL at e
    split at e
    · cases e
    · obtain ⟨xs, e1, rfl⟩ := Option.map_eq_some_iff.mp e
      obtain ⟨a, vs, rfl, hs, l, z⟩ := seqL_of R qd e1
      exact ⟨a, vs, rfl, SqL.of hs, fun pp hp => p rho _ _ (.laid hp) (R.laid hp) (den_lst_new R z.reverse (by rw [List.length_reverse]; exact l) hp)⟩
def k_rev : D → Hh → Res D := fun d h1 => lift (revO d h1) h1
@[simp] theorem ev_rev (m : ME) (env : DEnv) (h : Hh) : eRev m env h = (m env h).bind k_rev := rfl
@[simp] theorem ev_k_revT (xs : List D) (h : Hh) : k_rev (.tup xs) h = .ok (.tup xs.reverse) h := rfl
@[simp] theorem ev_k_revL (xs : List D) (h : Hh) : k_rev (.lst xs) h = .ok (.lst xs.reverse) h := rfl
end MR

namespace MR
open PySem PySem.Spec PyProof.Rows L2

@[simp] theorem ev_gins (i : Int) (e : D) (xs : List D) : g_ins i e xs = if xs.length < 16777216 ∧ 0 ≤ i ∧ i < 1000000000 then some (.non, xs.take i.toNat ++ [e] ++ xs.drop i.toNat) else none := by rw [← sizeLine_eq]; rfl
abbrev PL : List Str := ["out", "reads", "rising", "writes", "raised"]
end MR

namespace MR
open PySem PySem.Spec PyProof.Rows L2

/-- the pairs of a list -/
def prsOf : List D → Option (List (Key × D))
  | [] => some []
  | .tup [a, b] :: r => match keyD a, prsOf r with
    | some k, some ks => some ((k, b) :: ks)
    | _, _ => none
  | _ :: _ => none
section
variable {G : Gm} {rho : Rm} {H : Hp} {hh : Hh}
theorem prsOf_of : ∀ {ds : List D} {vs : List V} {kvs : List (Key × D)}, Dens G rho H ds vs → prsOf ds = some kvs → ∃ (ps : List Addr) (ws : List (Key × V)), vs = ps.map V.ref ∧ Paired (fun p kv => SqT G.K H p [kV kv.1, kv.2]) ps ws ∧ KD G rho H kvs ws
  | [], vs, kvs, q, e => by
    rw [Dens] at q; subst q
    cases e
    exact ⟨[], [], rfl, .nil, .nil⟩
  | d :: ds, vs, kvs, q, e => by
    rw [Dens] at q
    obtain ⟨v, r, rfl, a, b⟩ := q
    unfold prsOf at e
    split at e
    · rename_i z; cases z
    · rename_i x y r' z
      cases z
      split at e
      · rename_i k ks e1 e2
        cases e
        obtain ⟨ps, ws, rfl, hp, hk⟩ := prsOf_of b e2
        rw [Den] at a
        obtain ⟨p, us, rfl, hs, l, zz⟩ := a
        obtain ⟨u1, u2, rfl, h1, h2⟩ := dens_two zz
        have := keyD_of e1 h1
        subst this
        exact ⟨p :: ps, (k, u2) :: ws, rfl, .cons hs.t hp, .cons ⟨rfl, h2⟩ hk⟩
      · cases e
    · cases e
end
def eDictOf (m : ME) : ME := fun env h => (m env h).bind fun d h1 => match (seqL d h1).bind prsOf with
  | some kvs => .ok (.ref h1.length) (h1 ++ [.dK (mergeG [] kvs)])
  | none => .stuck
section
variable {X : Cx} {e : Expr} {m : ME} {pos p : Pos} {x : Str}
theorem de_dictOf (hc : X.calm = true) (hg : Gl X x) (hm : X.mg x = none) (hv : bootBuiltins x = some (.type "dict")) (ha : DE X e m)
    (hn : x ≠ "__name__" := by decide) (hdb : (x == ("__debug__" : Str)) = false := by decide) (he : starEach [e] X.env = (false, eval e X.env) :: starEach [] X.env := by rfl) (hpl : (backTo pos (starEach [] X.env)).any (·.1) = false := by rfl) :
    DE X (.Call (.Name x p) [e] [] pos) (eDictOf m) :=
  ⟨fun W tk => pe_weak (pe_callTy (call_dictP hc) hg hm hv ((da_cons ha da_nil he).run W tk) hn hdb he hpl) fun σ H Q hq => by
    obtain ⟨rho, env, hh, R, E, p⟩ := hq
    refine ⟨rho, env, hh, R, E, ?_⟩
    unfold eDictOf at p
    unfold aCons aNil
    cases e1 : m env hh with
    | stuck => rw [e1] at p; exact p
    | err z h1 => rw [e1] at p; exact p
    | ok d h1 =>
      rw [e1, bind_ok] at p
      rw [bind_ok, bind_ok]
      intro rho1 H1 vs S1 R1 q1
      obtain ⟨v, rfl, qv⟩ := dens_one q1
      cases e2 : (seqL d h1).bind prsOf with
      | none => rw [e2] at p; exact p.elim
      | some kvs =>
        rw [e2] at p
        obtain ⟨ds, e3, e4⟩ := Option.bind_eq_some_iff.mp e2
        obtain ⟨a, us, rfl, hs, l, z⟩ := seqL_of R1 qv e3
        obtain ⟨ps, ws, rfl, hp, hk⟩ := prsOf_of z e4
        refine ⟨a, ps, ws, rfl, SqL.of hs, hp, fun pp hpp => ?_⟩
        obtain ⟨S0, R0, na⟩ := new_held (o := .dK (mergeK [] ws)) R1 hpp
        have hlen : (mergeK [] ws).length ≤ sizeLine := by
          have a1 := length_mergeK ws []
          have a2 := Paired.length hp
          rw [List.length_nil] at a1
          rw [List.length_map] at l
          omega
        have hk2 : KD (Cx.gm X) (rho1.hold pp) (upd H1 pp (.dK (mergeK [] ws))) kvs ws := KD.step R1 S0 hk
        refine p _ _ _ (S1.trans (S0.turn hpp)) (R0.turn List.mem_cons_self na ⟨_, upd_same, hlen, hk2.merge .nil⟩) ?_
        rw [Den]
        exact ⟨pp, by rw [← R1.len]; show (rho1.at_ ++ [pp])[_]? = _; rw [List.getElem?_append_right (Nat.le_refl _)]; simp, rfl⟩⟩
end

/-- what a dict holds -/
def dictOf (d : D) (h : Hh) : Option (List (Key × D)) := match d with
  | .ref i => match h[i]? with
    | some (.dK kvs) => some kvs
    | _ => none
  | _ => none
def getO (d k : D) (h : Hh) : Option (Option D) := match dictOf d h, keyD k with
  | some kvs, some key => some (getG kvs key)
  | _, _ => none
def eDGet1 (md mk : ME) : ME := fun env h => (md env h).bind fun d h1 => if (dictOf d h1).isSome = true then (mk env h1).bind fun k h2 => lift ((getO d k h2).map fun (o : Option D) => o.getD D.non) h2 else .stuck
theorem dictOf_of {G : Gm} {rho : Rm} {H : Hp} {hh : Hh} {d : D} {v : V} {kvs : List (Key × D)} (R : Rep G rho hh H) (q : Den G rho H d v) (e : dictOf d hh = some kvs) : ∃ a ws, v = .ref a ∧ H a = some (.dK ws) ∧ KD G rho H kvs ws := by
  unfold dictOf at e
  split at e
  · rename_i i
    split at e
    · rename_i kvs' e1
      cases e
      rw [Den] at q
      obtain ⟨a, e2, rfl⟩ := q
      obtain ⟨ws, e3, l, z⟩ := R.ob i a _ e2 e1
      exact ⟨a, ws, rfl, e3, z⟩
    · cases e
  · cases e
def OptD (G : Gm) (rho : Rm) (H : Hp) : Option D → Option V → Prop
  | some d, some v => Den G rho H d v
  | none, none => True
  | _, _ => False
theorem getO_of {G : Gm} {rho : Rm} {H : Hp} {hh : Hh} {d k : D} {a : Addr} {u : V} {o : Option D} (R : Rep G rho hh H) (q : Den G rho H d (.ref a)) (qk : Den G rho H k u) (e : getO d k hh = some o) :
    ∃ w : Option V, DGet H a u w ∧ OptD G rho H o w := by
  unfold getO at e
  split at e
  · rename_i kvs key e1 e2
    cases e
    obtain ⟨b, ws, eb, hb, z⟩ := dictOf_of R q e1
    cases eb
    have := keyD_of e2 qk
    subst this
    refine ⟨valV ws key, .k hb, ?_⟩
    cases g : getG kvs key with
    | none => rw [KD.none z g]; trivial
    | some d =>
      obtain ⟨v, e3, e4⟩ := KD.get z g
      rw [e3]; exact e4
  · cases e
section
variable {X : Cx} {o e f : Expr} {apos cpos : Pos} {md mk mx : ME}
theorem isD_of {G : Gm} {rho : Rm} {H : Hp} {hh : Hh} {d : D} {v : V} (R : Rep G rho hh H) (q : Den G rho H d v) (h : (dictOf d hh).isSome = true) : ∃ a, v = .ref a ∧ IsD H a := by
  obtain ⟨kvs, e⟩ := Option.isSome_iff_exists.mp h
  obtain ⟨a, ws, rfl, hb, _⟩ := dictOf_of R q e
  exact ⟨a, rfl, .inl ⟨ws, .inl hb⟩⟩
def eDGet2 (md mk mx : ME) : ME := fun env h => (md env h).bind fun d h1 => if (dictOf d h1).isSome = true then (mk env h1).bind fun k h2 => (mx env h2).bind fun x h3 => lift ((getO d k h3).map fun (o : Option D) => o.getD x) h3 else .stuck
theorem de_dget2 (hu : X.A.units + 1 < cLine) (ho : DE X o md) (he : DE X e mk) (hf : DE X f mx) (m : M2 X o "get" apos e f cpos) : DE X (.Call (.Attribute o "get" apos) [e, f] [] cpos) (eDGet2 md mk mx) :=
  ⟨fun W tk => pe_weak (pe_dget2 hu (ho.run W tk) (he.run W tk) (hf.run W tk) m) fun σ H Q q => by
    refine tE_of (f := fun env d h1 => if (dictOf d h1).isSome = true then (mk env h1).bind fun k h2 => (mx env h2).bind fun x h3 => lift ((getO d k h3).map fun (o : Option D) => o.getD x) h3 else .stuck) q fun rho env hh H1 d v R E qd p => ?_
    split at p
    · rename_i hd
      obtain ⟨a, rfl, ha⟩ := isD_of R qd hd
      refine ⟨a, rfl, ha, ?_⟩
      refine tE2_of (f := fun env d k h2 => (mx env h2).bind fun x h3 => lift ((getO d k h3).map fun (o : Option D) => o.getD x) h3) ⟨rho, env, hh, R, E, qd, p⟩ fun rho env hh H2 k u R E qd qk p => ?_
      have h3 := At.seq3 (m := mx) (f := fun env d k x h3 => lift ((getO d k h3).map fun (o : Option D) => o.getD x) h3) ⟨rho, env, hh, d, k, R, E, qd, qk, p⟩
      obtain ⟨rho3, env3, hh3, R3, E3, p3⟩ := h3
      refine ⟨rho3, env3, hh3, R3, E3, ?_⟩
      cases e3 : mx env3 hh3 with
      | stuck => rw [e3] at p3; exact p3
      | err y h1 => rw [e3] at p3; exact p3
      | ok y h1 =>
        rw [e3] at p3
        intro rho4 H4 vy S4 R4 q4
        obtain ⟨rho5, env5, hh5, d5, k5, y5, R5, E5, qd5, qk5, qy5, p5⟩ := p3 rho4 H4 vy S4 R4 q4
        obtain ⟨z, ez, p6⟩ := lift_post p5
        obtain ⟨oo, eo, rfl⟩ := Option.map_eq_some_iff.mp ez
        obtain ⟨w, g, hw⟩ := getO_of R5 qd5 qk5 eo
        refine ⟨w, g, p6.val R5 ?_⟩
        cases oo with
        | none =>
          cases w with
          | none => exact qy5
          | some v => exact hw.elim
        | some d =>
          cases w with
          | none => exact hw.elim
          | some v => exact hw
    · exact p.elim⟩
end
def k_dof : D → Hh → Res D := fun d h1 => match (seqL d h1).bind prsOf with
  | some kvs => .ok (.ref h1.length) (h1 ++ [.dK (mergeG [] kvs)])
  | none => .stuck
def k_dof' (h1 : Hh) (o : Option (List (Key × D))) : Res D := match o with
  | some kvs => .ok (.ref h1.length) (h1 ++ [.dK (mergeG [] kvs)])
  | none => .stuck
@[simp] theorem ev_dictOf (m : ME) (env : DEnv) (h : Hh) : eDictOf m env h = (m env h).bind k_dof := rfl
@[simp] theorem ev_k_dof (xs : List D) (h : Hh) : k_dof (.lst xs) h = k_dof' h (prsOf xs) := rfl
@[simp] theorem ev_k_dof' (kvs : List (Key × D)) (h : Hh) : k_dof' h (some kvs) = .ok (.ref h.length) (h ++ [.dK (mergeG [] kvs)]) := rfl
def k_g1 (mk : ME) (env : DEnv) : D → Hh → Res D := fun d h1 => if (dictOf d h1).isSome = true then (mk env h1).bind fun k h2 => lift ((getO d k h2).map fun (o : Option D) => o.getD D.non) h2 else .stuck
def k_g1' (mk : ME) (env : DEnv) (d : D) (h1 : Hh) (o : Option (List (Key × D))) : Res D := if o.isSome = true then (mk env h1).bind fun k h2 => lift ((getO d k h2).map fun (o : Option D) => o.getD D.non) h2 else .stuck
def k_g1'' (d : D) : D → Hh → Res D := fun k h2 => lift ((getO d k h2).map fun (o : Option D) => o.getD D.non) h2
@[simp] theorem ev_dget1 (md mk : ME) (env : DEnv) (h : Hh) : eDGet1 md mk env h = (md env h).bind (k_g1 mk env) := rfl
@[simp] theorem ev_k_g1 (mk : ME) (env : DEnv) (d : D) (h : Hh) : k_g1 mk env d h = k_g1' mk env d h (dictOf d h) := rfl
@[simp] theorem ev_k_g1' (mk : ME) (env : DEnv) (d : D) (h : Hh) (kvs : List (Key × D)) : k_g1' mk env d h (some kvs) = (mk env h).bind (k_g1'' d) := rfl
@[simp] theorem ev_k_g1'' (d k : D) (h : Hh) : k_g1'' d k h = lift ((getO d k h).map fun (o : Option D) => o.getD D.non) h := rfl
def k_h1 (mk mx : ME) (env : DEnv) : D → Hh → Res D := fun d h1 => if (dictOf d h1).isSome = true then (mk env h1).bind fun k h2 => (mx env h2).bind fun x h3 => lift ((getO d k h3).map fun (o : Option D) => o.getD x) h3 else .stuck
def k_h1' (mk mx : ME) (env : DEnv) (d : D) (h1 : Hh) (o : Option (List (Key × D))) : Res D := if o.isSome = true then (mk env h1).bind fun k h2 => (mx env h2).bind fun x h3 => lift ((getO d k h3).map fun (o : Option D) => o.getD x) h3 else .stuck
def k_h2 (mx : ME) (env : DEnv) (d : D) : D → Hh → Res D := fun k h2 => (mx env h2).bind fun x h3 => lift ((getO d k h3).map fun (o : Option D) => o.getD x) h3
def k_h3 (d k : D) : D → Hh → Res D := fun x h3 => lift ((getO d k h3).map fun (o : Option D) => o.getD x) h3
@[simp] theorem ev_dget2 (md mk mx : ME) (env : DEnv) (h : Hh) : eDGet2 md mk mx env h = (md env h).bind (k_h1 mk mx env) := rfl
@[simp] theorem ev_k_h1 (mk mx : ME) (env : DEnv) (d : D) (h : Hh) : k_h1 mk mx env d h = k_h1' mk mx env d h (dictOf d h) := rfl
@[simp] theorem ev_k_h1' (mk mx : ME) (env : DEnv) (d : D) (h : Hh) (kvs : List (Key × D)) : k_h1' mk mx env d h (some kvs) = (mk env h).bind (k_h2 mx env d) := rfl
@[simp] theorem ev_k_h2 (mx : ME) (env : DEnv) (d k : D) (h : Hh) : k_h2 mx env d k h = (mx env h).bind (k_h3 d k) := rfl
@[simp] theorem ev_k_h3 (d k x : D) (h : Hh) : k_h3 d k x h = lift ((getO d k h).map fun (o : Option D) => o.getD x) h := rfl
def refDict (o : Option O) : Option (List (Key × D)) := match o with | some (.dK kvs) => some kvs | _ => none
@[simp] theorem ev_dictR (i : Nat) (h : Hh) : dictOf (.ref i) h = refDict h[i]? := by
  show (match h[i]? with | some (.dK kvs) => some kvs | _ => none : Option (List (Key × D))) = _
  cases h[i]? with
  | none => rfl
  | some o => cases o <;> rfl
@[simp] theorem ev_refDict (kvs : List (Key × D)) : refDict (some (.dK kvs)) = some kvs := rfl
def getO' (o : Option (List (Key × D))) (k : Option Key) : Option (Option D) := match o, k with
  | some kvs, some key => some (getG kvs key)
  | _, _ => none
@[simp] theorem ev_getO (d k : D) (h : Hh) : getO d k h = getO' (dictOf d h) (keyD k) := rfl
@[simp] theorem ev_getO' (kvs : List (Key × D)) (k : Key) : getO' (some kvs) (some k) = some (getG kvs k) := rfl
@[simp] theorem ev_keyI (i : Int) : keyD (.int i) = some (.inl i) := rfl
@[simp] theorem ev_keyS (x : Str) : keyD (.str x) = some (.inr x) := rfl
end MR

namespace MR
open PySem PySem.Spec PyProof.Rows L2

/-- one that waits -/
structure En where
  g : Nat
  w : Str
  no : Nat
  lt : Option Nat
def ltD (o : Option Nat) : D := match o with | some r => .int r | none => .non
def En.d (e : En) : D := .tup [.int e.g, .str e.w, .int e.no, ltD e.lt]
structure RoomOk (n : Nat) (ws : List Str) (es : List En) : Prop where
  len : ws.length = n
  pl : ∀ w ∈ ws, w ∈ PL
  gs : ∀ e ∈ es, e.g < n
  out : ∀ e ∈ es, ws[e.g]? = some ("out" : Str)
  rw : ∀ e ∈ es, e.w = "read" ∨ e.w = "write"
  lt : ∀ e ∈ es, ∀ r, e.lt = some r → 1 ≤ r
  nd : (es.map En.g).Nodup
end MR

namespace MR
open PySem PySem.Spec PyProof.Rows L2

def rgOf (d : D) : Option (List D) := match d with
  | .int n => if -1000000 ≤ n ∧ n ≤ 1000000 then some (rangeD 0 n) else none
  | _ => none
def aRg (m : ME) : MA := fun env h => (m env h).bind fun d h1 => lift (rgOf d) h1
section
variable {X : Cx} {e : Expr} {m : ME} {pos p pos2 p2 : Pos}
end
def k_rg : D → Hh → Res (List D) := fun d h1 => lift (rgOf d) h1
@[simp] theorem ev_aRg (m : ME) (env : DEnv) (h : Hh) : aRg m env h = (m env h).bind k_rg := rfl
@[simp] theorem ev_k_rg (n : Int) (h : Hh) : k_rg (.int n) h = lift (if -1000000 ≤ n ∧ n ≤ 1000000 then some (rangeD 0 n) else none) h := rfl

def intsOf : List D → Option (List Int)
  | [] => some []
  | .int i :: r => (intsOf r).map (i :: ·)
  | _ :: _ => none
theorem intsOf_of {G : Gm} {rho : Rm} {H : Hp} : ∀ {ds : List D} {vs : List V} {ns : List Int}, Dens G rho H ds vs → intsOf ds = some ns → vs = ns.map V.int
  | [], vs, ns, q, e => by
    rw [Dens] at q; subst q
    cases e; rfl
  | d :: ds, vs, ns, q, e => by
    rw [Dens] at q
    obtain ⟨v, r, rfl, a, b⟩ := q
    unfold intsOf at e
    split at e
    · rename_i z; cases z
    · rename_i i r' z
      cases z
      obtain ⟨ms, e1, rfl⟩ := Option.map_eq_some_iff.mp e
      rw [intsOf_of b e1, show v = .int i from a]; rfl
    · cases e
def maxI : List Int → Int → Int
  | [], m => m
  | x :: xs, m => maxI xs (if x > m then x else m)
def maxLO : OpN := fun ds h => match ds with
  | [d] => ((seqL d h).bind intsOf).bind fun ns => match ns with
    | n :: r => some (.int (maxI r n))
    | [] => none
  | _ => none
def sumLO : OpN := fun ds h => match ds with
  | [d] => ((seqL d h).bind intsOf).map fun ns => .int ns.sum
  | _ => none
@[simp] theorem ev_intsOf0 : intsOf [] = some [] := rfl
@[simp] theorem ev_intsOf (i : Int) (r : List D) : intsOf (.int i :: r) = (intsOf r).map (i :: ·) := rfl
def maxOf : Option (List Int) → Option D := fun o => o.bind fun ns => match ns with
  | n :: r => some (.int (maxI r n))
  | [] => none
@[simp] theorem ev_maxL (xs : List D) (h : Hh) : maxLO [.lst xs] h = maxOf (intsOf xs) := rfl
@[simp] theorem ev_maxOf (n : Int) (r : List Int) : maxOf (some (n :: r)) = some (.int (maxI r n)) := rfl
@[simp] theorem ev_sumL (xs : List D) (h : Hh) : sumLO [.lst xs] h = (intsOf xs).map fun ns => .int ns.sum := rfl

def updO : OpM := fun d ds h => match ds with
  | [e] => match d, dictOf d h, dictOf e h with
    | .ref i, some kvs, some more => (match e with
      | .ref j => if i ≠ j ∧ kvs.length + more.length ≤ 16777216 then some (.non, h.set i (.dK (mergeG kvs more))) else none
      | _ => none)
    | _, _, _ => none
  | _ => none
def isDk (d : D) (h : Hh) : Bool := (dictOf d h).isSome
@[simp] theorem ev_isDk (d : D) (h : Hh) : isDk d h = (dictOf d h).isSome := rfl
def updR (i j : Nat) (h : Hh) (o o' : Option (List (Key × D))) : Option (D × Hh) := match o, o' with
  | some kvs, some more => if i ≠ j ∧ kvs.length + more.length ≤ 16777216 then some (.non, h.set i (.dK (mergeG kvs more))) else none
  | _, _ => none
@[simp] theorem ev_upd (i j : Nat) (h : Hh) : updO (.ref i) [.ref j] h = updR i j h (refDict h[i]?) (refDict h[j]?) := by
  rw [← ev_dictR, ← ev_dictR]
  show (match D.ref i, dictOf (.ref i) h, dictOf (.ref j) h with
    | .ref i, some kvs, some more => (if i ≠ j ∧ kvs.length + more.length ≤ 16777216 then some (D.non, h.set i (.dK (mergeG kvs more))) else none)
    | _, _, _ => none) = _
  cases dictOf (.ref i) h <;> cases dictOf (.ref j) h <;> rfl
@[simp] theorem ev_updR (i j : Nat) (h : Hh) (kvs more : List (Key × D)) : updR i j h (some kvs) (some more) = if i ≠ j ∧ kvs.length + more.length ≤ 16777216 then some (.non, h.set i (.dK (mergeG kvs more))) else none := rfl
end MR

namespace MR
open PySem PySem.Spec PyProof.Rows L2

theorem nodup_len : ∀ (n : Nat) (l : List Nat), l.Nodup → (∀ x ∈ l, x < n) → l.length ≤ n
  | 0, l, _, h => by
    cases l with
    | nil => exact Nat.le_refl _
    | cons x xs => exact absurd (h x List.mem_cons_self) (Nat.not_lt_zero _)
  | n + 1, l, nd, h => by
    by_cases hm : n ∈ l
    · have h1 := nodup_len n (l.erase n) (nd.erase n) fun x hx => by
        have h2 := (List.Nodup.mem_erase_iff nd).mp hx
        have := h x h2.2
        omega
      rw [List.length_erase_of_mem hm] at h1
      omega
    · have h1 := nodup_len n l nd fun x hx => by
        have := h x hx
        have : x ≠ n := fun e => hm (by rw [← e]; exact hx)
        omega
      omega
theorem RoomOk.few {n : Nat} {ws : List Str} {es : List En} (R : RoomOk n ws es) : es.length ≤ n := by
  have := nodup_len n (es.map En.g) R.nd fun x m => by
    obtain ⟨e, he, rfl⟩ := List.mem_map.mp m
    exact R.gs e he
  simpa using this
end MR

namespace MR
open PySem PySem.Spec PyProof.Rows L2

/-- d[k] = v -/
def setDO : OpS := fun o i d h => match o with
  | .ref j => match h[j]? with
    | some (.dK kvs) => match keyD i with
      | some k => if kvs.length < 16777216 then some (h.set j (.dK (putG kvs k d))) else none
      | none => none
    | _ => none
  | _ => none
theorem rz_setD {G : Gm} : RzS G rSetD setDO := fun rho hh H o i d vo vi v hh' Q R qo qi qd e k => by
  unfold setDO at e
  split at e
  · rename_i j
    split at e
    · rename_i kvs ex
      split at e
      · rename_i key e2
        split at e
        · rename_i hl
          cases e
          rw [Den] at qo
          obtain ⟨a, e3, rfl⟩ := qo
          obtain ⟨fvs, e4, l, z⟩ := R.ob j a _ e3 ex
          have hl2 : fvs.length < sizeLine := by rw [← Paired.length z, sizeLine_eq]; exact hl
          have S : Step rho H rho (upd H a (.dK (putK fvs key v))) := .put (List.mem_of_getElem? e3)
          have z2 : KD G rho H (putG kvs key d) (putK fvs key v) := KD.put z key qd
          refine ⟨a, _, rfl, ?_, k _ S (R.put e3 ⟨_, upd_same, ?_, Paired.mapP z2 fun p q r => ⟨r.1, Den.step R S _ _ r.2⟩⟩)⟩
          · have := DPut.k (v := v) (k := key) e4 hl2
            rw [keyD_of e2 qi]
            exact this
          · have := length_putK fvs key v
            omega
        · cases e
      · cases e
    · cases e
  · cases e
end MR

namespace MR
open PySem PySem.Spec PyProof.Rows L2
section
variable {X : Cx}
section
variable {CX : CXT} {k i : Nat} {f : Addr} {fd : FuncData} {ps : List Str} {sp : Sp} {E : L2.St → XK} {x : Str} {p pos : Pos} {e : Expr} {es : List Expr} {t : TA}
theorem pe_callLS (F : FnOk X.prog X.w X.K X.mg X.base CX k f fd ps sp) (hr : Room k X.A) (hN : X.N[i]? = some x) (hv : Vis X.env.scope x) (hk : PySem.W.keepIn X.K (.ref f) = true) (hb : Binds X.K fd ps []) (hx : ∀ σ, PassesAt CX X σ (E σ)) (ha : PA X (e :: es) t)
    (hdb : (x == ("__debug__" : Str)) = false := by decide) (hcd : (x == ("__classdict__" : Str)) = false := by decide)
    (he : starEach (e :: es) X.env = (false, eval e X.env) :: starEach es X.env := by rfl) (hpl : (backTo pos (starEach es X.env)).any (·.1) = false := by rfl) : PE X (.Call (.Name x p) (e :: es) [] pos) (fun σ H Q => σ[i]? = some (some (.ref f)) ∧ tCallS sp E t σ H Q) := by
  refine ⟨fun pins s σ H Q I h => ?_⟩
  obtain ⟨hs, ht⟩ := h
  refine wpAny_Call_Name_kw (thn ((pe_var (pos := p) hN hv hdb hcd).run pins s σ H (fun v H1 => v = .ref f ∧ H1 = H) I ⟨.ref f, hs, rfl, rfl⟩) fun u s1 ⟨v, H1, I1, r1, q1⟩ => ?_)
  obtain ⟨rfl, rfl⟩ := q1
  cases r1
  refine PySem.W.callWith_K (h₀ := X.base) I.ok.mod.kin hk (thn (ha.run pos pins s1 σ _ _ I1 ht) fun us s2 ⟨vs, H2, I2, r, q⟩ => ⟨I2.kIn, ?_⟩) he hpl
  exact run_fnS F hr hb (hx σ) I2 r q
end
variable {k i : Nat} {f : Addr} {fd : FuncData} {ps : List Str} {F : MF} {x : Str} {p pos : Pos} {e : Expr} {es : List Expr} {ms : MA}
def eCallL (i : Nat) (f : Addr) (F : MF) (ms : MA) : ME := fun env h => match env[i]? with
  | some (some (.glb (.ref g))) => if g = f then eCall F ms env h else .stuck
  | _ => .stuck
theorem de_callL {n : Nat} (Fn : FnD X.prog X.w X.K X.mg X.base k f fd ps F) (hr : Room k X.A) (hk : PySem.W.keepIn X.K (.ref f) = true) (hb : Binds X.K fd ps []) (hn : n = ps.length) (ha : DAn X (e :: es) n ms) (hN : X.N[i]? = some x := by rfl) (hv : Vis X.env.scope x := by first | exact Or.inl rfl | exact Or.inr (Or.inl rfl) | exact Or.inr (Or.inr rfl))
    (hdb : (x == ("__debug__" : Str)) = false := by decide) (hcd : (x == ("__classdict__" : Str)) = false := by decide) (he : starEach (e :: es) X.env = (false, eval e X.env) :: starEach es X.env := by rfl) (hpl : (backTo pos (starEach es X.env)).any (·.1) = false := by rfl) :
    DE X (.Call (.Name x p) (e :: es) [] pos) (eCallL i f F ms) :=
  ⟨fun W tk => pe_weak (pe_callLS (E := WE W) Fn hr hN hv hk hb (passAt tk) (ha.da.run W tk) hdb hcd he hpl) fun σ H Q h => by
    obtain ⟨rho, env, hh, R, E, p⟩ := h
    unfold eCallL at p
    split at p
    · rename_i g e1
      split at p
      · rename_i e2
        subst e2
        obtain ⟨v, e3, q⟩ := E.2 i _ e1
        have q : v = V.ref g := q
        subst q
        exact ⟨e3, call_of ⟨rho, env, hh, R, E, p⟩ fun vs H1 ⟨rho, ds, q, env, h0, h1, e⟩ => by rw [← q.length, ha.n _ _ _ _ e, hn]⟩
      · exact p.elim
    · exact p.elim⟩
end
end MR

namespace MR
open PySem PySem.Spec PyProof.Rows L2

def putA {α : Type} (f : Str) (d : α) : List (Str × α) → List (Str × α)
  | [] => [(f, d)]
  | (g, y) :: r => if g = f then (g, d) :: r else (g, y) :: putA f d r
section
variable {G : Gm} {rho : Rm} {H : Hp}
theorem Fields.put {f : Str} {d : D} {v : V} (q : Den G rho H d v) : ∀ {fs : List (Str × D)} {fvs : List (Str × V)}, Fields G rho H fs fvs → Fields G rho H (putA f d fs) (putF f v fvs)
  | _, _, .nil => .cons ⟨rfl, q⟩ .nil
  | _, _, .cons (a := (g, y)) (b := (g2, z)) r t => by
    obtain ⟨e, r2⟩ := r
    have e : g = g2 := e
    subst e
    unfold putA putF
    split
    · exact .cons ⟨rfl, q⟩ t
    · exact .cons ⟨rfl, r2⟩ (Fields.put q t)
theorem Fields.get {f : Str} {d : D} : ∀ {fs : List (Str × D)} {fvs : List (Str × V)}, Fields G rho H fs fvs → fs.lookup f = some d → ∃ v, fvs.lookup f = some v ∧ Den G rho H d v
  | _, _, .nil, e => by cases e
  | _, _, .cons (a := (g, y)) (b := (g2, z)) r t, e => by
    obtain ⟨e2, r2⟩ := r
    have e2 : g = g2 := e2
    subst e2
    rw [List.lookup_cons] at e ⊢
    cases h : f == g with
    | true => rw [h] at e; cases e; exact ⟨z, rfl, r2⟩
    | false => rw [h] at e; exact Fields.get t e
theorem Fields.no {f : Str} : ∀ {fs : List (Str × D)} {fvs : List (Str × V)}, Fields G rho H fs fvs → fs.lookup f = none → fvs.lookup f = none
  | _, _, .nil, _ => rfl
  | _, _, .cons (a := (g, y)) (b := (g2, z)) r t, e => by
    obtain ⟨e2, r2⟩ := r
    have e2 : g = g2 := e2
    subst e2
    rw [List.lookup_cons] at e ⊢
    cases h : f == g with
    | true => rw [h] at e; cases e
    | false => rw [h] at e; exact Fields.no t e
theorem Fields.length {fs : List (Str × D)} {fvs : List (Str × V)} (h : Fields G rho H fs fvs) : fs.length = fvs.length := by
  induction h with
  | nil => rfl
  | cons _ _ ih => simp [ih]
end

/-- an own class -/
structure Kd (K : PySem.W.Frag) (mg : Str → Option Value) (x : Str) where
  C : Addr
  cl : Cls K C
  a : PySem.W.nsIn K mainGlobals x = some (some (.ref C))
  g : mg x = some (.ref C)
  mks : PySem.W.makesIn K C = true
  kp : PySem.W.keepIn K (.ref C) = true
/-- a method of it -/
structure Md (K : PySem.W.Frag) (C : Addr) (m qual : Str) (st : Stmt) (ps : List Str) where
  f : Addr
  fd : FuncData
  F : Fun K m qual st f fd
  me : Meth K C m f
  b : Binds K fd ps []
def fldO (x f : Str) : D → Hh → Option D := fun d h => match d with
  | .ref i => match h[i]? with
    | some (.ins y fs) => if y = x then fs.lookup f else none
    | _ => none
  | _ => none
def eFld (x f : Str) (m : ME) : ME := fun env h => (m env h).bind fun d h1 => lift (fldO x f d h1) h1
section
variable {X : Cx} {x f m : Str} {e o value : Expr} {es : List Expr} {mo mv : ME} {ms : MA} {pos pos' p apos : Pos} {k : Nat} {g : Addr} {fd : FuncData} {ps : List Str} {F : MF}
def isIns (x m : Str) (d : D) (h : Hh) : Bool := match d with
  | .ref i => match h[i]? with
    | some (.ins y fs) => decide (y = x) && (fs.lookup m).isNone
    | _ => false
  | _ => false
def eMtd (x m : Str) (F : MF) (mo : ME) (ms : MA) : ME := fun env h => (mo env h).bind fun o h1 => if isIns x m o h1 = true then (ms env h1).bind fun ds h2 => F (o :: ds) h2 else .stuck
end
end MR

namespace MR
open PySem PySem.Spec PyProof.Rows L2

/-- how many unlike ones -/
def setN (ns : List Int) : Nat := (firstMet (fun i => ns.getD i 0) ns.length).length
def lenSetO (d : D) (h : Hh) : Option D := (seqL d h).bind fun ds => match intsOf ds with
  | some ns => if ns.length < 64 then some (.int (setN ns)) else none
  | none => match ds with
    | [.str _] => some (.int 1)
    | _ => none
def eLenSet (m : ME) : ME := fun env h => (m env h).bind fun d h1 => lift (lenSetO d h1) h1
section
variable {X : Cx} {a : Expr} {ta : TE} {m : ME} {p p2 q pos : Pos}
def tSetN (K : PySem.W.Frag) (ta : TE) : TE := fun σ H Q => ta σ H fun x H1 => ∃ l n, x = .ref l ∧ ((∃ ns : List Int, SqL K H1 l (ns.map V.int) ∧ ns.length < 64 ∧ n = setN ns) ∨ ∃ t : Str, SqL K H1 l [V.str t] ∧ n = 1) ∧ Q (.int (n : Nat)) H1
theorem pe_setN (calm : X.calm = true) (gl : Gl X "len") (gn : X.mg "len" = none) (gs : Gl X "set") (gsn : X.mg "set" = none) (arg : PE X a ta)
    (sa : starEach [a] X.env = (false, eval a X.env) :: starEach [] X.env) : PE X (.Call (.Name "len" p) [.Call (.Name "set" p2) [a] [] q] [] pos) (tSetN X.K ta) :=
  ⟨fun pins st σ H Q inv hyp => by
    refine Call_ (ld_blt inv gl gn boot_len ?_)
    apply PyProof.Rows.callWith_builtin1 _ rfl rfl
    apply PyProof.Rows.args_cons _ rfl
    refine Call_ (ld_blt inv gs gsn boot_set ?_)
    apply PyProof.Rows.callWith_type1 _ sa rfl
    apply PyProof.Rows.args_cons _ sa
    apply thn (arg.run pins st σ H _ inv hyp)
    rintro v st1 ⟨x, H1, J, rv, l, n, rfl, alt, goal⟩
    apply PyProof.Rows.args_nil
    cases rv
    have last : ∀ (k : Str ⊕ Unit) (hp : Heap) (tk : Nat), (∃ o es ep t, hp.get? st1.heap.objs.size = some o ∧ o.ExactSet ∧ o.data = .set es ep t ∧ t.fits es.size = true ∧ es.size = n) → n < 100000 →
        (∀ b o, b < st1.heap.objs.size → st1.heap.get? b = some o → hp.get? b = some o) →
        wpAny (model X.prog X.w) X.A (spliced (backTo pos (starEach [] X.env))) (fun vs s₂ => wpAny (model X.prog X.w) X.A (call (.builtin "len") (Value.ref st1.heap.objs.size :: vs)) (EP X pins σ Q) X.xe s₂) X.xe { st1 with heap := hp, toks := tk } := fun _ hp tk ⟨o, es, ep, t, e1, e2, e3, e4, e5⟩ small keep => by
      apply PyProof.Rows.args_nil
      have J2 : Inv X pins σ H1 { st1 with heap := hp, toks := tk } := J.kept fun b ob e => keep b ob (Heap.lt_size e) e
      exact call_len_set e1 e2 e3 e4 (by rw [e5]; omega) ⟨.int n, H1, J2.tok _, ⟨_, by rw [e5]⟩, goal⟩
    rcases alt with ⟨ns, at_, small, rfl⟩ | ⟨t, at_, rfl⟩
    · obtain ⟨its, r, pl, _⟩ := J.list at_
      have len : its.toArray.size = ns.length := by rw [List.size_toArray, ← r.length, List.length_map]
      have le := firstMet_length_le (fun i => ns.getD i 0) ns.length
      apply call_set_list (J.ok.hd calm) pl.isList (ns := ns) (by simpa using r.ints) (by unfold scanBound; omega)
      intro hp tk made keep
      rw [len] at made
      obtain ⟨o, es, ep, t, e1, e2, e3, _, _, _, e4, e5⟩ := made
      exact last (.inr ()) hp tk ⟨o, es, ep, t, e1, e2, e3, e4, e5⟩ (by unfold setN; omega) keep
    · obtain ⟨its, r, pl, _⟩ := J.list at_
      have len : its.toArray.size = 1 := by rw [List.size_toArray, ← r.length]; rfl
      apply SS.call_set_listS (J.ok.hd calm) pl.isList (xs := [t]) (by simpa using strsAre_of (ys := [t]) r) (Nat.le_refl 1)
      intro hp tk made keep
      rw [len] at made
      obtain ⟨o, es, ep, t, e1, e2, e3, _, _, _, e4, e5⟩ := made
      exact last (.inr ()) hp tk ⟨o, es, ep, t, e1, e2, e3, e4, e5⟩ (by omega) keep⟩
theorem de_lenSet (calm : X.calm = true) (gl : Gl X "len") (gn : X.mg "len" = none) (gs : Gl X "set") (gsn : X.mg "set" = none) (ha : DE X a m)
    (sa : starEach [a] X.env = (false, eval a X.env) :: starEach [] X.env := by rfl) : DE X (.Call (.Name "len" p) [.Call (.Name "set" p2) [a] [] q] [] pos) (eLenSet m) :=
  ⟨fun W tk => pe_weak (pe_setN calm gl gn gs gsn (ha.run W tk) sa) fun σ H Q h => by
    refine tE_of (f := fun env d h1 => lift (lenSetO d h1) h1) h fun rho env hh H1 d v R E qd p => ?_
    obtain ⟨z, ez, p⟩ := lift_post p
    obtain ⟨ds, e1, e2⟩ := Option.bind_eq_some_iff.mp ez
    obtain ⟨l, us, rfl, hs, _, qz⟩ := seqL_of R qd e1
    split at e2
    · rename_i ns ei
      split at e2
      · rename_i hl
        cases e2
        have := intsOf_of qz ei
        subst this
        exact ⟨l, _, rfl, .inl ⟨ns, SqL.of hs, hl, rfl⟩, p.val R rfl⟩
      · cases e2
    · split at e2
      · rename_i t _
        cases e2
        obtain ⟨v, rfl, hv⟩ := dens_one qz
        have hv : v = .str t := hv
        subst hv
        exact ⟨l, 1, rfl, .inr ⟨t, SqL.of hs, rfl⟩, p.val R rfl⟩
      · cases e2⟩
end
end MR

namespace MR
open PySem PySem.Spec PyProof.Rows L2

end MR

namespace MR
open PySem PySem.Spec PyProof.Rows L2

def str1O : OpN := fun ds _ => match ds with
  | [.int i] => if i.natAbs.log2 < 1920 then some (.str (toString i)) else none
  | [.non] => some (.str "None")
  | _ => none
def rStrA : List V → Hp → VK → Prop := fun xs H Q => (∃ i, xs = [V.int i] ∧ i.natAbs.log2 < 1920 ∧ Q (.str (toString i)) H) ∨ (xs = [V.non] ∧ Q (.str "None") H)
theorem call_strN {X : Cx} : CallR X (.type "str") (fun xs H Q => xs = [V.non] ∧ Q (.str "None") H) := by
  intro pins st σ H xs us Q inv r h
  obtain ⟨rfl, goal⟩ := h
  obtain ⟨u, rfl, ru⟩ := vals1 r
  have ru : u = Value.none := ru
  subst ru
  exact P.str_of_none ⟨.str "None", H, inv.tok _, ⟨_, rfl⟩, goal⟩
theorem call_strA {X : Cx} : CallR X (.type "str") rStrA := call_str_int.or call_strN
theorem rz_str1 {G : Gm} : RzN G rStrA str1O := fun rho hh H ds vs d Q R q e k => by
  unfold str1O at e
  split at e
  · rename_i i
    split at e
    · rename_i hl
      cases e
      obtain ⟨v, rfl, h⟩ := dens_one q
      exact .inl ⟨i, by rw [show v = .int i from h], hl, k _ H .refl R rfl⟩
    · cases e
  · cases e
    obtain ⟨v, rfl, h⟩ := dens_one q
    exact .inr ⟨by rw [show v = .non from h], k _ H .refl R rfl⟩
  · cases e
def mulC : Op2 := fun a b h => match a, b with
  | .str x, .int k => if 0 ≤ k ∧ k ≤ 1 then some (.str (if k = 1 then x else Str.empty)) else none
  | a, b => mulB a b h
def rMulS : R2 := fun x y H Q => ∃ i k, x = .str i ∧ y = .int k ∧ (0 ≤ k ∧ k ≤ 1) ∧ Q (.str (if k = 1 then i else Str.empty)) H
def rMulC (K : PySem.W.Frag) : R2 := fun x y H Q => rMulB K x y H Q ∨ rMulS x y H Q
theorem op_mulS {X : Cx} : OpR X (binaryOp .Mult) rMulS := by
  intro pins s σ H x y v u Q inv rx ry hyp
  obtain ⟨i, k, rfl, rfl, hk, goal⟩ := hyp
  obtain ⟨t, rfl⟩ := rx
  obtain ⟨t2, rfl⟩ := ry
  have small : ¬ k < 1 → (k == 1 || i.length == 0) = true := fun h => by
    have : k = 1 := by omega
    subst this; rfl
  refine SB.mul (x := i) (n := k) ⟨?_, fun a b => absurd (small a) (by rw [b]; decide), fun a b => absurd (small a) (by rw [b]; decide)⟩ fun t' tk => ?_
  · rw [decide_eq_false (by omega), decide_eq_false (by omega)]; rfl
  · have e : Txt.mul i k = if k = 1 then i else Str.empty := by
      unfold Txt.mul
      by_cases h : k < 1
      · rw [if_pos h, if_neg (by omega)]
      · rw [if_neg h, if_pos (small h), if_pos (by omega)]
    exact ⟨.str (if k = 1 then i else Str.empty), H, inv.tok _, ⟨t', by rw [e]⟩, goal⟩
theorem op_mulC {X : Cx} : OpR X (binaryOp .Mult) (rMulC X.K) := op_mulB.or op_mulS
theorem rz_mulC {G : Gm} : Rz2 G (rMulC G.K) mulC := fun rho hh H d1 d2 v1 v2 d Q R q1 q2 e k => by
  unfold mulC at e
  split at e
  · rename_i x n
    split at e
    · rename_i hl
      cases e
      exact .inr ⟨x, n, q1, q2, hl, k _ H .refl R rfl⟩
    · cases e
  · exact .inl (rz_mulB rho hh H d1 d2 v1 v2 d Q R q1 q2 e k)
@[simp] theorem ev_mulCI (i j : Int) (h : Hh) : mulC (.int i) (.int j) h = mulB (.int i) (.int j) h := rfl
def fmtD : D → Option D
  | .str y => if y.length ≤ sizeLine then some (.str y) else none
  | .int i => if i.natAbs.log2 < 1920 then some (.str (toString i)) else none
  | _ => none
def eFmt (m : ME) : ME := fun env h => (m env h).bind fun d h1 => lift (fmtD d) h1
def eJs : List ME → Str → ME
  | [], acc => fun _ h => .ok (.str acc) h
  | m :: ms, acc => fun env h => (m env h).bind fun d h1 => match d with
    | .str y => if (acc ++ y).length ≤ sizeLine then eJs ms (acc ++ y) env h1 else .stuck
    | _ => .stuck
def eJoined (ms : List ME) : ME := eJs ms Str.empty
section
variable {X : Cx}
theorem de_fmt {e : Expr} {m : ME} {pos : Pos} (he : DE X e m) : DE X (.FormattedValue e (-1) none pos) (eFmt m) :=
  ⟨fun W tk => pe_weak (pe_fmt (he.run W tk)) fun σ H Q h => by
    refine tE_of (f := fun env d h1 => lift (fmtD d) h1) h fun rho env hh H1 d v R E qd p => ?_
    obtain ⟨z, ez, p⟩ := lift_post p
    unfold fmtD at ez
    split at ez
    · rename_i y
      split at ez
      · rename_i hl
        cases ez
        exact .inl ⟨y, qd, hl, p.val R rfl⟩
      · cases ez
    · rename_i i
      split at ez
      · rename_i hl
        cases ez
        exact .inr ⟨i, qd, hl, p.val R rfl⟩
      · cases ez
    · cases ez⟩
inductive DJ (X : Cx) : List Expr → List ME → Prop where
  | nil : DJ X [] []
  | cons {e : Expr} {m : ME} {es : List Expr} {ms : List ME} (h : DE X e m) (r : DJ X es ms) : DJ X (e :: es) (m :: ms)
theorem DJ.pj {W : WX} (tk : Takes X W) : ∀ {es : List Expr} {ms : List ME}, DJ X es ms → PJ X es (ms.map fun m => TD (Cx.gm X) W m)
  | _, _, .nil => .nil
  | _, _, .cons h r => .cons (h.run W tk) (DJ.pj tk r)
theorem js_of {W : WX} {σ : L2.St} {Q : VK} : ∀ (ms : List ME) (acc : Str) (H : Hp), TD (Cx.gm X) W (eJs ms acc) σ H Q → tJs (ms.map fun m => TD (Cx.gm X) W m) acc σ H fun out H1 => Q (.str out) H1
  | [], acc, H, h => by
    obtain ⟨rho, env, hh, R, E, p⟩ := h
    have p : PostE (Cx.gm X) (Den (Cx.gm X)) (wAt W σ) rho H (.ok (.str acc) hh) Q := p
    exact p.val R rfl
  | m :: ms, acc, H, h => by
    refine tE_of (f := fun env d h1 => match d with
      | .str y => if (acc ++ y).length ≤ sizeLine then eJs ms (acc ++ y) env h1 else .stuck
      | _ => .stuck) h fun rho env hh H1 d v R E qd p => ?_
    cases d with
    | str y =>
      simp only at p
      split at p
      · rename_i hl
        exact ⟨y, qd, hl, js_of ms (acc ++ y) H1 ⟨rho, env, hh, R, E, p⟩⟩
      · exact p.elim
    | _ => exact p.elim
theorem de_joined {v1 v2 : Expr} {rest : List Expr} {ms : List ME} {pos : Pos} (h : DJ X (v1 :: v2 :: rest) ms) : DE X (.JoinedStr (v1 :: v2 :: rest) pos) (eJoined ms) :=
  ⟨fun W tk => pe_weak (pe_joined (h.pj tk)) fun σ H Q q => js_of ms Str.empty H q⟩
end
def strsOf : List D → Option (List Str)
  | [] => some []
  | .str x :: r => (strsOf r).map (x :: ·)
  | _ :: _ => none
theorem strsOf_of {G : Gm} {rho : Rm} {H : Hp} : ∀ {ds : List D} {vs : List V} {ns : List Str}, Dens G rho H ds vs → strsOf ds = some ns → vs = ns.map V.str
  | [], vs, ns, q, e => by
    rw [Dens] at q; subst q
    cases e; rfl
  | d :: ds, vs, ns, q, e => by
    rw [Dens] at q
    obtain ⟨v, r, rfl, a, b⟩ := q
    unfold strsOf at e
    split at e
    · rename_i z; cases z
    · rename_i i r' z
      cases z
      obtain ⟨ms, e1, rfl⟩ := Option.map_eq_some_iff.mp e
      rw [strsOf_of b e1, show v = .str i from a]; rfl
    · cases e
/-- what stands in a list or a tuple -/
def seqD (d : D) (h : Hh) : Option (List D) := match d with
  | .tup ds => some ds
  | d => seqL d h
def joinO (a : Str) (x : D) (h : Hh) : Option D := ((seqD x h).bind strsOf).bind fun ys => if (ys.map (·.length)).sum + ys.length * a.length ≤ 16777216 then some (.str (Txt.join a ys)) else none
def eJoin (ms mx : ME) : ME := fun env h => (ms env h).bind fun a h1 => match a with
  | .str s => (mx env h1).bind fun x h2 => lift (joinO s x h2) h2
  | _ => .stuck
section
variable {X : Cx} {o e : Expr} {ms mx : ME} {apos pos : Pos}
theorem de_join (ho : DE X o ms) (he : DE X e mx) (hs : starEach [e] X.env = [(false, eval e X.env)] := by rfl) (hbase : attributeBase o "join" X.env (eval o X.env) = eval o X.env := by rfl) (hline : (apos.endLine == pos.line) = true := by rfl) :
    DE X (.Call (.Attribute o "join" apos) [e] [] pos) (eJoin ms mx) :=
  ⟨fun W tk => pe_weak (pe_join (ho.run W tk) (he.run W tk) hs hbase hline) fun σ H Q h => by
    refine tE_of (f := fun env a h1 => match a with
      | .str s => (mx env h1).bind fun x h2 => lift (joinO s x h2) h2
      | _ => .stuck) h fun rho env hh H1 d v R E qd p => ?_
    cases d with
    | str s =>
      simp only at p
      have qd : v = V.str s := qd
      subst qd
      refine ⟨⟨s, rfl⟩, ?_⟩
      refine tE2_of (d1 := .str s) (f := fun env _ x h2 => lift (joinO s x h2) h2) ⟨rho, env, hh, R, E, rfl, p⟩ fun rho env hh H2 x u R E _ qx p => ?_
      obtain ⟨z, ez, p⟩ := lift_post p
      obtain ⟨ys, e1, e4⟩ := Option.bind_eq_some_iff.mp ez
      obtain ⟨ds, e2, e3⟩ := Option.bind_eq_some_iff.mp e1
      split at e4
      · rename_i hl
        cases e4
        have fin : Q (.str (Txt.join s ys)) H2 := p.val R rfl
        unfold seqD at e2
        split at e2
        · cases e2
          rw [Den] at qx
          obtain ⟨a, ws, rfl, h1, l, zz⟩ := qx
          have := strsOf_of zz e3
          subst this
          exact ⟨s, a, ys, rfl, rfl, .inr h1.t, hl, fin⟩
        · obtain ⟨a, us, rfl, hs, l, zz⟩ := seqL_of R qx e2
          have := strsOf_of zz e3
          subst this
          exact ⟨s, a, ys, rfl, rfl, .inl (SqL.of hs), hl, fin⟩
      · cases e4
    | _ => exact p.elim⟩
end
end MR

namespace MR
open PySem PySem.Spec PyProof.Rows L2

theorem pe_ownVe {X : Cx} {e : Expr} {es : List Expr} {ta : TA} {x : Str} {C : Addr} {mc : Value} {p1 p2 pos : Pos} {pl : Sem Bool} (hg : Gl X x) (hm : X.mg x = some (.ref C)) (r : ClX.CRead X.K C mc)
    (k : PySem.W.findCls X.K (.ref C) mc "__init__" = some (.val (.builtin "ValueError.__init__"))) (ha : PA X (e :: es) ta) (hdb : (x == ("__debug__" : Str)) = false := by decide)
    (hc : eval (.Call (.Attribute (.Name x p1) "__init__" p2) (e :: es) [] pos) X.env = (do
      let ov ← eval (.Name x p1) X.env
      standAt p2.atName
      let (f, first) ← holding [ov] (getMethod ov "__init__" pl)
      callWith pos f first (backTo pos (starEach (e :: es) X.env)) (backToKw pos (keywordEach [] X.env))) := by rfl)
    (he : starEach (e :: es) X.env = (false, eval e X.env) :: starEach es X.env := by rfl) (hpl : (backTo pos (starEach es X.env)).any (·.1) = false := by rfl) :
    PE X (.Call (.Attribute (.Name x p1) "__init__" p2) (e :: es) [] pos) (tVeI X.K ta) := by
  refine ⟨fun pins s σ H Q I h => ?_⟩
  refine PySem.W.methodCall_KW (ld_glob I hg hm ?_ hdb) hc
  refine PySem.W.method_cls I.kIn r.ga (PySem.W.cls_value I.kIn r.rd k (by decide +kernel) ?_)
  show wpAny _ _ (callWith pos (Value.builtin "ValueError.__init__") [] (backTo pos (starEach (e :: es) X.env)) []) _ _ _
  refine PyProof.Rows.callWith_method1 (thn (ha.run pos pins _ σ H _ (I.tok _) h) fun us s1 ⟨vs, H1, I1, r1, a, C, ws, ev, hl, T, ea, q⟩ => ?_) he hpl
  subst ev
  cases r1 with
  | @cons _ u0 _ ur ra rw' =>
    obtain rfl : u0 = Value.ref a := ra
    have hlen : ur.length ≤ sizeLine := by
      rw [← Paired.length rw', sizeLine_eq]
      omega
    exact oinit_ok T I1 ea hlen fun s' J => ⟨.non, H1, J, rfl, q⟩

/-- {x}: a text, an int or None -/
def tFmtN (te : TE) : TE := fun σ H Q => te σ H fun x H1 => ((∃ y : Str, x = .str y ∧ y.length ≤ sizeLine ∧ Q (.str y) H1) ∨ ∃ i : Int, x = .int i ∧ i.natAbs.log2 < 1920 ∧ Q (.str (toString i)) H1) ∨ (x = .non ∧ Q (.str "None") H1)
theorem pe_fmtN {X : Cx} {e : Expr} {te : TE} {pos : Pos} (he : PE X e te) : PE X (.FormattedValue e (-1) none pos) (tFmtN te) := by
  refine ⟨fun pins s σ H Q I h => ?_⟩
  refine wpAny_FormattedValue_plain (thn (he.run pins s σ H _ I h) fun v s1 hv => ?_)
  obtain ⟨x, H1, I1, r1, q⟩ := hv
  rcases q with (⟨y, rfl, hz, q⟩ | ⟨i, rfl, hz, q⟩) | ⟨rfl, q⟩
  · obtain ⟨t, rfl⟩ := r1
    exact wpAny_formatField_str ⟨.str y, H1, I1, ⟨t, rfl⟩, q⟩ ⟨.str y, H1, I1.tok _, ⟨_, rfl⟩, q⟩ hz
  · obtain ⟨t, rfl⟩ := r1
    exact wpAny_formatField_int hz ⟨.str (toString i), H1, I1.tok _, ⟨_, rfl⟩, q⟩
  · have r1 : v = .none := r1
    subst r1
    exact wpAny_formatField_none ⟨.str "None", H1, (I1.tok _).tok _, ⟨_, rfl⟩, q⟩
/-- the text w1 and the number i can be put together -/
def fits1 (w1 : Str) (i : Int) : Prop := i.natAbs.log2 < 1920 ∧ (Str.empty ++ w1).length ≤ sizeLine ∧ (Str.empty ++ w1 ++ (toString i : Str)).length ≤ sizeLine
/-- the text w1 and None -/
def fitsN (w1 : Str) : Prop := (Str.empty ++ w1).length ≤ sizeLine ∧ (Str.empty ++ w1 ++ ("None" : Str)).length ≤ sizeLine
def spI (K : PySem.W.Frag) (w1 f : Str) : Sp := fun vs H Q _ => ∃ (a C : Addr) (v : V), vs = [.ref a, v] ∧ ((∃ i : Int, v = .int i ∧ fits1 w1 i) ∨ (v = .non ∧ fitsN w1)) ∧ OexC K C ∧ PySem.W.findIn K (.ref C) f = some none ∧ H a = some (exo a C none) ∧
  ∀ dx, H dx = none → dx ≠ a → Q .non (upd (upd H dx (exd dx [(f, v)])) a (exo a C (some dx)))
def tInit (K : PySem.W.Frag) (w1 f : Str) : TS := tSeq (tDrop (tVeI K (tCons (tVar 0) (tCons (fun σ H Q => tJs [tC (.str w1), tFmtN (tVar 1)] Str.empty σ H fun out H1 => Q (.str out) H1) tNil)))) (tOst K f (tVar 0) (tVar 1))
/-- the def of an __init__: without defaults, or with None for its field -/
def XiF (K : PySem.W.Frag) (qual : Str) (st : Stmt) (fI : Addr) (fd : FuncData) : Prop := Fun K "__init__" qual st fI fd ∨ FunD K "__init__" qual (defArgs st) (defBody st) (defScope st) [.non] [] fI fd
theorem init_ok {P : Program} {w : World} {K : PySem.W.Frag} {mg : Str → Option Value} {base : Heap} {qual w1 f n1 : Str} {st : Stmt} {fI : Addr} {fd : FuncData} {k : Nat} (F : XiF K qual st fI fd) (S : FnScope [n1, f] [n1, f] (defScope st))
    (hbody : ∀ (cdv : Value) (A : Around) (outer : List PySem.Env) (s : Shared) (H : Hp) (E : XK), PSs (cxOf (L2.CX P w) P w K mg base [n1, f] qual (defScope st) fI cdv A outer s H E) (defBody st) (tInit K w1 f)) :
    FnOk P w K mg base (L2.CX P w) (k + 1) fI fd [n1, f] (spI K w1 f) := by
  have run : ∀ (cdv : Value) (A : Around) (outer : List PySem.Env) (s : Shared) (H : Hp) (vs : List V) (Q : VK) (E : XK), spI K w1 f vs H Q E →
      ∃ t, PSs (cxOf (L2.CX P w) P w K mg base [n1, f] qual (defScope st) fI cdv A outer s H E) (defBody st) t ∧ t { nx := fun _ H' => Q .non H', rt := Q } (start [n1, f] vs) H := fun cdv A outer s H vs Q E h => by
    obtain ⟨a, C, v, rfl, hv, T, no, ea, hq⟩ := h
    refine ⟨_, hbody cdv A outer s H E, ?_⟩
    rcases hv with ⟨i, rfl, f1, f2, f3⟩ | ⟨rfl, f2, f3⟩
    · refine ⟨V.ref a, rfl, w1, rfl, f2, V.int i, rfl, .inl (.inr ⟨i, rfl, f1, _, rfl, f3, a, C, [V.str _], rfl, Nat.le_of_ble_eq_true rfl, T, ea, ?_⟩)⟩
      exact ⟨V.int i, rfl, V.ref a, rfl, a, C, rfl, T, no, .inl ⟨ea, fun dx n ne => hq dx n ne⟩⟩
    · refine ⟨V.ref a, rfl, w1, rfl, f2, V.non, rfl, .inr ⟨rfl, _, rfl, f3, a, C, [V.str _], rfl, Nat.le_of_ble_eq_true rfl, T, ea, ?_⟩⟩
      exact ⟨V.non, rfl, V.ref a, rfl, a, C, rfl, T, no, .inl ⟨ea, fun dx n ne => hq dx n ne⟩⟩
  have len : ∀ vs H Q E, spI K w1 f vs H Q E → vs.length = [n1, f].length := fun vs H Q E ⟨a, C, i, e, _⟩ => by rw [e]; rfl
  rcases F with F | F
  · exact F.okX S len fun cdv A outer s H vs Q E hr h => run cdv A outer s H vs Q E h
  · exact F.ok S len fun cdv A outer s H vs Q E hr h => run cdv A outer s H vs Q E h

/-- as it is caught and asked -/
structure Xc (K : PySem.W.Frag) (mg : Str → Option Value) (x : Str) where
  C : Addr
  a : PySem.W.nsIn K mainGlobals x = some (some (.ref C))
  g : mg x = some (.ref C)
  kp : PySem.W.keepIn K (.ref C) = true
  cl : (PySem.W.clsIn K C).isSome = true
  ga : PySem.W.findIn K (.ref C) "__getattribute__" = some (some (.builtin "BaseException.__getattribute__"))
  gt : PySem.W.findIn K (.ref C) "__getattr__" = some none
  ex : PySem.W.subIn K (.ref C) (.type "BaseException") = some true
  ty : PySem.W.typeIn K (.ref C) = some (.type "type")
  ck : PySem.W.findIn K (.ref C) "__class__" = some (some (.builtin "object.__class__"))
  cs : PySem.W.specialIn K (.builtin "object.__class__") "__get__" = some (some (.builtin "getset_descriptor.__get__"))
  ct : PySem.W.takesIn K (.builtin "object.__class__") = some true
  mo : PySem.W.mroIn K C (.type "object") = some true
  hd : PySem.W.hasDictIn K C = true
/-- .. with its own __init__(self, f), which stores f -/
structure Xi (K : PySem.W.Frag) (C : Addr) (n1 f qual : Str) (st : Stmt) where
  T : OexC K C
  fI : Addr
  fd : FuncData
  F : XiF K qual st fI fd
  iC : PySem.W.findIn K (.ref C) "__init__" = some (some (.ref fI))
  tI : PySem.W.typeIn K (.ref fI) = some (.type "function")
  b : Binds K fd [n1, f] []
  no : PySem.W.findIn K (.ref C) f = some none
/-- .. whose __init__ is ValueError's -/
structure Xp (K : PySem.W.Frag) (C : Addr) where
  bm : List Value
  q : PySem.W.excIn K C bm "ValueError.__new__" = true
  F : ExcBaseFacts "ValueError" "ValueError.__new__" "ValueError.__init__" bm
/-- .. that gives its __init__ on -/
structure Xb (K : PySem.W.Frag) (C : Addr) where
  mc : Value
  r : ClX.CRead K C mc
  k : PySem.W.findCls K (.ref C) mc "__init__" = some (.val (.builtin "ValueError.__init__"))

abbrev MX := DEnv → Hh → Res Exn
def PostX (G : Gm) (rho : Rm) (H : Hp) (r : Res Exn) (Q : XK) : Prop :=
  match r with
  | .ok x hh => ∀ rho' H' c d, Step rho H rho' H' → Rep G rho' hh H' → ExD G rho' H' x c d → Q c d H'
  | _ => False
def TDx (G : Gm) (m : MX) : L2.St → Hp → XK → Prop := fun σ H Q => ∃ rho env hh, Rep G rho hh H ∧ EnvD G rho H env σ ∧ PostX G rho H (m env hh) Q
structure DX (X : Cx) (e : Expr) (m : MX) : Prop where
  run : ∀ W, Takes X W → PMk X e (TDx (Cx.gm X) m)
theorem pmk_weak {X : Cx} {e : Expr} {t t' : L2.St → Hp → XK → Prop} (h : PMk X e t) (i : ∀ σ H Q, t' σ H Q → t σ H Q) : PMk X e t' := fun pins s σ H Q I q => h pins s σ H Q I (i σ H Q q)
/-- C(e): the field is a number or None -/
def mkI (x f w1 : Str) (m : ME) : MX := fun env h => match m env h with
  | .ok (.int i) h1 => if i.natAbs.log2 < 1920 ∧ (Str.empty ++ w1).length ≤ sizeLine ∧ (Str.empty ++ w1 ++ (toString i : Str)).length ≤ sizeLine then .ok ⟨x, some (f, .int i)⟩ h1 else .stuck
  | .ok .non h1 => if (Str.empty ++ w1).length ≤ sizeLine ∧ (Str.empty ++ w1 ++ ("None" : Str)).length ≤ sizeLine then .ok ⟨x, some (f, .non)⟩ h1 else .stuck
  | _ => .stuck
section
variable {X : Cx} {e : Expr} {m : ME} {x f w1 : Str} {p pos : Pos}
theorem dx_mkI {qual n1 : Str} {st : Stmt} {k : Nat} (T : Xc X.K X.mg x) (U : Xi X.K T.C n1 f qual st) (Fn : FnOk X.prog X.w X.K X.mg X.base (L2.CX X.prog X.w) k U.fI U.fd [n1, f] (spI X.K w1 f)) (hr : Room (k + 1) X.A) (hg : Gl X x) (he : DE X e m)
    (hdb : (x == ("__debug__" : Str)) = false := by decide) (hs : starEach [e] X.env = (false, eval e X.env) :: starEach [] X.env := by rfl) :
    DX X (.Call (.Name x p) [e] [] pos) (mkI x f w1 m) := by
  refine ⟨fun W tk => pmk_weak (pmk_oex (ds := []) (dvs := []) U.T U.iC U.tI Fn hr U.b .nil passL hg T.g (pa_cons (he.run W tk) pa_nil hs) hdb hs) fun σ H Q h => ?_⟩
  obtain ⟨rho, env, hh, R, E, p⟩ := h
  unfold mkI at p
  refine ⟨rho, env, hh, R, E, ?_⟩
  obtain ⟨y, v, h1, em, pl, fv, un, p⟩ : ∃ (y : D) (v : V) (h1 : Hh), m env hh = .ok y h1 ∧ PlD y v ∧ ((∃ i : Int, v = .int i ∧ fits1 w1 i) ∨ (v = .non ∧ fitsN w1)) ∧ (∀ rho1 H1 v', Den (Cx.gm X) rho1 H1 y v' → v' = v) ∧ PostX (Cx.gm X) rho H (.ok ⟨x, some (f, y)⟩ h1) Q := by
    split at p
    · rename_i i h1 em
      split at p
      · rename_i hc
        exact ⟨.int i, .int i, h1, em, .inr ⟨i, rfl, rfl⟩, .inl ⟨i, rfl, hc⟩, fun _ _ _ q => q, p⟩
      · exact p.elim
    · rename_i h1 em
      split at p
      · rename_i hc
        exact ⟨.non, .non, h1, em, .inl ⟨rfl, rfl⟩, .inr ⟨rfl, hc⟩, fun _ _ _ q => q, p⟩
      · exact p.elim
    · exact p.elim
  rw [em]
  intro rho1 H1 v' S R1 q
  have q := un _ _ _ q
  subst q
  refine ⟨Nat.le_of_ble_eq_true rfl, fun a na => ⟨a, T.C, v', rfl, fv, U.T, U.no, upd_same, fun dx nd ne => ⟨rfl, dx, [(f, v')], upd_same, ?_, ?_, ?_⟩⟩⟩
  · rw [upd_ne ne, upd_same]
  · rw [upd_ne ne] at nd; exact nd
  · rw [upd_ne ne] at nd
    have eq : upd (del (upd (upd (upd H1 a (exo a T.C none)) dx (exd dx [(f, v')])) a (exo a T.C (some dx))) a) dx (.xd [(f, v')]) = upd H1 dx (.xd [(f, v')]) := by
      funext b
      by_cases hb : b = dx
      · subst hb; rw [upd_same, upd_same]
      · rw [upd_ne hb, upd_ne hb]
        by_cases ha : b = a
        · subst ha; rw [del_same, na]
        · rw [del_ne ha, upd_ne ha, upd_ne hb, upd_ne ha]
    rw [eq]
    have nat : dx ∉ rho1.at_ := fun hm => by
      obtain ⟨u, z, _⟩ := R1.mut hm
      rw [nd] at z; cases z
    have nres : dx ∉ rho1.res := fun hm => by
      obtain ⟨u, z⟩ := R1.hd dx hm
      rw [nd] at z; cases z
    exact p rho1 _ _ _ (S.trans (.laid nd)) (R1.laid nd) ⟨⟨T.C, T.a, rfl⟩, dx, v', rfl, upd_same, nat, nres, pl⟩
/-- C(e): no field -/
def mkP (x : Str) (m : ME) : MX := fun env h => match m env h with
  | .ok _ h1 => .ok ⟨x, none⟩ h1
  | _ => .stuck
/-- raise e -/
def sRaise (m : MX) : MS := fun env h => match m env h with
  | .ok x h1 => .er x env h1
  | _ => .stuck
theorem ds_raise {m : MX} (hc : X.calm = true) (he : DX X e m) : DS X (.Raise (some e) none pos) (sRaise m) :=
  ⟨fun W tk => ps_weak (ps_raise hc tk (he.run W tk)) fun D σ H ⟨rho, env, hh, R, E, p⟩ => ⟨rho, env, hh, R, E, by
    unfold sRaise at p
    split at p
    · rename_i x h1 em
      rw [em]
      exact fun rho' H' c d S R' q => p rho' H' σ c d S R' (E.step R S) q
    · exact p.elim⟩⟩
end

/-- C is c or stands above it -/
def subX (x c : Str) : Bool := decide (x = c) || (decide (c = "GuestError") || decide (c = "ValueError"))
def RS.calm : RS → RS
  | .er _ _ _ => .stuck
  | r => r
def sTry (cs : List Str) (c : Str) (b s : MS) : MS := fun env h => match b env h with
  | .er x env1 h1 => if x.cls ∈ cs then (if subX x.cls c = true then (s env1 h1).calm else .er x env1 h1) else .stuck
  | r => r
section
variable {X : Cx} {body suite : List Stmt} {b₀ : Stmt} {x c : Str} {np pos pos' : Pos} {mb ms : MS} {cs : List Str}
end
end MR

set_option maxHeartbeats 1000000
namespace MR
open PySem PySem.Spec PyProof.Rows L2
section
variable {X : Cx} {pins : List (Addr × Obj)} {σ : L2.St} {H : Hp} {s : Shared} {a : Addr} {oe : Obj} {vs : Array Value} {c : Value} {d : Option Addr}
/-- an exception that nobody knows is known from here on -/
theorem inv_note (I : Inv X pins σ H s) (he : s.heap.get? a = some oe) (hc : oe.cls = c) (hd : oe.dict = d) (hv : oe.data = .fields vs) (na : H a = none) (nL : a ≠ X.env.locals) (n0 : X.s_0.heap.get? a = none)
    (np : ∀ p ∈ X.pn ++ pins, p.1 ≠ a) : Inv X pins σ (upd H a (exAt a c d)) s where
  ok := I.ok
  os := I.os
  bare := I.bare
  base := {
    keep := I.base.keep
    slot := I.base.slot
    free := fun b o q n hx => by
      rw [upd_ne (fun z => by rw [z, n0] at q; cases q)]
      exact I.base.free b o q n hx
    there := I.base.there
    tups := fun b xs q => by
      have := I.base.tups b xs q
      rw [upd_ne (fun z => by rw [z, na] at this; cases this)]; exact this
    frzs := fun b o u q => by
      have := I.base.frzs b o u q
      rw [upd_ne (fun z => by rw [z, na] at this; cases this)]; exact this
    tbls := fun b ps q => by
      obtain ⟨more, this⟩ := I.base.tbls b ps q
      exact ⟨more, by rw [upd_ne (fun z => by rw [z, na] at this; cases this)]; exact this⟩ }
  loc := I.loc
  cell := I.cell
  free := by rw [upd_ne (Ne.symm nL)]; exact I.free
  freeC := fun x b e => by
    have : b ≠ a := fun z => by
      obtain ⟨v, o, h1, h2⟩ := I.cell x b e
      rw [z, he] at h1
      cases h1
      rw [hv] at h2; cases h2
    rw [upd_ne this]; exact I.freeC x b e
  pin := fun p hp => by
    obtain ⟨h1, h2, h3⟩ := I.pin p hp
    exact ⟨h1, by rw [upd_ne (np p hp)]; exact h2, h3⟩
  hok := fun b o q => by
    by_cases hb : b = a
    · subst hb
      rw [upd_same] at q
      cases q
      exact ⟨⟨oe, vs, he, hc, hd, hv⟩, ⟨oe, he⟩, fun h1 h2 ⟨o1, vs1, z1, z2, z3, z4⟩ k => ⟨o1, vs1, k _ z1, z2, z3, z4⟩⟩
    · rw [upd_ne hb] at q
      exact (I.hok b o q).stay (fun _ _ _ z => z) (fun b' z => by rw [upd_ne (fun y => by rw [y, na] at z; cases z)]; exact z) (fun b' xs z => by rw [upd_ne (fun y => by rw [y, na] at z; cases z)]; exact z)
  len := I.len
end
/-- what the clause 'except x as n: k = n' wishes of an exception of the body: slot i is n's, j is k's -/
def wNote (K : PySem.W.Frag) (c : Value) (i j : Nat) (Wout : WX) (D : Ends) : WX := fun cls d σ H =>
  ∃ b, PySem.W.exmOne K cls c = some b ∧ (b = true → ∀ a, H a = none → D.nx (((σ.set i (some (.ref a))).set j (some (.ref a))).set i none) (upd H a (exAt a cls d))) ∧ (b = false → Wout cls d σ H)
section
variable {X : Cx} {x n : Str} {c : Value} {i j : Nat} {body suite : List Stmt} {b₀ : Stmt} {np pos pos' : Pos} {tb : WX → TS} {Wout : WX}
theorem ps_try_note (hs : X.stack = X.env :: X.outer) (hf : X.env.frame = some X.env.locals) (hex : X.ex = []) (hN : X.N.Nodup) (hi : X.N[i]? = some n) (hln : X.env.kindOf n = some .local) (hc : Names X x c) (tk : Takes X Wout)
    (hb : ∀ (W : WX) (pn : List (Addr × Obj)) (xe : Value → Shared → Prop), Takes (X.tr pn xe) W → PassesOwn (model X.prog X.w) X.A X.env xe → PSs (X.tr pn xe) body (tb W))
    (hsu : ∀ (a : Addr) (pn : List (Addr × Obj)), PSs (X.suite a pn) (b₀ :: suite) (fun D σ H => ∃ v, σ[i]? = some (some v) ∧ D.nx (σ.set j (some v)) H)) :
    PS X (.Try body [.ExceptHandler (some (.Name x np)) (some n) (b₀ :: suite) pos'] [] [] pos) (fun D σ H => tb (wNote X.K c i j Wout D) D σ H) := by
  refine ⟨fun pins s σ H D I h => ?_⟩
  have ok := I.ok
  have hfr : X.A.frames = some (X.env :: X.outer) := by rw [ok.frames, hs]
  have hloc : Loc X.env.scope n := .inl hln
  refine wpAny_Try_except (wpAny_mono ((hb (wNote X.K c i j Wout D) (X.pn ++ pins) (fun e s₁ => wpAny (model X.prog X.w) X.A (noteFrame e X.env) (fun _ s₂ => wpAny (model X.prog X.w) X.A (setFlight e none) (fun _ s₃ =>
    wpAny (model X.prog X.w) X.A (handleBy e X.env [.ExceptHandler (some (.Name x np)) (some n) (b₀ :: suite) pos']) (SP X pins D) X.xe s₃) X.xe s₂) X.xe s₁) (fun u s' xx => ?_) PassesOwn.looking).run [] s σ H D (I.toTry _) h) (fun f s1 hsp => ?_) (fun e s1 he => he))
  · obtain ⟨a, B, sI, pins', σ', H', cls, d, rfl, J', nb, up, sky, na, os, ag, b, hb1, hyes, hno⟩ := xx
    have J : Inv X pins σ' H' sI := J'.ofTry ok
    have sky' : Sky B (X.env :: X.outer) a (Zc cls d) X.env.locals s'.heap := by rw [← hs]; exact sky
    show wpAny (model X.prog X.w) X.A (noteFrame (.ref a) X.env) _ _ _
    refine Sky.land Zc.steady hfr hf sky' fun h3 fl3 up3 => ?_
    have J3 : Inv X pins σ' H' { s' with heap := h3 } := J.landed nb fl3.1 (up.trans up3) os ag
    obtain ⟨oe3, vs3, he3, hz3, hd3⟩ := fl3.there
    have nfr : a ∉ frs (X.env :: X.outer) := fun hm => by
      obtain ⟨_, o', e', hnf⟩ := fl3.2.2.1.mem hm
      rw [he3] at e'; cases e'
      exact hnf _ hd3
    have nL : a ≠ X.env.locals := fun z => nfr (List.mem_filterMap.mpr ⟨X.env, List.mem_cons_self, by rw [hf, z]⟩)
    have nF : a ∉ X.fs := fun hm => by
      obtain ⟨e, he, q⟩ := List.mem_filterMap.mp hm
      exact nfr (List.mem_filterMap.mpr ⟨e, List.mem_cons_of_mem _ he, q⟩)
    -- what was there ahead of the exception is another thing
    have new : ∀ o, sI.heap.get? a ≠ some o := fun o q => by
      have z := nb a o q (by rw [hs]; exact nfr)
      rw [fl3.2.1] at z; cases z
    have n0 : X.s_0.heap.get? a = none := by
      cases q : X.s_0.heap.get? a with
      | none => rfl
      | some o =>
        obtain ⟨o', z⟩ := J.base.there a o q (by rw [hex]; exact List.not_mem_nil)
        exact absurd z (new o')
    have npin : ∀ p ∈ X.pn ++ pins, p.1 ≠ a := fun p hp z => new _ (z ▸ (J.pin p hp).1)
    have S3 := J3.suite he3 hd3 na nL nF
    refine wpAny_handleBy_cons (codeAny_handlers_test ?_) (by intro q; cases q)
    have LT : PySem.W.Looks (model X.prog X.w) h3 (typeOf (.ref a)) cls := fun A Q E s k q => wpAny_typeOf_ref (k _ _ he3) (by rw [hz3.1]; exact q)
    have LM := PySem.W.exm_one (M := model X.prog X.w) (J3.kIn) LT hb1
    have test : ∀ {Q : Value → Shared → Prop} {E : Value → Shared → Prop}, Q c { s' with heap := h3 } → wpAny (model X.prog X.w) (X.A.mark (some (.ref a))) (eval (.Name x np) X.env) Q E { s' with heap := h3 } := fun {Q E} q => by
      obtain ⟨hg, hdbg, hm | ⟨hm, hv, hnn⟩⟩ := hc
      · exact ld_glob (X := X.suite a ((a, oe3) :: (X.pn ++ pins))) S3 hg hm q hdbg
      · exact ld_blt (X := X.suite a ((a, oe3) :: (X.pn ++ pins))) S3 hg hm hv q hnn hdbg
    refine test (LM.here ?_)
    cases b with
    | true =>
      refine codeAny_handlers_suite_as (HandSPX.lands_againZ fl3 fun h4 fl4 up4 => ?_)
      have J4 : Inv X pins σ' H' { s' with heap := h4 } := J.landed nb fl4.1 ((up.trans up3).trans up4) os ag
      obtain ⟨oe4, vs4, he4, hz4, hd4⟩ := fl4.there
      have S4 := J4.suite he4 hd4 na nL nF
      refine store_ok (X := X.suite a ((a, oe4) :: (X.pn ++ pins))) (v := .ref a) S4 hN hi hloc rfl (fun s5 S5 => ?_) (.inr hln)
      have hi' : (σ'.set i (some (V.ref a)))[i]? = some (some (.ref a)) := by
        rw [List.getElem?_set_self (by rw [J.len]; exact (List.getElem?_eq_some_iff.mp hi).1)]
      refine wpAny_mono ((hsu a ((a, oe4) :: (X.pn ++ pins))).run [] s5 _ H' { nx := fun σ6 H6 => σ6 = (σ'.set i (some (.ref a))).set j (some (.ref a)) ∧ H6 = H', rt := fun _ _ => False, bk := fun _ _ => False, ct := fun _ _ => False } S5 ⟨_, hi', rfl, rfl⟩) (fun f s6 hsp => ?_) (fun _ _ z => False.elim z)
      cases f with
      | next =>
        obtain ⟨σ6, H6, S6, rfl, rfl⟩ := hsp
        have g6 : s6.heap.get? a = some oe4 := (S6.pin (a, oe4) (List.mem_append_left _ List.mem_cons_self)).1
        have J6 : Inv X pins _ H6 s6 := S6.unsuite ok
        exact gone_ok (inv_note J6 g6 hz4.1 hz4.2 hd4 na nL n0 npin) hN hi hln fun s7 J7 => ⟨_, _, J7, hyes rfl a na⟩
      | brk => obtain ⟨σ6, H6, S6, q6⟩ := hsp; exact q6.elim
      | cont => obtain ⟨σ6, H6, S6, q6⟩ := hsp; exact q6.elim
      | ret u => obtain ⟨v6, σ6, H6, S6, r6, q6⟩ := hsp; exact q6.elim
    | false =>
      show wpAny _ X.A (handleBy (.ref a) X.env []) _ _ _
      refine wpAny_handleBy_nil ?_
      obtain ⟨k1, k2, k3, oe, vs, T, oT, ts', he, hz, hd, h1, hr⟩ := id fl3
      unfold PySem.passOn
      refine wpAny_bind (wpAny_field he hd h1 ?_)
      rw [if_neg (show ¬ ((Value.ref T == Value.none) = true) from by simp)]
      have fin : wpAny (model X.prog X.w) X.A (setFlight (.ref a) X.env.frame) (fun _ s4 => wpAny (model X.prog X.w) X.A (throw (.ref a) : Sem Flow) (SP X pins D) X.xe s4) X.xe { s' with heap := h3 } := by
        rw [hf]
        refine HandSPX.setFlight_upZ fl3 fun h4 hh4 up4 => wpAny_throw (tk _ _ ?_)
        exact ⟨a, B, sI, pins, σ', H', cls, d, rfl, J, nb, (up.trans up3).trans up4, .inr (.inr (by rw [hs]; exact hh4)), na, os, ag, hno rfl⟩
      first
        | exact wpAny_bind (wpAny_pure (wpAny_bind fin))
        | exact wpAny_bind fin
  · cases f with
    | next => obtain ⟨σ', H', J', q⟩ := hsp; exact wpAny_execs_nil ⟨σ', H', J'.ofTry ok, q⟩
    | brk => obtain ⟨σ', H', J', q⟩ := hsp; exact ⟨σ', H', J'.ofTry ok, q⟩
    | cont => obtain ⟨σ', H', J', q⟩ := hsp; exact ⟨σ', H', J'.ofTry ok, q⟩
    | ret u => obtain ⟨v, σ', H', J', r, q⟩ := hsp; exact ⟨v, σ', H', J'.ofTry ok, r, q⟩
end
/-- try: .. except C as n: k = n; slot i is n's, j is k's -/
def sNote (cs : List Str) (c : Str) (i j : Nat) (b : MS) : MS := fun env h => match b env h with
  | .er x env1 h1 => if x.cls ∈ cs then (if subX x.cls c = true then .nx (((env1.set i (some (.ref h1.length))).set j (some (.ref h1.length))).set i none) (h1 ++ [.exc x]) else .er x env1 h1) else .stuck
  | r => r
section
variable {X : Cx} {body : List Stmt} {n k c : Str} {np np2 kp ap pos pos' : Pos} {mb : MS} {cs : List Str} {i j : Nat}
theorem ds_note {C : Addr} (hs : X.stack = X.env :: X.outer) (hf : X.env.frame = some X.env.locals) (hex : X.ex = []) (hN : X.N.Nodup) (hi : X.N[i]? = some n) (hj : X.N[j]? = some k) (hln : X.env.kindOf n = some .local) (hlk : X.env.scope.names.lookup k = some .local)
    (hg : Gl X c) (hm : X.mg c = some (.ref C)) (hcs : ∀ x ∈ cs, ∃ T : Xc X.K X.mg x, PySem.W.exmOne X.K (.ref T.C) (.ref C) = some (subX x c))
    (hb : ∀ (pn : List (Addr × Obj)) (xe : Value → Shared → Prop), PassesOwn (model X.prog X.w) X.A X.env xe → DSs (X.tr pn xe) body mb)
    (hst : ∀ (a : Addr) (pn : List (Addr × Obj)), PS (X.suite a pn) (.Assign [.Name k kp] (.Name n np2) ap) (tAsg (tVar i) (L2.gName j))) (hdb : (c == ("__debug__" : Str)) = false := by decide) :
    DS X (.Try body [.ExceptHandler (some (.Name c np)) (some n) [.Assign [.Name k kp] (.Name n np2) ap] pos'] [] [] pos) (sNote cs c i j mb) :=
  ⟨fun W tk => ps_weak (ps_try_note (tb := fun W' => TDs (Cx.gm X) W' mb) (j := j) hs hf hex hN hi hln ⟨hg, hdb, .inl hm⟩ tk (fun W' pn xe tk' pw => (hb pn xe pw).run W' tk') fun a pn => pss_one (ps_weak (hst a pn) fun D σ H ⟨v, e, q⟩ => ⟨v, e, q⟩)) fun D σ H ⟨rho, env, hh, R, E, p⟩ => ⟨rho, env, hh, R, E, by
    unfold sNote at p
    cases e : mb env hh with
    | er y env' h' =>
      rw [e] at p
      intro rho' H' σ' c' d S R' E' q
      by_cases hy : y.cls ∈ cs
      · dsimp only at p
        rw [if_pos hy] at p
        obtain ⟨T, ht⟩ := hcs y.cls hy
        obtain ⟨⟨C', nn, ec⟩, q2⟩ := id q
        rw [T.a] at nn
        cases nn
        subst ec
        refine ⟨subX y.cls c, ht, fun hb a na => ?_, fun hb => ?_⟩
        · rw [if_pos hb] at p
          have nat : a ∉ rho'.at_ := fun hm => by
            obtain ⟨u, z, _⟩ := R'.mut hm
            rw [na] at z; cases z
          have S2 : Step rho' H' (rho'.add a) (upd H' a (exAt a (.ref T.C) d)) := .laidN na
          have q' := q.step R' S2
          have R2 := R'.laidN (ob := .exc y) na ⟨.ref T.C, d, q', upd_same⟩
          have dn : Den (Cx.gm X) (rho'.add a) (upd H' a (exAt a (.ref T.C) d)) (.ref h'.length) (.ref a) := by
            rw [Den]
            refine ⟨a, ?_, rfl⟩
            show (rho'.at_ ++ [a])[h'.length]? = some a
            rw [← R'.len, List.getElem?_append_right (Nat.le_refl _), Nat.sub_self]; rfl
          exact p _ _ _ (S.trans S2) R2 ((((E'.step R' S2).set dn).set dn).setN)
        · rw [hb, if_neg (by decide)] at p
          exact p rho' H' σ' _ d S R' E' q
      · dsimp only at p
        rw [if_neg hy] at p
        exact p.elim
    | nx env' h' => rw [e] at p; exact p
    | rt d h' => rw [e] at p; exact p
    | bk env' h' => rw [e] at p; exact p
    | ct env' h' => rw [e] at p; exact p
    | stuck => rw [e] at p; exact p.elim⟩⟩
end
end MR

namespace MR
open PySem PySem.Spec PyProof.Rows L2

/-- e.f of a noted exception -/
def xfldO (f : Str) (cs : List Str) : D → Hh → Option D := fun d h => match d with
  | .ref i => match h[i]? with
    | some (.exc x) => if x.cls ∈ cs then (match x.fld with | some (g, y) => if g = f then some y else none | none => none) else none
    | _ => none
  | _ => none
def eXfld (f : Str) (cs : List Str) (m : ME) : ME := fun env h => (m env h).bind fun d h1 => lift (xfldO f cs d h1) h1
/-- isinstance of a noted exception, or of None -/
def xisO (cs ws : List Str) : D → Hh → Option D := fun d h => match d with
  | .ref i => match h[i]? with
    | some (.exc x) => if x.cls ∈ cs then some (.bl (ws.any (subX x.cls))) else none
    | _ => none
  | _ => none
def eXis (cs ws : List Str) (m : ME) : ME := fun env h => (m env h).bind fun d h1 => lift (xisO cs ws d h1) h1
theorem xc_at {G : Gm} {rho : Rm} {H : Hp} {hh : Hh} {mg : Str → Option Value} {x : Exn} (T : Xc G.K mg x.cls) (R : Rep G rho hh H) {i : Nat} {a : Addr} (ha : rho.at_[i]? = some a) (hi : hh[i]? = some (.exc x)) :
    ∃ d, H a = some (exAt a (.ref T.C) d) ∧ match x.fld with
      | none => d = none
      | some (f, y) => ∃ dd v, d = some dd ∧ H dd = some (.xd [(f, v)]) ∧ PlD y v := by
  obtain ⟨c, d, ⟨⟨C, n, rfl⟩, q⟩, e⟩ := R.ob i a _ ha hi
  rw [T.a] at n
  cases n
  refine ⟨d, e, ?_⟩
  cases hf : x.fld with
  | none => rw [hf] at q; exact q
  | some p =>
    obtain ⟨f, y⟩ := p
    rw [hf] at q
    obtain ⟨a, v, h1, h2, _, _, h3⟩ := q
    exact ⟨a, v, h1, h2, h3⟩
theorem PlD.den {G : Gm} {rho : Rm} {H : Hp} {y : D} {v : V} (h : PlD y v) : Den G rho H y v := by
  rcases h with ⟨rfl, rfl⟩ | ⟨i, rfl, rfl⟩
  · rfl
  · rfl
section
variable {X : Cx} {pins : List (Addr × Obj)} {σ : L2.St} {H : Hp} {s : Shared} {a C : Addr} {d : Option Addr}
/-- the object as it stands -/
theorem ex_inst (I : Inv X pins σ H s) (ea : H a = some (exAt a (.ref C) d)) : ∃ oe vs, s.heap.get? a = some oe ∧ oe.cls = .ref C ∧ oe.dict = d ∧ oe.data = .fields vs := by
  have x : ObjOk X.prog X.w H s.heap a (exAt a (.ref C) d) := I.hok a _ ea
  obtain ⟨⟨oe, vs, h⟩, _, _⟩ := x
  exact ⟨oe, vs, h⟩
theorem ex_instN (I : Inv X pins σ H s) (ea : H a = some (exAt a (.ref C) none)) : ∃ oe, PySem.W.InstAt s.heap a oe C none := by
  obtain ⟨oe, vs, h1, h2, h3, h4⟩ := ex_inst I ea
  exact ⟨oe, h1, h2, by unfold PySem.W.notCls; rw [h4] <;> rfl, by rw [h3]; trivial⟩
theorem ex_instS {dd : Addr} {fs : List (Str × V)} (I : Inv X pins σ H s) (ea : H a = some (exAt a (.ref C) (some dd))) (ed : H dd = some (.xd fs)) :
    ∃ (oe od : Obj) (mA : Str → Option Value), PySem.W.InstAt s.heap a oe C (some od) ∧ (∀ n, PySem.W.lookIn n od = some (mA n)) ∧ ∀ f, RelO (fs.lookup f) (mA f) := by
  obtain ⟨oe, vs, h1, h2, h3, h4⟩ := ex_inst I ea
  have hx : ObjOk X.prog X.w H s.heap dd (.xd fs) := I.hok dd _ ed
  obtain ⟨mA, hns, hr⟩ := hx
  obtain ⟨od, ho, hl⟩ := lookIn_ns hns
  exact ⟨oe, od, mA, ⟨h1, h2, by unfold PySem.W.notCls; rw [h4] <;> rfl, by rw [h3]; exact ho⟩, fun n => hl n, hr⟩
end
/-- what isinstance asks of the exception -/
def exKit (K : PySem.W.Frag) (mg : Str → Option Value) (H : Hp) (x : V) (C : Addr) : Prop := ∃ (y : Str) (a : Addr) (d : Option Addr) (T : Xc K mg y), T.C = C ∧ x = .ref a ∧ H a = some (exAt a (.ref C) d) ∧ (d = none ∨ ∃ dd fs, d = some dd ∧ H dd = some (.xd fs))
def rXis (K : PySem.W.Frag) (mg : Str → Option Value) : List V → Hp → VK → Prop := fun xs H Q => ∃ (x c : V) (u : Value) (C : Addr) (b : Bool), xs = [x, c] ∧ (∀ w, RelV c w → w = u) ∧ exKit K mg H x C ∧ PySem.W.kitOne K (.ref C) u = some b ∧ Q (.bl b) H
def rXisT (K : PySem.W.Frag) (mg : Str → Option Value) : List V → Hp → VK → Prop := fun xs H Q => ∃ (x : V) (tp : Addr) (cs : List V) (us : List Value) (C : Addr) (b : Bool), xs = [x, .ref tp] ∧ H tp = some (.tup cs) ∧ Paired (fun c u => ∀ w, RelV c w → w = u) cs us ∧ exKit K mg H x C ∧ PySem.W.kitAny K (.ref C) us = some b ∧ Q (.bl b) H
theorem vals_is : ∀ {cs : List V} {us ws : List Value}, Paired (fun (c : V) (u : Value) => ∀ w, RelV c w → w = u) cs us → Vals cs ws → ws = us
  | _, _, _, .nil, .nil => rfl
  | _, _, _, .cons h t, .cons r q => by rw [h _ r, vals_is t q]
section
variable {X : Cx}
theorem ex_kit {pins : List (Addr × Obj)} {σ : L2.St} {H : Hp} {s : Shared} {x : V} {u : Value} {C : Addr} (I : Inv X pins σ H s) (k : exKit X.K X.mg H x C) (r : RelV x u) : ∃ P : Heap → Prop, PySem.W.KitX X.K u (.ref C) P ∧ P s.heap ∧ u ≠ .builtin "__main__.__loader__#opaque" := by
  obtain ⟨y, a, d, T, rfl, rfl, ea, hd⟩ := k
  cases (show u = Value.ref a from r)
  rcases hd with rfl | ⟨dd, fs, rfl, ed⟩
  · obtain ⟨oe, J⟩ := ex_instN I ea
    exact ⟨_, PySem.W.kitx_exc T.cl T.ga T.gt T.ex T.ck T.cs T.ct T.mo, J, fun z => nomatch z⟩
  · obtain ⟨oe, od, mA, J, _⟩ := ex_instS I ea ed
    exact ⟨_, PySem.W.kitx_exc T.cl T.ga T.gt T.ex T.ck T.cs T.ct T.mo, J, fun z => nomatch z⟩
theorem call_Xis : CallR X (.builtin "isinstance") (rXis X.K X.mg) := by
  intro pins s σ H xs us Q I r h
  obtain ⟨x, c, u, C, b, rfl, k, ty, e, q⟩ := h
  obtain ⟨u1, u2, rfl, r1, r2⟩ := vals2 r
  have e2 := k _ r2
  subst e2
  obtain ⟨P, Z, p, hx⟩ := ex_kit I ty r1
  exact PySem.W.kia_one Z I.kIn p e hx fun tk => ⟨.bl b, H, I.tok tk, rfl, q⟩
theorem call_XisT : CallR X (.builtin "isinstance") (rXisT X.K X.mg) := by
  intro pins s σ H xs us Q I r h
  obtain ⟨x, tp, cs, ws, C, b, rfl, hT, k, ty, e, q⟩ := h
  obtain ⟨u1, u2, rfl, r1, r2⟩ := vals2 r
  cases (show u2 = Value.ref tp from r2)
  obtain ⟨P, Z, p, hx⟩ := ex_kit I ty r1
  obtain ⟨_, its, rv, o, h1, h2, n, h3⟩ := (show ObjOk X.prog X.w H s.heap tp (.tup cs) from I.hok tp _ hT)
  have e3 := vals_is k rv
  subst e3
  obtain ⟨oc, od, dt, sl⟩ := o
  simp only at h2 h3
  subst h2 h3
  exact PySem.W.kia_tup Z I.kIn p h1 e hx fun tk => ⟨.bl b, H, I.tok tk, rfl, q⟩
theorem xisO_some {cs ws : List Str} {d r : D} {h : Hh} (e : xisO cs ws d h = some r) : ∃ i x, d = .ref i ∧ h[i]? = some (.exc x) ∧ x.cls ∈ cs ∧ r = .bl (ws.any (subX x.cls)) := by
  unfold xisO at e
  split at e
  · rename_i i
    split at e
    · rename_i x hx
      split at e
      · rename_i hm
        cases e
        exact ⟨i, x, rfl, hx, hm, rfl⟩
      · cases e
    · cases e
  · cases e
theorem ex_kitOf {rho : Rm} {H : Hp} {hh : Hh} {x : Exn} (T : Xc X.K X.mg x.cls) (R : Rep (Cx.gm X) rho hh H) {i : Nat} {v : V} (q : Den (Cx.gm X) rho H (.ref i) v) (hi : hh[i]? = some (.exc x)) : exKit X.K X.mg H v T.C := by
  rw [Den] at q
  obtain ⟨a, ha, rfl⟩ := q
  obtain ⟨d, ea, hd⟩ := xc_at (mg := X.mg) (G := Cx.gm X) T R ha hi
  refine ⟨x.cls, a, d, T, rfl, rfl, ea, ?_⟩
  cases hf : x.fld with
  | none => rw [hf] at hd; exact .inl hd
  | some p =>
    obtain ⟨f, y⟩ := p
    rw [hf] at hd
    obtain ⟨dd, w, h1, h2, _⟩ := hd
    exact .inr ⟨dd, _, h1, h2⟩
/-- isinstance(e, c) -/
theorem de_xis {e ce : Expr} {m : ME} {cs : List Str} {c : Str} {cv : V} {cu : Value} {p pos : Pos} (hg : Gl X "isinstance") (hm : X.mg "isinstance" = none) (he : DE X e m) (hce : PE X ce (tC cv)) (rc : ∀ w, RelV cv w → w = cu)
    (hcs : ∀ x ∈ cs, ∃ T : Xc X.K X.mg x, PySem.W.kitOne X.K (.ref T.C) cu = some (subX x c)) (h1 : starEach [e, ce] X.env = (false, eval e X.env) :: starEach [ce] X.env := by rfl) (h2 : starEach [ce] X.env = (false, eval ce X.env) :: starEach [] X.env := by rfl)
    (hpl : (backTo pos (starEach [ce] X.env)).any (·.1) = false := by rfl) :
    DE X (.Call (.Name "isinstance" p) [e, ce] [] pos) (eXis cs [c] m) :=
  ⟨fun W tk => pe_weak (pe_callB call_Xis hg hm (by decide +kernel) (pa_cons (he.run W tk) (pa_cons hce pa_nil h2) h1) (by decide) (by decide) h1 hpl) fun σ H Q h => tE_of h fun rho env hh H1 d v R E q p => by
    cases o : xisO cs [c] d hh with
    | none => rw [o] at p; exact p.elim
    | some dd =>
      rw [o] at p
      obtain ⟨i, x, rfl, hi, hm, rfl⟩ := xisO_some o
      obtain ⟨T, hk⟩ := hcs _ hm
      refine ⟨v, cv, cu, T.C, _, rfl, rc, ex_kitOf T R q hi, hk, PostE.val (a := D.bl _) (b := V.bl _) (Rl := Den _) p R ?_⟩
      show V.bl _ = V.bl _
      simp⟩
/-- isinstance(e, (c1, c2, ..)) -/
theorem de_xisT {e : Expr} {ces : List Expr} {m : ME} {cs ws : List Str} {cvs : List V} {cus : List Value} {x1} {p tp pos : Pos} (hg : Gl X "isinstance") (hm : X.mg "isinstance" = none) (he : DE X e m) (hce : PA X ces (fun _ H Q => Q cvs H)) (hz : cvs.length ≤ 100) (rc : Paired (fun c u => ∀ w, RelV c w → w = u) cvs cus)
    (hcs : ∀ x ∈ cs, ∃ T : Xc X.K X.mg x, PySem.W.kitAny X.K (.ref T.C) cus = some (ws.any (subX x))) (h1 : starEach [e, .Tuple ces x1 tp] X.env = (false, eval e X.env) :: starEach [.Tuple ces x1 tp] X.env := by rfl)
    (h2 : starEach [.Tuple ces x1 tp] X.env = (false, eval (.Tuple ces x1 tp) X.env) :: starEach [] X.env := by rfl) (hpl : (backTo pos (starEach [.Tuple ces x1 tp] X.env)).any (·.1) = false := by rfl) :
    DE X (.Call (.Name "isinstance" p) [e, .Tuple ces x1 tp] [] pos) (eXis cs ws m) :=
  ⟨fun W tk => pe_weak (pe_callB call_XisT hg hm (by decide +kernel) (pa_cons (he.run W tk) (pa_cons (pe_tup hce) pa_nil h2) h1) (by decide) (by decide) h1 hpl) fun σ H Q h => tE_of h fun rho env hh H1 d v R E q p => by
    cases o : xisO cs ws d hh with
    | none => rw [o] at p; exact p.elim
    | some dd =>
      rw [o] at p
      obtain ⟨i, x, rfl, hi, hm, rfl⟩ := xisO_some o
      obtain ⟨T, hk⟩ := hcs _ hm
      refine ⟨by rw [sizeLine_eq]; omega, fun a na => ?_⟩
      have S := Step.laid (rho := rho) (o := HO.tup cvs) na
      have R' := R.laid (o := HO.tup cvs) na
      exact ⟨v, a, cvs, cus, T.C, _, rfl, upd_same, rc, ex_kitOf T R' (Den.step R S _ _ q) hi, hk, p rho _ _ S R' rfl⟩⟩
/-- e.f -/
def tXfld (K : PySem.W.Frag) (mg : Str → Option Value) (f : Str) (te : TE) : TE := fun σ H Q => te σ H fun v H1 => ∃ (x : Str) (a dd : Addr) (w : V) (T : Xc K mg x), v = .ref a ∧ H1 a = some (exAt a (.ref T.C) (some dd)) ∧ H1 dd = some (.xd [(f, w)]) ∧ PySem.W.findIn K (.ref T.C) f = some none ∧ Q w H1
theorem pe_xfld {e : Expr} {te : TE} {f : Str} {pos : Pos} (he : PE X e te) (hb : attributeBase e f X.env (eval e X.env) = eval e X.env := by rfl) : PE X (.Attribute e f pos) (tXfld X.K X.mg f te) := by
  refine ⟨fun pins s σ H Q I h => attr_of hb (thn (he.run pins s σ H _ I h) fun u s1 hh => ?_)⟩
  obtain ⟨v, H1, I1, rv, x, a, dd, w, T, rfl, ea, ed, hno, q⟩ := hh
  obtain rfl : u = Value.ref a := rv
  obtain ⟨oe, od, mA, J, hl, hr⟩ := ex_instS I1 ea ed
  obtain ⟨u, hu, ru⟩ := RelO.some_of (v := w) (o := mA f) (by have := hr f; simpa [List.lookup] using this)
  exact HandSPX.exc_get I1.kIn J T.ga T.gt T.ex (PySem.W.findObj_own T.hd hno rfl (by rw [hl, hu])) (handed_of ru) ⟨w, H1, I1.tok _, ru, q⟩
theorem xfldO_some {f : Str} {cs : List Str} {d r : D} {h : Hh} (e : xfldO f cs d h = some r) : ∃ i x, d = .ref i ∧ h[i]? = some (.exc x) ∧ x.cls ∈ cs ∧ x.fld = some (f, r) := by
  unfold xfldO at e
  split at e
  · rename_i i
    split at e
    · rename_i x hx
      split at e
      · rename_i hm
        split at e
        · rename_i g y hf
          split at e
          · rename_i hg
            subst hg
            cases e
            exact ⟨i, x, rfl, hx, hm, hf⟩
          · cases e
        · cases e
      · cases e
    · cases e
  · cases e
theorem de_xfld {e : Expr} {m : ME} {f : Str} {cs : List Str} {pos : Pos} (he : DE X e m) (hcs : ∀ x ∈ cs, ∃ T : Xc X.K X.mg x, PySem.W.findIn X.K (.ref T.C) f = some none) (hb : attributeBase e f X.env (eval e X.env) = eval e X.env := by rfl) : DE X (.Attribute e f pos) (eXfld f cs m) :=
  ⟨fun W tk => pe_weak (pe_xfld (he.run W tk) hb) fun σ H Q h => tE_of h fun rho env hh H1 d v R E q p => by
    cases o : xfldO f cs d hh with
    | none => rw [o] at p; exact p.elim
    | some dd =>
      rw [o] at p
      obtain ⟨i, x, rfl, hi, hm, hf⟩ := xfldO_some o
      obtain ⟨T, hno⟩ := hcs _ hm
      rw [Den] at q
      obtain ⟨a, ha, rfl⟩ := q
      obtain ⟨d, ea, hd⟩ := xc_at (mg := X.mg) (G := Cx.gm X) T R ha hi
      rw [hf] at hd
      obtain ⟨ad, w, rfl, ed, pl⟩ := hd
      exact ⟨x.cls, a, ad, w, T, rfl, ea, ed, hno, PostE.val (a := dd) (b := w) (Rl := Den _) p R pl.den⟩⟩
end
end MR

namespace MR
open PySem PySem.Spec PyProof.Rows L2
section
variable {K : PySem.W.Frag} {mg : Str → Option Value} {h : Heap}
def mkXc (X : K.In h) (G : h.Ns mainGlobals mg) {x : Str} {C : Addr} (a : PySem.W.nsIn K mainGlobals x = some (some (.ref C))) (kp : PySem.W.keepIn K (.ref C) = true) (cl : PySem.W.isClsIn K C = true)
    (ga : PySem.W.findIn K (.ref C) "__getattribute__" = some (some (.builtin "BaseException.__getattribute__"))) (gt : PySem.W.findIn K (.ref C) "__getattr__" = some none) (ex : PySem.W.subIn K (.ref C) (.type "BaseException") = some true)
    (ty : PySem.W.typeIn K (.ref C) = some (.type "type")) (ck : PySem.W.findIn K (.ref C) "__class__" = some (some (.builtin "object.__class__"))) (cs : PySem.W.specialIn K (.builtin "object.__class__") "__get__" = some (some (.builtin "getset_descriptor.__get__")))
    (ct : PySem.W.takesIn K (.builtin "object.__class__") = some true) (mo : PySem.W.mroIn K C (.type "object") = some true) (hd : PySem.W.hasDictIn K C = true) : Xc K mg x :=
  ⟨C, a, PySem.W.mg_of X G a, kp, cl, ga, gt, ex, ty, ck, cs, ct, mo, hd⟩
def mkXi (X : K.In h) {C : Addr} {n1 f qual : Str} {st : Stmt} {fI : Addr} {oc : Value} {od an : Option Addr} {osl : Array (Option Value)} {kV doc pm cdv ct : Value} {nm q : Str} {N : Addr} {bs bm : List Value} {sn : List Str} {sub : List Value} {ab : Bool} {col dd k0 k1 k2 k3 k5}
    (cls : K.lookup C = some (excClassObj nm q C N bs bm true sn sub ab col dd k0 k1 k2 k3 k5 "ValueError.__new__")) (rv : PySem.HandSPX.refsVE bm = true) (sa : PySem.W.findIn K (.ref C) "__setattr__" = some (some (.builtin "object.__setattr__")))
    (ex : PySem.W.subIn K (.ref C) (.type "BaseException") = some true) (ty : PySem.W.typeIn K (.ref C) = some (.type "type")) (kp : PySem.W.keepIn K (.ref C) = true)
    (iC : PySem.W.findIn K (.ref C) "__init__" = some (some (.ref fI))) (l : K.lookup fI = some ⟨oc, od, .func (PySem.W.fnOf "__init__" qual (defArgs st) (defBody st) (defScope st) .none kV doc pm an cdv ct), osl⟩) (c : PySem.W.codeIn K cdv qual = true) (kf : PySem.W.keepIn K (.ref fI) = true)
    (tI : PySem.W.typeIn K (.ref fI) = some (.type "function")) (no : PySem.W.findIn K (.ref C) f = some none)
    (hb : ∀ (kV doc pm : Value) (an : Option Addr) (cdv ct : Value) (us : List Value), us.length = 2 → bindArgs (PySem.W.fnOf "__init__" qual (defArgs st) (defBody st) (defScope st) .none kV doc pm an cdv ct) ⟨us, []⟩ = pure ([n1, f].zip us)) : Xi K C n1 f qual st :=
  ⟨⟨⟨nm, q, N, bs, bm, sn, sub, ab, col, dd, k0, k1, k2, k3, k5, cls, rv⟩, sa, ex, ty, kp⟩, fI, _, .inl (fun_mk l c kf), iC, tI, (fun_mk l c kf).binds hb, no⟩
theorem fund_mk {qual : Str} {st : Stmt} {fI Td : Addr} {oc oc' : Value} {od an : Option Addr} {osl osl' : Array (Option Value)} {od' : Option Addr} {m : Nat} {kV doc pm cdv ct : Value}
    (l : K.lookup fI = some ⟨oc, od, .func (PySem.W.fnOf "__init__" qual (defArgs st) (defBody st) (defScope st) (.ref Td) kV doc pm an cdv ct), osl⟩) (lT : K.lookup Td = some ⟨oc', od', .seq #[.none] m, osl'⟩) (c : PySem.W.codeIn K cdv qual = true) (kf : PySem.W.keepIn K (.ref fI) = true) :
    FunD K "__init__" qual (defArgs st) (defBody st) (defScope st) [.non] [] fI (PySem.W.fnOf "__init__" qual (defArgs st) (defBody st) (defScope st) (.ref Td) kV doc pm an cdv ct) :=
  ⟨⟨oc, od, .ref Td, kV, doc, pm, an, cdv, ct, osl, rfl, l, c, .inr ⟨(by decide), Td, _, [.none], m, rfl, lT, rfl, .cons rfl .nil⟩, .inl rfl⟩, kf⟩
/-- an exception whose field has None for its default -/
def mkXiD (X : K.In h) {C : Addr} {n1 f qual : Str} {st : Stmt} {fI Td : Addr} {oc oc' : Value} {od an : Option Addr} {osl osl' : Array (Option Value)} {od' : Option Addr} {m : Nat} {kV doc pm cdv ct : Value} {nm q : Str} {N : Addr} {bs bm : List Value} {sn : List Str} {sub : List Value} {ab : Bool} {col dd k0 k1 k2 k3 k5}
    (cls : K.lookup C = some (excClassObj nm q C N bs bm true sn sub ab col dd k0 k1 k2 k3 k5 "ValueError.__new__")) (rv : PySem.HandSPX.refsVE bm = true) (sa : PySem.W.findIn K (.ref C) "__setattr__" = some (some (.builtin "object.__setattr__")))
    (ex : PySem.W.subIn K (.ref C) (.type "BaseException") = some true) (ty : PySem.W.typeIn K (.ref C) = some (.type "type")) (kp : PySem.W.keepIn K (.ref C) = true)
    (iC : PySem.W.findIn K (.ref C) "__init__" = some (some (.ref fI))) (l : K.lookup fI = some ⟨oc, od, .func (PySem.W.fnOf "__init__" qual (defArgs st) (defBody st) (defScope st) (.ref Td) kV doc pm an cdv ct), osl⟩) (lT : K.lookup Td = some ⟨oc', od', .seq #[.none] m, osl'⟩) (c : PySem.W.codeIn K cdv qual = true) (kf : PySem.W.keepIn K (.ref fI) = true)
    (tI : PySem.W.typeIn K (.ref fI) = some (.type "function")) (no : PySem.W.findIn K (.ref C) f = some none)
    (hb : ∀ (T : Addr) (kV doc pm : Value) (an : Option Addr) (cdv ct : Value) (us its : List Value), us.length = 2 → its.length = 1 →
      ∃ k, bindArgs (PySem.W.fnOf "__init__" qual (defArgs st) (defBody st) (defScope st) (.ref T) kV doc pm an cdv ct) ⟨us, []⟩ = seqItems? (.ref T) >>= k ∧ k (some its.toArray) = pure ([n1, f].zip (us ++ its.drop 1))) : Xi K C n1 f qual st :=
  ⟨⟨⟨nm, q, N, bs, bm, sn, sub, ab, col, dd, k0, k1, k2, k3, k5, cls, rv⟩, sa, ex, ty, kp⟩, fI, _, .inr (fund_mk l lT c kf), iC, tI, (by
    obtain ⟨ds, hv, b⟩ := (fund_mk l lT c kf).binds1 (ps := [n1, f]) 2 1 (by decide) rfl hb
    cases hv
    exact b), no⟩
def mkXp (X : K.In h) {C : Addr} (q : PySem.W.excIn K C [.type "ValueError", .type "Exception", .type "BaseException", .type "object"] "ValueError.__new__" = true) : Xp K C := ⟨_, q, F.excBase_ValueError⟩
def mkXb (X : K.In h) {C : Addr} (rd : PySem.W.readsIn K C (.type "type") = true) (ga : PySem.W.specialIn K (.ref C) "__getattribute__" = some (some (.builtin "type.__getattribute__"))) (k : PySem.W.findCls K (.ref C) (.type "type") "__init__" = some (.val (.builtin "ValueError.__init__"))) : Xb K C :=
  ⟨.type "type", ⟨rd, ga⟩, k⟩
theorem mkSub (X : K.In h) {a b : Value} {r : Bool} (e : PySem.W.subIn K a b = some r) : PySem.W.subIn K a b = some r := e
end
section
variable {K : PySem.W.Frag} {mg : Str → Option Value} {x c : Str}
theorem exm_of (B : Xc K mg c) {t : Value} {b : Bool} (h : PySem.W.subIn K t (.ref B.C) = some b) : PySem.W.exmOne K t (.ref B.C) = some b := PySem.W.exm_ref B.ex B.hd B.ty h
theorem kit_ref (B : Xc K mg c) {t : Value} {b : Bool} (h : PySem.W.subIn K t (.ref B.C) = some b) (he : t = .ref B.C → b = true) : PySem.W.kitOne K t (.ref B.C) = some b := by
  unfold PySem.W.kitOne
  by_cases e : (t == Value.ref B.C) = true
  · rw [if_pos e, he (beq_iff_eq.mp e)]
  · rw [if_neg e]
    unfold PySem.W.kitCls
    have e2 : ((PySem.W.clsIn K B.C).isSome && PySem.W.typeIn K (.ref B.C) == some (.type "type")) = true := by rw [B.cl, B.ty] <;> rfl
    dsimp only
    rw [if_pos e2, h]
theorem kit_ve {A : Addr} {b : Bool} (h : PySem.W.subIn K (.ref A) (.type "ValueError") = some b) : PySem.W.kitOne K (.ref A) (.type "ValueError") = some b := by
  unfold PySem.W.kitOne
  rw [if_neg (by intro z; cases (beq_iff_eq.mp z))]
  unfold PySem.W.kitCls
  dsimp only
  rw [if_pos (by decide +kernel), h]
theorem kitAny_of {t : Value} {x : Str} : ∀ {ws : List Str} {us : List Value}, Paired (fun c u => PySem.W.kitOne K t u = some (subX x c)) ws us → PySem.W.kitAny K t us = some (ws.any (subX x))
  | _, _, .nil => rfl
  | _, _, .cons (a := c) (l₁ := ws) h r => kitAny_cons h (fun hb => by rw [kitAny_of r, List.any_cons, hb, Bool.false_or]) fun hb => by rw [List.any_cons, hb, Bool.true_or]
end
end MR

namespace MR
open PySem PySem.Spec PyProof.Rows L2
def k_note (cs : List Str) (c : Str) (i j : Nat) : RS → RS := fun r => match r with
  | .er x env1 h1 => if x.cls ∈ cs then (if subX x.cls c = true then .nx (((env1.set i (some (.ref h1.length))).set j (some (.ref h1.length))).set i none) (h1 ++ [.exc x]) else .er x env1 h1) else .stuck
  | r => r
@[simp] theorem ev_note (cs : List Str) (c : Str) (i j : Nat) (b : MS) (env : DEnv) (h : Hh) : sNote cs c i j b env h = k_note cs c i j (b env h) := rfl
@[simp] theorem ev_note_er (cs : List Str) (c : Str) (i j : Nat) (x : Exn) (env : DEnv) (h : Hh) : k_note cs c i j (.er x env h) = if x.cls ∈ cs then (if subX x.cls c = true then .nx (((env.set i (some (.ref h.length))).set j (some (.ref h.length))).set i none) (h ++ [.exc x]) else .er x env h) else .stuck := rfl
@[simp] theorem ev_note_nx (cs : List Str) (c : Str) (i j : Nat) (env : DEnv) (h : Hh) : k_note cs c i j (.nx env h) = .nx env h := rfl
@[simp] theorem ev_note_rt (cs : List Str) (c : Str) (i j : Nat) (d : D) (h : Hh) : k_note cs c i j (.rt d h) = .rt d h := rfl
def k_try (cs : List Str) (c : Str) (s : MS) : RS → RS := fun r => match r with
  | .er x env1 h1 => if x.cls ∈ cs then (if subX x.cls c = true then (s env1 h1).calm else .er x env1 h1) else .stuck
  | r => r
@[simp] theorem ev_try (cs : List Str) (c : Str) (b s : MS) (env : DEnv) (h : Hh) : sTry cs c b s env h = k_try cs c s (b env h) := rfl
@[simp] theorem ev_try_er (cs : List Str) (c : Str) (s : MS) (x : Exn) (env : DEnv) (h : Hh) : k_try cs c s (.er x env h) = if x.cls ∈ cs then (if subX x.cls c = true then (s env h).calm else .er x env h) else .stuck := rfl
@[simp] theorem ev_try_nx (cs : List Str) (c : Str) (s : MS) (env : DEnv) (h : Hh) : k_try cs c s (.nx env h) = .nx env h := rfl
@[simp] theorem ev_try_rt (cs : List Str) (c : Str) (s : MS) (d : D) (h : Hh) : k_try cs c s (.rt d h) = .rt d h := rfl
@[simp] theorem ev_calm_nx (env : DEnv) (h : Hh) : (RS.nx env h).calm = .nx env h := rfl
@[simp] theorem ev_calm_rt (d : D) (h : Hh) : (RS.rt d h).calm = .rt d h := rfl
def k_xis (cs ws : List Str) : D → Hh → Res D := fun d h1 => lift (xisO cs ws d h1) h1
@[simp] theorem ev_xis (cs ws : List Str) (m : ME) (env : DEnv) (h : Hh) : eXis cs ws m env h = (m env h).bind (k_xis cs ws) := rfl
@[simp] theorem ev_k_xis (cs ws : List Str) (d : D) (h : Hh) : k_xis cs ws d h = lift (xisO cs ws d h) h := rfl
def refXis (cs ws : List Str) (o : Option O) : Option D := match o with
  | some (.exc x) => if x.cls ∈ cs then some (.bl (ws.any (subX x.cls))) else none
  | _ => none
@[simp] theorem ev_xisO (cs ws : List Str) (i : Nat) (h : Hh) : xisO cs ws (.ref i) h = refXis cs ws h[i]? := rfl
@[simp] theorem ev_refXis (cs ws : List Str) (x : Exn) : refXis cs ws (some (.exc x)) = if x.cls ∈ cs then some (.bl (ws.any (subX x.cls))) else none := rfl
def k_xfld (f : Str) (cs : List Str) : D → Hh → Res D := fun d h1 => lift (xfldO f cs d h1) h1
@[simp] theorem ev_xfld (f : Str) (cs : List Str) (m : ME) (env : DEnv) (h : Hh) : eXfld f cs m env h = (m env h).bind (k_xfld f cs) := rfl
@[simp] theorem ev_k_xfld (f : Str) (cs : List Str) (d : D) (h : Hh) : k_xfld f cs d h = lift (xfldO f cs d h) h := rfl
def refXfld (f : Str) (cs : List Str) (o : Option O) : Option D := match o with
  | some (.exc x) => if x.cls ∈ cs then (match x.fld with | some (g, y) => if g = f then some y else none | none => none) else none
  | _ => none
@[simp] theorem ev_xfldO (f : Str) (cs : List Str) (i : Nat) (h : Hh) : xfldO f cs (.ref i) h = refXfld f cs h[i]? := rfl
@[simp] theorem ev_refXfld (f : Str) (cs : List Str) (c g : Str) (y : D) : refXfld f cs (some (.exc ⟨c, some (g, y)⟩)) = if c ∈ cs then (if g = f then some y else none) else none := rfl
def k_mkI (x f w1 : Str) : Res D → Res Exn := fun r => match r with
  | .ok (.int i) h1 => if i.natAbs.log2 < 1920 ∧ (Str.empty ++ w1).length ≤ sizeLine ∧ (Str.empty ++ w1 ++ (toString i : Str)).length ≤ sizeLine then .ok ⟨x, some (f, .int i)⟩ h1 else .stuck
  | .ok .non h1 => if (Str.empty ++ w1).length ≤ sizeLine ∧ (Str.empty ++ w1 ++ ("None" : Str)).length ≤ sizeLine then .ok ⟨x, some (f, .non)⟩ h1 else .stuck
  | _ => .stuck
def k_raise (env : DEnv) : Res Exn → RS := fun r => match r with
  | .ok x h1 => .er x env h1
  | _ => .stuck
@[simp] theorem ev_raise (m : MX) (env : DEnv) (h : Hh) : sRaise m env h = k_raise env (m env h) := rfl
@[simp] theorem ev_k_raise (env : DEnv) (x : Exn) (h : Hh) : k_raise env (.ok x h) = .er x env h := rfl
@[simp] theorem ev_mkI (x f w1 : Str) (m : ME) (env : DEnv) (h : Hh) : mkI x f w1 m env h = k_mkI x f w1 (m env h) := rfl
theorem ev_k_mkIN (x f w1 : Str) (h : Hh) (hc : fitsN w1) : k_mkI x f w1 (.ok .non h) = .ok ⟨x, some (f, .non)⟩ h := if_pos hc
def k_mkP (x : Str) : Res D → Res Exn := fun r => match r with
  | .ok _ h1 => .ok ⟨x, none⟩ h1
  | _ => .stuck
@[simp] theorem ev_mkP (x : Str) (m : ME) (env : DEnv) (h : Hh) : mkP x m env h = k_mkP x (m env h) := rfl
@[simp] theorem ev_k_mkP (x : Str) (d : D) (h : Hh) : k_mkP x (.ok d h) = .ok ⟨x, none⟩ h := rfl
@[simp] theorem ev_outR_er (x : Exn) (env : DEnv) (h : Hh) : outR (.er x env h) = .err x h := rfl
@[simp] theorem subX_self (x : Str) : subX x x = true := by unfold subX; simp
@[simp] theorem subX_ge (x : Str) : subX x "GuestError" = true := by unfold subX; simp
@[simp] theorem subX_ve (x : Str) : subX x "ValueError" = true := by unfold subX; simp
@[simp] theorem subX_NoDeed_NoText : subX "NoDeed" "NoText" = false := by decide +kernel
@[simp] theorem subX_NoDeed_TooMany : subX "NoDeed" "TooMany" = false := by decide +kernel
@[simp] theorem subX_NoDeed_NoLine : subX "NoDeed" "NoLine" = false := by decide +kernel
@[simp] theorem subX_NoText_NoDeed : subX "NoText" "NoDeed" = false := by decide +kernel
@[simp] theorem subX_NoText_TooMany : subX "NoText" "TooMany" = false := by decide +kernel
@[simp] theorem subX_NoText_NoLine : subX "NoText" "NoLine" = false := by decide +kernel
@[simp] theorem subX_TooMany_NoDeed : subX "TooMany" "NoDeed" = false := by decide +kernel
@[simp] theorem subX_TooMany_NoText : subX "TooMany" "NoText" = false := by decide +kernel
@[simp] theorem subX_TooMany_NoLine : subX "TooMany" "NoLine" = false := by decide +kernel
@[simp] theorem subX_NoLine_NoDeed : subX "NoLine" "NoDeed" = false := by decide +kernel
@[simp] theorem subX_NoLine_NoText : subX "NoLine" "NoText" = false := by decide +kernel
@[simp] theorem subX_NoLine_TooMany : subX "NoLine" "TooMany" = false := by decide +kernel
end MR

namespace MR
open PySem PySem.Spec PyProof.Rows L2
def sPar3 (i j l : Nat) (ms : MA) : MS := fun env h => (ms env h).st env fun ds h1 => match ds with
  | [d1, d2, d3] => .nx (((env.set i (some d1)).set j (some d2)).set l (some d3)) h1
  | _ => .stuck
section
variable {X : Cx} {pos : Pos}
end
end MR

namespace MR
open PySem PySem.Spec PyProof.Rows L2
mutual
/-- a key, as it stands -/
def NkV (K : PySem.W.Frag) (H : Hp) : NestedKey → V → Prop
  | .none, v => v = .non
  | .num i, v => v = .int i ∨ ∃ b : Bool, v = .bl b ∧ i = if b = true then 1 else 0
  | .text x, v => v = .str x
  | .tup ks, v => ∃ a vs, v = .ref a ∧ SqTS K H a vs ∧ NkVs K H ks vs
def NkVs (K : PySem.W.Frag) (H : Hp) : List NestedKey → List V → Prop
  | [], vs => vs = []
  | k :: ks, vs => ∃ v r, vs = v :: r ∧ NkV K H k v ∧ NkVs K H ks r
end
mutual
theorem nkv_of {G : Gm} {rho : Rm} {H : Hp} : ∀ (d : D) (v : V) (k : NestedKey), Den G rho H d v → nk d = some k → NkV G.K H k v
  | .non, v, k, q, e => by rw [nk] at e; cases e; exact q
  | .bl b, v, k, q, e => by
    rw [nk] at e
    cases e
    rw [NkV]
    exact .inr ⟨b, q, rfl⟩
  | .int i, v, k, q, e => by
    rw [nk] at e
    cases e
    rw [NkV]
    exact .inl q
  | .str x, v, k, q, e => by rw [nk] at e; cases e; exact q
  | .tup ds, v, k, q, e => by
    rw [nk] at e
    obtain ⟨ks, e1, rfl⟩ := Option.map_eq_some_iff.mp e
    rw [Den] at q
    obtain ⟨a, vs, e2, q1, l, q2⟩ := q
    rw [NkV]
    exact ⟨a, vs, e2, q1, nkvs_of ds vs ks q2 e1⟩
  | .wtp _, v, k, q, e => by rw [nk] at e; cases e
  | .lst _, v, k, q, e => by rw [nk] at e; cases e
  | .ref _, v, k, q, e => by rw [nk] at e; cases e
  | .glb _, v, k, q, e => by rw [nk] at e; cases e
  | .scr _, v, k, q, e => by rw [nk] at e; cases e
  | .dct _ _, v, k, q, e => by rw [nk] at e; cases e
theorem nkvs_of {G : Gm} {rho : Rm} {H : Hp} : ∀ (ds : List D) (vs : List V) (ks : List NestedKey), Dens G rho H ds vs → nks ds = some ks → NkVs G.K H ks vs
  | [], vs, ks, q, e => by rw [nks] at e; cases e; exact q
  | d :: ds, vs, ks, q, e => by
    rw [nks] at e
    rw [Dens] at q
    obtain ⟨v, r, rfl, q1, q2⟩ := q
    cases e1 : nk d with
    | none => rw [e1] at e; cases e
    | some k =>
      cases e2 : nks ds with
      | none => rw [e1, e2] at e; cases e
      | some ks' =>
        rw [e1, e2] at e
        cases e
        rw [NkVs]
        exact ⟨v, r, rfl, nkv_of d v k q1 e1, nkvs_of ds r ks' q2 e2⟩
end
section
variable {X : Cx} {pins : List (Addr × Obj)} {σ : L2.St} {H : Hp} {s : Shared}
mutual
theorem nkv_is (I : Inv X pins σ H s) : ∀ (k : NestedKey) (v : V) (u : Value), NkV X.K H k v → RelV v u → NestedIs s.heap k u
  | .none, v, u, q, r => by
    rw [NkV] at q
    subst q
    cases (show u = Value.none from r)
    exact .none
  | .num i, v, u, q, r => by
    rw [NkV] at q
    rcases q with rfl | ⟨b, rfl, e⟩
    · obtain ⟨t, rfl⟩ := (show ∃ t, u = Value.int i t from r)
      exact .int i t
    · cases (show u = Value.bool b from r)
      exact .bool e
  | .text x, v, u, q, r => by
    rw [NkV] at q
    subst q
    obtain ⟨t, rfl⟩ := (show ∃ t, u = Value.str x t from r)
    exact .text x t
  | .tup ks, v, u, q, r => by
    rw [NkV] at q
    obtain ⟨a, vs, rfl, sq, q2⟩ := q
    cases (show u = Value.ref a from r)
    obtain ⟨its, rv, ⟨o, ho, hc, n, hd⟩, _⟩ := I.tuple sq.t
    exact .tup ho hc hd (by
      have : its.toArray.toList = its := by simp
      rw [this]
      exact nkvs_is I ks vs its q2 rv)
theorem nkvs_is (I : Inv X pins σ H s) : ∀ (ks : List NestedKey) (vs : List V) (us : List Value), NkVs X.K H ks vs → Vals vs us → NestedAll s.heap ks us
  | [], vs, us, q, r => by
    rw [NkVs] at q
    subst q
    cases r
    exact .nil
  | k :: ks, vs, us, q, r => by
    rw [NkVs] at q
    obtain ⟨v, rs, rfl, q1, q2⟩ := q
    cases r with
    | cons r1 r2 => exact .cons (nkv_is I k v _ q1 r1) (nkvs_is I ks rs _ q2 r2)
end
end
/-- at d stands a dict with these entries -/
structure DnV (P : Program) (w : World) (K : PySem.W.Frag) (H : Hp) (d : Addr) (xs : List (NestedKey × Addr × Value)) : Prop where
  lo : (d == sysModules) = false
  few : xs.length ≤ sizeLine
  ex : ∃ es, H d = some (.ext (dictRaw d es)) ∧ es.toList = xs.map (entryOfKey (nestedKind P w))
  nd : (xs.map (·.1)).Nodup
  is : ∀ x ∈ xs, NkV K H x.1 (.ref x.2.1) ∧ x.1.depth ≤ 8
theorem DnV.at {X : Cx} {pins : List (Addr × Obj)} {σ : L2.St} {H : Hp} {s : Shared} (I : Inv X pins σ H s) {d : Addr} {xs : List (NestedKey × Addr × Value)} (h : DnV X.prog X.w X.K H d xs) : s.heap.DictOfH (nestedKind X.prog X.w) d xs := by
  obtain ⟨es, e1, e2⟩ := h.ex
  have x : ObjOk X.prog X.w H s.heap d (.ext (dictRaw d es)) := I.hok d _ e1
  obtain ⟨⟨o, ep, h1, h2, h3⟩, _, _⟩ := x
  exact ⟨o, es, ep, h1, h2, h3, e2, fun y hy => ⟨nkv_is I y.1 _ _ (h.is y hy).1 rfl, (h.is y hy).2⟩, h.nd⟩
abbrev DnR (G : Gm) (rho : Rm) (H : Hp) : List (D × D) → List (NestedKey × Addr × Value) → Prop := Paired (fun (p : D × D) (q : NestedKey × Addr × Value) => nk p.1 = some q.1 ∧ Den G rho H p.1 (.ref q.2.1) ∧ ∃ v, RelV v q.2.2 ∧ Den G rho H p.2 v)
def getN (kvs : List (D × D)) (k : NestedKey) : Option D := (kvs.find? fun p => decide (nk p.1 = some k)).map (·.2)
def hasN (kvs : List (D × D)) (k : NestedKey) : Bool := kvs.any fun p => decide (nk p.1 = some k)
def putN (kvs : List (D × D)) (kd : D) (k : NestedKey) (v : D) : List (D × D) := if hasN kvs k = true then kvs.map (fun p => if nk p.1 = some k then (p.1, v) else p) else kvs ++ [(kd, v)]
section
variable {G : Gm} {rho : Rm} {H : Hp} {kvs : List (D × D)} {xs : List (NestedKey × Addr × Value)} {k : NestedKey}
theorem DnR.get (h : DnR G rho H kvs xs) {d : D} (e : getN kvs k = some d) : ∃ p : Addr × Value, atKey xs k = some p ∧ ∃ v, RelV v p.2 ∧ Den G rho H d v := by
  induction h with
  | nil => cases e
  | @cons p q ps qs r t ih =>
    unfold getN at e
    rw [List.find?_cons] at e
    by_cases hk : nk p.1 = some k
    · simp only [hk, decide_true, Option.map_some, Option.some.injEq] at e
      subst e
      have : q.1 = k := by
        have := r.1.symm.trans hk
        exact Option.some.inj this
      refine ⟨q.2, ?_, r.2.2⟩
      unfold atKey
      rw [List.find?_cons, decide_eq_true this]; rfl
    · have : decide (nk p.1 = some k) = false := decide_eq_false hk
      rw [this] at e
      obtain ⟨z, e1, e2⟩ := ih e
      refine ⟨z, ?_, e2⟩
      unfold atKey at e1 ⊢
      rw [List.find?_cons, decide_eq_false (fun z => hk (by rw [r.1, z]))]
      exact e1
theorem DnR.has (h : DnR G rho H kvs xs) : (atKey xs k).isSome = hasN kvs k := by
  induction h with
  | nil => rfl
  | @cons p q ps qs r t ih =>
    unfold hasN atKey at ih ⊢
    rw [List.find?_cons, List.any_cons]
    by_cases hk : q.1 = k
    · rw [decide_eq_true hk, decide_eq_true (by rw [r.1, hk] : nk p.1 = some k)]; rfl
    · rw [decide_eq_false hk, decide_eq_false (fun z => hk (Option.some.inj (r.1.symm.trans z)) : ¬ nk p.1 = some k)]
      exact ih
theorem DnR.put (h : DnR G rho H kvs xs) {kd d : D} {a : Addr} {u : Value} {v : V} (ek : nk kd = some k) (qk : Den G rho H kd (.ref a)) (rv : RelV v u) (qd : Den G rho H d v) : DnR G rho H (putN kvs kd k d) (storedH xs k a u) := by
  unfold putN storedH
  rw [← h.has]
  split
  · rename_i hs
    clear hs
    induction h with
    | nil => exact .nil
    | @cons p q ps qs r t ih =>
      rw [List.map_cons, List.map_cons]
      refine .cons ?_ ih
      unfold putAt
      by_cases hk : q.1 = k
      · rw [if_pos hk, if_pos (by rw [r.1, hk])]
        exact ⟨r.1, r.2.1, v, rv, qd⟩
      · rw [if_neg hk, if_neg (fun z => hk (Option.some.inj (r.1.symm.trans z)))]
        exact r
  · have app : ∀ {a : List (D × D)} {b : List (NestedKey × Addr × Value)} {a2 b2}, DnR G rho H a b → DnR G rho H a2 b2 → DnR G rho H (a ++ a2) (b ++ b2) := by
      intro a b a2 b2 h h2
      induction h with
      | nil => exact h2
      | cons r t ih => exact .cons r ih
    exact app h (.cons ⟨ek, qk, v, rv, qd⟩ .nil)
end
section
variable {X : Cx}
end
theorem DnR.step {G : Gm} {rho rho' : Rm} {H H' : Hp} {hh : Hh} (R : Rep G rho hh H) (S : Step rho H rho' H') {a : List (D × D)} {b : List (NestedKey × Addr × Value)} (h : DnR G rho H a b) : DnR G rho' H' a b :=
  Paired.mapP h fun p q r => ⟨r.1, Den.step R S _ _ r.2.1, let ⟨v, r1, r2⟩ := r.2.2; ⟨v, r1, Den.step R S _ _ r2⟩⟩
end MR

namespace MR
open PySem PySem.Spec PyProof.Rows L2
def OptN (G : Gm) (rho : Rm) (H : Hp) : Option D → Option Value → Prop
  | some d, some u => ∃ v, RelV v u ∧ Den G rho H d v
  | none, none => True
  | _, _ => False
theorem DnR.getO {G : Gm} {rho : Rm} {H : Hp} {kvs : List (D × D)} {xs : List (NestedKey × Addr × Value)} {k : NestedKey} (h : DnR G rho H kvs xs) : OptN G rho H (getN kvs k) ((atKey xs k).map (·.2)) := by
  induction h with
  | nil => trivial
  | @cons p q ps qs r t ih =>
    unfold getN atKey at ih ⊢
    rw [List.find?_cons, List.find?_cons]
    by_cases hk : q.1 = k
    · rw [decide_eq_true hk, decide_eq_true (by rw [r.1, hk] : nk p.1 = some k)]
      exact r.2.2
    · rw [decide_eq_false hk, decide_eq_false (fun z => hk (Option.some.inj (r.1.symm.trans z)) : ¬ nk p.1 = some k)]
      exact ih
section
variable {X : Cx} {pins : List (Addr × Obj)} {σ : L2.St} {H : Hp} {s : Shared} {a : Addr}
end
section
variable {X : Cx} {o e f : Expr} {apos cpos : Pos} {td ty tx : TE}
end
section
variable {X : Cx} {o e f : Expr} {apos cpos : Pos} {md mk mx : ME}
end
end MR

namespace MR
open PySem PySem.Spec PyProof.Rows L2
end MR

namespace MR
open PySem PySem.Spec PyProof.Rows L2
end MR

namespace MR
open PySem PySem.Spec PyProof.Rows L2
section
variable {X : Cx} {e : Expr} {m : ME} {pos p : Pos} {x : Str}
end
end MR

namespace MR
open PySem PySem.Spec PyProof.Rows L2
end MR

namespace MR
open PySem PySem.Spec PyProof.Rows L2
section
variable {G : Gm} {rho : Rm} {H : Hp}
end
end MR

namespace PySem
open Spec PyProof.Rows
end PySem
namespace MR
open PySem PySem.Spec PyProof.Rows L2
section
variable {X : Cx} {pins : List (Addr × Obj)} {σ : L2.St} {H : Hp} {s : Shared}
end
end MR

namespace MR
open PySem PySem.Spec PyProof.Rows L2
def k_fld (x f : Str) : D → Hh → Res D := fun d h => lift (fldO x f d h) h
@[simp] theorem ev_fld (x f : Str) (m : ME) (env : DEnv) (h : Hh) : eFld x f m env h = (m env h).bind (k_fld x f) := rfl
@[simp] theorem ev_k_fld (x f : Str) (d : D) (h : Hh) : k_fld x f d h = lift (fldO x f d h) h := rfl
def k_mtd2 (F : MF) (o : D) : List D → Hh → Res D := fun ds h => F (o :: ds) h
def k_mtd (x m : Str) (F : MF) (ms : MA) (env : DEnv) : D → Hh → Res D := fun o h => if isIns x m o h = true then (ms env h).bind (k_mtd2 F o) else .stuck
@[simp] theorem ev_mtd (x m : Str) (F : MF) (mo : ME) (ms : MA) (env : DEnv) (h : Hh) : eMtd x m F mo ms env h = (mo env h).bind (k_mtd x m F ms env) := rfl
@[simp] theorem ev_k_mtd (x m : Str) (F : MF) (ms : MA) (env : DEnv) (o : D) (h : Hh) : k_mtd x m F ms env o h = if isIns x m o h = true then (ms env h).bind (k_mtd2 F o) else .stuck := rfl
@[simp] theorem ev_k_mtd2 (F : MF) (o : D) (ds : List D) (h : Hh) : k_mtd2 F o ds h = F (o :: ds) h := rfl
end MR

namespace MR
open PySem PySem.Spec PyProof.Rows L2
section
variable {X : Cx} {pins : List (Addr × Obj)} {σ : L2.St} {H : Hp} {s : Shared}
end
section
variable {G : Gm} {rho : Rm} {H : Hp} {hh : Hh}
end
section
variable {X : Cx} {e : Expr} {m : ME} {pos p : Pos} {x : Str}
end
end MR

namespace MR
open PySem PySem.Spec PyProof.Rows L2
/-- a.split(b), a new list -/
def splO (a b : D) : Option (List D) := match a, b with
  | .str x, .str y => if (y.length == 0) = false ∧ x.length + 2 ≤ sizeLine then some ((Txt.split x y).map D.str) else none
  | _, _ => none
def isS (d : D) : Bool := match d with
  | .str _ => true
  | _ => false
theorem isS_some {d : D} (h : isS d = true) : ∃ x, d = .str x := by cases d <;> first | exact ⟨_, rfl⟩ | cases h
def aSplit (ma mb : ME) : MA := fun env h => (ma env h).bind fun a h1 => if isS a = true then (mb env h1).bind fun b h2 => lift (splO a b) h2 else .stuck
theorem dens_strs {G : Gm} {rho : Rm} {H : Hp} : ∀ ys : List Str, Dens G rho H (ys.map D.str) (ys.map V.str)
  | [] => by rw [List.map_nil, Dens]; rfl
  | y :: ys => by rw [List.map_cons, Dens]; exact ⟨_, _, rfl, rfl, dens_strs ys⟩
section
variable {X : Cx} {o e : Expr} {ma mb : ME} {apos pos : Pos}
theorem dl_split (ho : DE X o ma) (he : DE X e mb) (hs : starEach [e] X.env = [(false, eval e X.env)] := by rfl) (hbase : attributeBase o "split" X.env (eval o X.env) = eval o X.env := by rfl) (hline : (apos.endLine == pos.line) = true := by rfl) :
    DL X (.Call (.Attribute o "split" apos) [e] [] pos) (aSplit ma mb) :=
  ⟨fun W tk => pe_weak (pe_split (ho.run W tk) (he.run W tk) hs hbase hline) fun σ H Q hq => by
    obtain ⟨rho, env, hh, R, E, p⟩ := hq
    refine ⟨rho, env, hh, R, E, ?_⟩
    unfold aSplit at p
    cases e1 : ma env hh with
    | stuck => rw [e1] at p; exact p
    | err z h1 => rw [e1] at p; exact p
    | ok d h1 =>
      rw [e1, bind_ok] at p
      intro rho1 H1 v1 S1 R1 q1
      by_cases hd : isS d = true
      · rw [if_pos hd] at p
        obtain ⟨x, rfl⟩ := isS_some hd
        obtain rfl : v1 = V.str x := q1
        refine ⟨⟨x, rfl⟩, rho1, env, h1, R1, E.step R S1, ?_⟩
        cases e2 : mb env h1 with
        | stuck => rw [e2] at p; exact p
        | err z h2 =>
          rw [e2] at p
          exact fun rho2 H2 c dd S2 R2 x => p rho2 H2 c dd (S1.trans S2) R2 x
        | ok e h2 =>
          rw [e2, bind_ok] at p
          intro rho2 H2 v2 S2 R2 q2
          cases e3 : splO (.str x) e with
          | none => rw [e3] at p; exact p.elim
          | some ds =>
            rw [e3] at p
            unfold splO at e3
            split at e3
            · rename_i a b f1
              cases f1
              split at e3
              · rename_i hc
                cases e3
                obtain rfl : v2 = V.str b := q2
                refine ⟨x, b, rfl, rfl, hc.1, hc.2, fun pp hp => ?_⟩
                obtain ⟨a, b', c, dd⟩ := new_list (S1.trans S2) R2 (dens_strs (G := Cx.gm X) (rho := rho2) (H := H2) (Txt.split x b)) hp
                exact p _ _ pp _ a b' upd_same List.mem_cons_self c ((S1.trans S2).back hp) (by rw [List.length_map]; exact Nat.le_trans (PyProof.Rows.split_le x b) hc.2) dd
              · cases e3
            · cases e3
      · rw [if_neg hd] at p; exact p.elim⟩
end
def popAtO : OpM := fun d ds h => match ds with
  | [.int i] => chL (fun xs => if -(2 ^ 63) ≤ i ∧ i < 2 ^ 63 then (match seqIndex? i xs.length with
    | some k => match xs[k]? with
      | some y => some (y, xs.eraseIdx k)
      | none => none
    | none => none) else none) d h
  | _ => none
theorem Dens.eraseIdx {G : Gm} {rho : Rm} {H : Hp} : ∀ {ds : List D} {vs : List V} (k : Nat), Dens G rho H ds vs → Dens G rho H (ds.eraseIdx k) (vs.eraseIdx k)
  | [], vs, k, h => by rw [Dens] at h; subst h; exact rfl
  | d :: ds, vs, 0, h => by
    rw [Dens] at h
    obtain ⟨v, r, rfl, a, b⟩ := h
    exact b
  | d :: ds, vs, k + 1, h => by
    rw [Dens] at h
    obtain ⟨v, r, rfl, a, b⟩ := h
    exact ⟨v, r.eraseIdx k, rfl, a, Dens.eraseIdx k b⟩
theorem rz_popAt {G : Gm} : RzM G "list" rPopAt isL popAtO where
  ty := fun rho hh H d v R q h => isL_ty R q h
  run := fun rho hh H d ds v vs d' hh' Q R qd qs e k => by
    unfold popAtO at e
    split at e
    · rename_i j
      rw [Dens] at qs
      obtain ⟨w0, r0, rfl, q0, qs⟩ := qs
      rw [Dens] at qs
      subst qs
      obtain rfl : w0 = V.int j := q0
      obtain ⟨i, a, xs, ys, ws, rfl, e1, rfl, e2, l, z, e3, rfl, fin⟩ := chL_of R qd e
      split at e3
      · rename_i hb
        split at e3
        · rename_i m em
          split at e3
          · rename_i y ey
            cases e3
            obtain ⟨w, ew, qw⟩ := z.get ey
            obtain ⟨S, R'⟩ := fin (ws.eraseIdx m) (Nat.le_trans (by rw [List.length_eraseIdx]; split <;> omega) l) (z.eraseIdx m)
            rw [z.length] at em
            exact ⟨a, ws, j, m, w, rfl, rfl, e2, hb.1, hb.2, em, ew, k _ rho _ S R' (Den.step R S _ _ qw)⟩
          · cases e3
        · cases e3
      · cases e3
    · cases e
def eIntT (m : ME) : ME := fun env h => (m env h).bind fun d h1 => match d with
  | .str a => if a.length ≤ 640 then lift ((PySem.intText? a).map D.int) h1 else .stuck
  | _ => .stuck
section
variable {X : Cx} {e : Expr} {m : ME} {pos p : Pos} {x : Str}
theorem de_intT (hg : Gl X x) (hm : X.mg x = none) (hv : bootBuiltins x = some (.type "int")) (ha : DE X e m)
    (hn : x ≠ "__name__" := by decide) (hdb : (x == ("__debug__" : Str)) = false := by decide) (he : starEach [e] X.env = (false, eval e X.env) :: starEach [] X.env := by rfl) (hpl : (backTo pos (starEach [] X.env)).any (·.1) = false := by rfl) :
    DE X (.Call (.Name x p) [e] [] pos) (eIntT m) :=
  ⟨fun W tk => pe_weak (pe_callTy call_int_str hg hm hv ((da_cons ha da_nil he).run W tk) hn hdb he hpl) fun σ H Q hq => by
    obtain ⟨rho, env, hh, R, E, p⟩ := hq
    refine ⟨rho, env, hh, R, E, ?_⟩
    unfold eIntT at p
    unfold aCons aNil
    cases e1 : m env hh with
    | stuck => rw [e1] at p; exact p
    | err z h1 => rw [e1] at p; exact p
    | ok d h1 =>
      rw [e1, bind_ok] at p
      rw [bind_ok, bind_ok]
      intro rho1 H1 vs S1 R1 q1
      obtain ⟨v, rfl, qv⟩ := dens_one q1
      cases d with
      | str a =>
        obtain rfl : v = V.str a := qv
        dsimp only at p
        split at p
        · rename_i hl
          cases e2 : PySem.intText? a with
          | none => rw [e2] at p; exact p.elim
          | some n =>
            rw [e2] at p
            exact ⟨a, n, rfl, e2, hl, p rho1 H1 _ S1 R1 (by rw [Den])⟩
        · exact p.elim
      | _ => exact p.elim⟩
end
def inSgO : Op2 := fun a b _ => match a, b with
  | .str x, .str z => if x.cps.size = 1 then some (.bl (decide (x.cps.getD 0 0 ∈ z.cps.toList))) else none
  | _, _ => none
theorem rz_inSg {G : Gm} : Rz2 G (fun x y H Q => ∃ (c : Nat) (z : Str), x = .str ⟨#[c]⟩ ∧ y = .str z ∧ Q (.bl (decide (c ∈ z.cps.toList))) H) inSgO := fun rho hh H d1 d2 v1 v2 d Q R q1 q2 e k => by
  unfold inSgO at e
  split at e
  · rename_i x z
    split at e
    · rename_i hx
      cases e
      obtain rfl : v1 = V.str x := q1
      obtain rfl : v2 = V.str z := q2
      obtain ⟨⟨xs⟩⟩ := x
      match xs, hx with
      | [c], _ => exact ⟨c, z, rfl, rfl, k _ H .refl R rfl⟩
    · cases e
  · cases e
end MR

namespace MR
open PySem PySem.Spec PyProof.Rows L2
end MR

namespace MR
open PySem PySem.Spec PyProof.Rows L2
def turned (i : Int) {α : Type} (xs : List α) : List α := if i = -1 then xs.reverse else xs
def stepO (d : D) (o : Option Int) (h : Hh) : Option D := match o with
  | some i => if i = 1 ∨ i = -1 then (seqL d h).map fun xs => .lst (turned i xs) else none
  | none => none
def eStep (m ms : ME) : ME := fun env h => (m env h).bind fun d h1 => (oSome ms env h1).bind fun o h2 => lift (stepO d o h2) h2
theorem Dens.turned {G : Gm} {rho : Rm} {H : Hp} {ds : List D} {vs : List V} (i : Int) (z : Dens G rho H ds vs) : Dens G rho H (turned i ds) (turned i vs) := by
  unfold MR.turned
  split
  · exact z.reverse
  · exact z
def k_st1 (ms : ME) (env : DEnv) : D → Hh → Res D := fun d h1 => (oSome ms env h1).bind fun o h2 => lift (stepO d o h2) h2
def k_st2 (d : D) : Option Int → Hh → Res D := fun o h2 => lift (stepO d o h2) h2
@[simp] theorem ev_step (m ms : ME) (env : DEnv) (h : Hh) : eStep m ms env h = (m env h).bind (k_st1 ms env) := rfl
@[simp] theorem ev_k_st1 (ms : ME) (env : DEnv) (d : D) (h : Hh) : k_st1 ms env d h = (oSome ms env h).bind (k_st2 d) := rfl
@[simp] theorem ev_k_st2 (d : D) (o : Option Int) (h : Hh) : k_st2 d o h = lift (stepO d o h) h := rfl
end MR

namespace MR
open PySem PySem.Spec PyProof.Rows L2
/-- a, b = a list of two -/
def gTupL (n : Nat) (gs : MGs) : MG := fun d env h => match d with
  | .lst ds => if ds.length = n then gs ds env h else none
  | _ => none
@[simp] theorem ev_gTupL (n : Nat) (gs : MGs) (ds : List D) (env : DEnv) (h : Hh) : gTupL n gs (.lst ds) env h = if ds.length = n then gs ds env h else none := rfl
end MR

namespace MR
open PySem PySem.Spec PyProof.Rows L2
def eDict0S : ME := fun _ h => .ok (.dct [] []) h
@[simp] theorem ev_dict0S (env : DEnv) (h : Hh) : eDict0S env h = .ok (.dct [] []) h := rfl
end MR

namespace MR
open PySem PySem.Spec PyProof.Rows L2
end MR

namespace MR
open PySem PySem.Spec PyProof.Rows L2
section
variable {prog : Program} {w : World} {A : Around} {E : Value → Shared → Prop} {s : Shared} {d : Addr} {o : Obj} {es : Array DictEntry} {ep : Nat} {hN : Int}
end
section
variable {X : Cx}
end
section
variable {X : Cx} {pos p1 p2 : Pos}
section
variable {CX : CXT} {k : Nat} {f : Addr} {fd : FuncData} {ps : List Str} {sp : Sp} {E : L2.St → XK} {a b e : Expr} {es : List Expr} {tc : TE} {t : TA}
end
end
end MR

set_option maxHeartbeats 1000000
namespace MR
open PySem PySem.Spec PyProof.Rows L2

structure SrcM where
  items : List D
  lives : List (Nat × List D)
def gsOk (gs : List (Nat × List D)) (h : Hh) : Prop := ∀ g ∈ gs, h[g.1]? = some (.lst g.2)
abbrev MIM := DEnv → Hh → Res SrcM
def WalkM (G : Gm) (rho1 : Rm) (H1 : Hp) (src : SrcM) (J : It) : Prop := src.items.length ≤ sizeLine ∧ ∀ rho hh H, Step rho1 H1 rho H → Rep G rho hh H → gsOk src.lives hh →
  (∀ i, i < src.items.length → J.go i H) ∧ J.stop src.items.length H ∧ ∀ i d x H', src.items[i]? = some d → J.yld i H x H' → Step rho H rho H' ∧ Rep G rho hh H' ∧ Den G rho H' d x
def TDiM (G : Gm) (W : WX) (m : MIM) : TI := fun σ H R => ∃ rho env hh, Rep G rho hh H ∧ EnvD G rho H env σ ∧ PostE G (WalkM G) (wAt W σ) rho H (m env hh) R
structure DIM (X : Cx) (tg iter : Expr) (m : MIM) : Prop where
  run : ∀ W, Takes X W → PI X tg iter (TDiM (Cx.gm X) W m)
open Classical in
section
variable {X : Cx} {G : Gm} {W : WX}
end

section
variable {X : Cx} {G : Gm} {rho : Rm} {hh : Hh} {H : Hp}
end
end MR

namespace MR
open PySem PySem.Spec PyProof.Rows L2
def aSlice (m : ME) (ml mh : MO) : MA := fun env h => (m env h).bind fun d h1 => (ml env h1).bind fun lo h2 => (mh env h2).bind fun hi h3 => lift ((seqL d h3).map fun ds => cutG ds lo hi) h3
section
variable {X : Cx} {e : Expr} {m : ME} {pos p2 : Pos}
end
def k_par3 (i j l : Nat) (env : DEnv) : List D → Hh → RS := fun ds h1 => match ds with
  | [d1, d2, d3] => .nx (((env.set i (some d1)).set j (some d2)).set l (some d3)) h1
  | _ => .stuck
@[simp] theorem ev_sPar3 (i j l : Nat) (ms : MA) (env : DEnv) (h : Hh) : sPar3 i j l ms env h = (ms env h).st env (k_par3 i j l env) := rfl
@[simp] theorem ev_k_par3 (i j l : Nat) (env : DEnv) (d1 d2 d3 : D) (h : Hh) : k_par3 i j l env [d1, d2, d3] h = .nx (((env.set i (some d1)).set j (some d2)).set l (some d3)) h := rfl
def k_aSl1 (ml mh : MO) (env : DEnv) : D → Hh → Res (List D) := fun d h1 => (ml env h1).bind fun lo h2 => (mh env h2).bind fun hi h3 => lift ((seqL d h3).map fun ds => cutG ds lo hi) h3
@[simp] theorem ev_aSlice (m : ME) (ml mh : MO) (env : DEnv) (h : Hh) : aSlice m ml mh env h = (m env h).bind (k_aSl1 ml mh env) := rfl
end MR

namespace MR
open PySem PySem.Spec PyProof.Rows L2
def neE : Op2 := fun a b h => match b with
  | .lst [] => (match deref a h with
    | .lst ds => some (.bl (!ds.isEmpty))
    | _ => none)
  | _ => none
def strXO : OpN := fun ds h => match ds with
  | [.str x] => some (.str x)
  | ds => str1O ds h
@[simp] theorem ev_strXS (x : Str) (h : Hh) : strXO [.str x] h = some (.str x) := rfl
@[simp] theorem ev_neEL (ds : List D) (h : Hh) : neE (.lst ds) (.lst []) h = some (.bl (!ds.isEmpty)) := rfl
end MR

set_option maxHeartbeats 1000000
namespace MR
open PySem PySem.Spec PyProof.Rows L2
def Res.calm {α : Type} : Res α → Res α
  | .err _ _ => .stuck
  | r => r
def nE (m : ME) : ME := fun env h => (m env h).calm
def nT (m : MT) : MT := fun env h => (m env h).calm
def nA (m : MA) : MA := fun env h => (m env h).calm
def nS (m : MS) : MS := fun env h => (m env h).calm
structure DSN (X : Cx) (st : Stmt) (m : MS) : Prop where
  run : ∀ W, L2N.Takes X W → PS X st (TDs (Cx.gm X) W m)
structure DSNs (X : Cx) (st : List Stmt) (m : MS) : Prop where
  run : ∀ W, L2N.Takes X W → PSs X st (TDs (Cx.gm X) W m)
structure DXN (X : Cx) (e : Expr) (m : MX) : Prop where
  run : L2N.PMk X e (TDx (Cx.gm X) m)
def FnDN (P : Program) (w : World) (K : PySem.W.Frag) (mg : Str → Option Value) (base : Heap) (k : Nat) (f : Addr) (fd : FuncData) (ps : List Str) (F : MF) : Prop :=
  FnOk P w K mg base (L2N.CX P w) k f fd ps (spD ⟨P, w, K⟩ ps.length F)
section
variable {X : Cx} {st : Stmt} {rest : List Stmt} {m ms ms' : MS} {pos : Pos}
end
section
variable {X : Cx} {e : Expr} {es : List Expr} {ta : TA} {p pos : Pos}
end
section
variable {X : Cx} {e : Expr} {m : ME} {x f w1 : Str} {p pos : Pos}
end
section
variable {P : Program} {w : World} {K : PySem.W.Frag} {mg : Str → Option Value} {base : Heap}
end
section
variable {X : Cx} {k : Nat} {f : Addr} {fd : FuncData} {ps : List Str} {F : MF} {x g : Str} {p pos : Pos} {e : Expr} {es : List Expr} {ms : MA}
end
/-- a suite, where an exception is handled -/
structure DSHs (X : Cx) (st : List Stmt) (m : MS) : Prop where
  run : L2H.HotC X → ∀ W, Takes X W → PSs X st (TDs (Cx.gm X) W m)
section
variable {X : Cx} {body suite : List Stmt} {b₀ : Stmt} {x c : Str} {np pos pos' : Pos} {mb ms : MS} {cs : List Str}
end
@[simp] theorem ev_nE (m : ME) (env : DEnv) (h : Hh) : nE m env h = (m env h).calm := rfl
@[simp] theorem ev_nT (m : MT) (env : DEnv) (h : Hh) : nT m env h = (m env h).calm := rfl
@[simp] theorem ev_nA (m : MA) (env : DEnv) (h : Hh) : nA m env h = (m env h).calm := rfl
@[simp] theorem ev_nS (m : MS) (env : DEnv) (h : Hh) : nS m env h = (m env h).calm := rfl
@[simp] theorem ev_calm_ok {α : Type} (a : α) (h : Hh) : (Res.ok a h).calm = .ok a h := rfl
@[simp] theorem ev_calm_err {α : Type} (x : Exn) (h : Hh) : (Res.err x h : Res α).calm = .stuck := rfl
@[simp] theorem ev_scalm_nx (e : DEnv) (h : Hh) : (RS.nx e h).calm = .nx e h := rfl
@[simp] theorem ev_scalm_rt (d : D) (h : Hh) : (RS.rt d h).calm = .rt d h := rfl
@[simp] theorem ev_scalm_bk (e : DEnv) (h : Hh) : (RS.bk e h).calm = .bk e h := rfl
@[simp] theorem ev_scalm_ct (e : DEnv) (h : Hh) : (RS.ct e h).calm = .ct e h := rfl
end MR

set_option maxHeartbeats 1000000
namespace MR
open PySem PySem.Spec PyProof.Rows L2
def upO : D → Option D := fun d => match d with
  | .str a => if a.length ≤ 5592405 then some (.str (Txt.upper a)) else none
  | _ => none
def eUpper (m : ME) : ME := fun env h => (m env h).bind fun d h1 => lift (upO d) h1
section
variable {X : Cx} {o : Expr} {mo : ME} {pos apos : Pos}
theorem de_upper (ho : DE X o mo) (hbase : attributeBase o "upper" X.env (eval o X.env) = eval o X.env := by rfl) (hline : (apos.endLine == pos.line) = true := by rfl) : DE X (.Call (.Attribute o "upper" apos) [] [] pos) (eUpper mo) :=
  ⟨fun W tk => pe_weak (pe_m0 F.slot_str_upper F.type_str_upper mt_upper (ho.run W tk) hbase hline) fun σ H Q hq => by
    obtain ⟨rho, env, hh, R, E, p⟩ := hq
    refine ⟨rho, env, hh, R, E, ?_⟩
    unfold eUpper at p
    cases e1 : mo env hh with
    | stuck => rw [e1] at p; exact p
    | err z h1 => rw [e1] at p; exact p
    | ok d h1 =>
      rw [e1, bind_ok] at p
      intro rho1 H1 v1 S1 R1 q1
      cases d with
      | str x =>
        obtain rfl : v1 = V.str x := q1
        have eu : upO (.str x) = if x.length ≤ 5592405 then some (.str (Txt.upper x)) else none := rfl
        rw [eu] at p
        by_cases hc : x.length ≤ 5592405
        · rw [if_pos hc] at p
          exact ⟨⟨x, rfl⟩, x, rfl, rfl, hc, p rho1 H1 _ S1 R1 (by rw [Den])⟩
        · rw [if_neg hc] at p; exact p.elim
      | _ => exact p.elim⟩
end
def k_upper : D → Hh → Res D := fun d h1 => lift (upO d) h1
@[simp] theorem ev_upper (m : ME) (env : DEnv) (h : Hh) : eUpper m env h = (m env h).bind k_upper := rfl
@[simp] theorem ev_k_upper (d : D) (h : Hh) : k_upper d h = lift (upO d) h := rfl
end MR

set_option maxHeartbeats 1000000
namespace MR
open PySem PySem.Spec PyProof.Rows L2
theorem signs_paired (P : Nat → Value → Prop) : ∀ (cs : List Nat) (vs : List Value), cs.length = vs.length → (∀ (j : Nat) (c : Nat) (v : Value), cs[j]? = some c → vs[j]? = some v → ∃ t : Tok, v = Value.str (⟨#[c]⟩ : Str) t) → Vals (cs.map fun n => V.str ⟨#[n]⟩) vs
  | [], [], _, _ => .nil
  | [], _ :: _, h, _ => by cases h
  | _ :: _, [], h, _ => by cases h
  | c :: cs, v :: vs, h, q => by
    obtain ⟨t, rfl⟩ := q 0 c v rfl rfl
    exact .cons ⟨t, rfl⟩ (signs_paired P cs vs (Nat.succ.inj h) fun j c v a b => q (j + 1) c v a b)
theorem call_list_text {X : Cx} (hc : X.calm = true) : CallR X (.type "list") (fun xs H Q => ∃ x, xs = [V.str x] ∧ x.length ≤ sizeLine ∧ ∀ l, H l = none → Q (.ref l) (upd H l (.lst ((signs x).map V.str)))) := by
  intro pins s σ H xs us Q I r h
  obtain ⟨x, rfl, hz, q⟩ := h
  obtain ⟨u, rfl, rx⟩ := vals1 r
  obtain ⟨t, rfl⟩ := rx
  refine call_list_str (I.ok.hd hc) x t (hn := hz) fun h' tk acc' c' kp e hacc => ?_
  have hl : acc'.toList.length = x.cps.toList.length := by rw [Array.length_toList, Array.length_toList]; exact hacc.1
  have pv : Vals ((signs x).map V.str) acc'.toList := by
    unfold signs
    rw [List.map_map]
    refine signs_paired (fun _ _ => True) x.cps.toList acc'.toList hl.symm fun j c v hj hv => ?_
    obtain ⟨c', u', hc', rfl⟩ := hacc.2 j v (by simpa using hv)
    rw [Array.getElem?_toList] at hj
    have hc' : x.cps[j]? = some c' := hc'
    rw [hj] at hc'
    cases hc'
    exact ⟨u', rfl⟩
  have hlen : ((signs x).map V.str).length ≤ sizeLine := by
    unfold signs
    rw [List.length_map, List.length_map, Array.length_toList]
    exact hz
  exact ⟨.ref s.heap.objs.size, _, I.laid (t' := tk) kp (Nat.le_refl _) (show ObjOk X.prog X.w _ h' _ (.lst ((signs x).map V.str)) from ⟨hlen, acc'.toList, c', pv, e⟩), rfl, q _ (I.hok.fresh (Nat.le_refl _))⟩
/-- the signs of a text -/
def aChs (m : ME) : MA := fun env h => (m env h).bind fun d h1 => match d with
  | .str x => if x.length ≤ 100000 then .ok ((signs x).map D.str) h1 else .stuck
  | _ => .stuck
section
variable {X : Cx} {e : Expr} {m : ME} {pos p : Pos} {x : Str}
theorem dl_listC (hc : X.calm = true) (hg : Gl X x) (hm : X.mg x = none) (hv : bootBuiltins x = some (.type "list")) (ha : DE X e m)
    (hn : x ≠ "__name__" := by decide) (hdb : (x == ("__debug__" : Str)) = false := by decide) (he : starEach [e] X.env = (false, eval e X.env) :: starEach [] X.env := by rfl) (hpl : (backTo pos (starEach [] X.env)).any (·.1) = false := by rfl) :
    DL X (.Call (.Name x p) [e] [] pos) (aChs m) :=
  ⟨fun W tk => pe_weak (pe_callTy (call_list_text hc) hg hm hv ((da_cons ha da_nil he).run W tk) hn hdb he hpl) fun σ H Q hq => by
    obtain ⟨rho, env, hh, R, E, p⟩ := hq
    refine ⟨rho, env, hh, R, E, ?_⟩
    unfold aChs at p
    unfold aCons aNil
    cases e1 : m env hh with
    | stuck => rw [e1] at p; exact p
    | err z h1 => rw [e1] at p; exact p
    | ok d h1 =>
      rw [e1, bind_ok] at p
      rw [bind_ok, bind_ok]
      intro rho1 H1 vs S1 R1 q1
      obtain ⟨v, rfl, qv⟩ := dens_one q1
      cases d with
      | str z =>
        obtain rfl : v = V.str z := qv
        have el : ((signs z).map V.str).length = z.length := by
          unfold signs
          rw [List.length_map, List.length_map, Array.length_toList]; rfl
        by_cases hz : z.length ≤ 100000
        · dsimp only at p
          rw [if_pos hz] at p
          refine ⟨z, rfl, by rw [sizeLine_eq]; omega, fun pp hp => ?_⟩
          obtain ⟨a, b, c, d⟩ := new_list S1 R1 (dens_strs (G := Cx.gm X) (rho := rho1) (H := H1) (signs z)) hp
          exact p _ _ pp _ a b upd_same List.mem_cons_self c (S1.back hp) (by rw [el, sizeLine_eq]; omega) d
        · dsimp only at p
          rw [if_neg hz] at p; exact p.elim
      | _ => exact p.elim⟩
end
end MR

set_option maxHeartbeats 1000000
namespace MR
open PySem PySem.Spec PyProof.Rows L2
section
variable {X : Cx} {e : Expr} {m : ME} {x f w1 : Str} {p pos : Pos}
end
section
variable {X : Cx} {k : Nat} {f : Addr} {fd : FuncData} {ps : List Str} {F : MF} {x : Str} {p pos cp : Pos} {e tg : Expr} {es : List Expr} {ms : MA} {g : MG}
end
end MR

set_option maxHeartbeats 1000000
namespace MR
open PySem PySem.Spec PyProof.Rows L2
section
variable {X : Cx} {o e : Expr} {mo ma mb : ME} {pos apos : Pos}
def spcO : Op2 := fun a b _ => match a, b with
  | .str x, .str y => if x.length ≤ 16777216 then some (.str (Txt.stripChars x y)) else none
  | _, _ => none
def eStrip (ma mb : ME) : ME := fun env h => (ma env h).bind fun a h1 => if isS a = true then (mb env h1).bind fun b h2 => lift (spcO a b h2) h2 else .stuck
theorem de_strip (ho : DE X o ma) (he : DE X e mb) (hs : starEach [e] X.env = [(false, eval e X.env)] := by rfl) (hbase : attributeBase o "strip" X.env (eval o X.env) = eval o X.env := by rfl) (hline : (apos.endLine == pos.line) = true := by rfl) :
    DE X (.Call (.Attribute o "strip" apos) [e] [] pos) (eStrip ma mb) :=
  ⟨fun W tk => pe_weak (pe_m1 F.slot_str_strip F.type_str_strip mt_stripChars (ho.run W tk) (he.run W tk) hs hbase hline) fun σ H Q hq => by
    obtain ⟨rho, env, hh, R, E, p⟩ := hq
    refine ⟨rho, env, hh, R, E, ?_⟩
    unfold eStrip at p
    cases e1 : ma env hh with
    | stuck => rw [e1] at p; exact p
    | err z h1 => rw [e1] at p; exact p
    | ok d h1 =>
      rw [e1, bind_ok] at p
      intro rho1 H1 v1 S1 R1 q1
      by_cases hd : isS d = true
      · rw [if_pos hd] at p
        obtain ⟨x, rfl⟩ := isS_some hd
        obtain rfl : v1 = V.str x := q1
        refine ⟨⟨x, rfl⟩, rho1, env, h1, R1, E.step R S1, ?_⟩
        cases e2 : mb env h1 with
        | stuck => rw [e2] at p; exact p
        | err z h2 =>
          rw [e2] at p
          exact fun rho2 H2 c dd S2 R2 x => p rho2 H2 c dd (S1.trans S2) R2 x
        | ok e h2 =>
          rw [e2, bind_ok] at p
          intro rho2 H2 v2 S2 R2 q2
          cases e3 : spcO (.str x) e h2 with
          | none => rw [e3] at p; exact p.elim
          | some d2 =>
            rw [e3] at p
            unfold spcO at e3
            split at e3
            · rename_i a b f1
              cases f1
              split at e3
              · rename_i hz
                cases e3
                obtain rfl : v2 = V.str b := q2
                exact ⟨x, b, rfl, rfl, by rw [sizeLine_eq]; exact hz, p rho2 H2 _ (S1.trans S2) R2 (by rw [Den])⟩
              · cases e3
            · cases e3
      · rw [if_neg hd] at p; exact p.elim⟩
end
end MR

set_option maxHeartbeats 1000000
namespace MR
open PySem PySem.Spec PyProof.Rows L2
/-- the def that the module holds at x -/
def faOf (K : PySem.W.Frag) (x : Str) : Addr := match PySem.W.nsIn K mainGlobals x with
  | some (some (.ref a)) => a
  | _ => 0
theorem faOf_of {K : PySem.W.Frag} {x : Str} {a : Addr} (h : PySem.W.nsIn K mainGlobals x = some (some (.ref a))) : faOf K x = a := by
  unfold faOf
  rw [h]
def eCallT (i : Nat) (tbl : List (Addr × MF)) (ms : MA) : ME := fun env h => match env[i]? with
  | some (some (.glb (.ref g))) => (match tbl.find? fun q => decide (q.1 = g) with
    | some q => eCall q.2 ms env h
    | none => .stuck)
  | _ => .stuck
theorem de_callT {X : Cx} {call : Expr} {i : Nat} {tbl : List (Addr × MF)} {ms : MA} (h : ∀ q ∈ tbl, DE X call (eCallL i q.1 q.2 ms)) : DE X call (eCallT i tbl ms) :=
  ⟨fun W tk => ⟨fun pins s σ H Q I hq => by
    obtain ⟨rho, env, hh, R, E, p⟩ := hq
    unfold eCallT at p
    split at p
    · rename_i g e1
      cases e2 : tbl.find? (fun q => decide (q.1 = g)) with
      | none => rw [e2] at p; exact p.elim
      | some q =>
        rw [e2] at p
        have hm := List.mem_of_find?_eq_some e2
        have hg : decide (q.1 = g) = true := List.find?_some (p := fun q : Addr × MF => decide (q.1 = g)) e2
        have hg := of_decide_eq_true hg
        refine ((h q hm).run W tk).run pins s σ H Q I ⟨rho, env, hh, R, E, ?_⟩
        unfold eCallL
        rw [e1]
        dsimp only
        rw [if_pos hg.symm]
        exact p
    · exact p.elim⟩⟩
end MR

set_option maxHeartbeats 1000000
namespace MR
open PySem PySem.Spec PyProof.Rows L2
/-- the name of a def as a value -/
theorem de_fv {X : Cx} {x : Str} {st : Stmt} {ps : List Str} {pos : Pos} (hg : Gl X x) (p : Fd X.K X.mg x st ps) (e : faOf X.K x = p.f) (hd : (x == ("__debug__" : Str)) = false := by decide) :
    DE X (.Name x pos) (eC (.glb (.ref (faOf X.K x)))) := by
  rw [e]
  exact de_cn hg (⟨.ref _, .ref _, p.g, rfl, fun _ _ => rfl⟩ : Cn X.prog X.w X.K X.mg x (.glb (.ref p.f))) hd
theorem de_callLA {X : Cx} {call : Expr} {i : Nat} {a f : Addr} {F : MF} {ms : MA} (e : a = f) (h : DE X call (eCallL i f F ms)) : DE X call (eCallL i a F ms) := by
  rw [e]; exact h
abbrev spA (F : (Str → Addr) → MF) (G : Gm) : Sp := spD G 1 (F (faOf G.K))
theorem sp_lawA {P : Program} {w : World} {K : PySem.W.Frag} {F : (Str → Addr) → MF} {n : Nat} (hn : n ≤ sizeLine) (h : ∀ (A : Str → Addr) (ns : List Int), ns.length ≤ n → ∃ h', F A [.scr ns] [] = .ok (.bl true) h') (H : Hp) (a : Addr) (ns : List Int) (hl : ns.length ≤ n) (hO : Only H) (hS : SqL K H a (ns.map V.int)) :
    spA F ⟨P, w, K⟩ [.ref a] H (fun v _ => v = .bl true) fun _ _ _ => False := sp_law hn (h _) H a ns hl hO hS
/-- a mirror that is asked nothing where two of the places are one -/
def sepF (b : Bool) (F : MF) : MF := fun ds h => if b then F ds h else .ok (.bl true) h
theorem sepF_of {b : Bool} {F : MF} (h : b = true) : sepF b F = F := by
  subst h; rfl
end MR

namespace MR
open PySem PySem.Spec PyProof.Rows L2

/-- what a slot holds: a value, a thing of the def's own, a thing handed in that stands at p -/
inductive Sl where
  | v (d : D)
  | own (o : O)
  | bor (p : Nat) (o : O)
  /-- a thing that stands at p, held by another thing: no name of the def -/
  | hid (p : Nat) (o : O)
abbrev SEnv := List (Option Sl)
structure Fr where
  h0 : Hh
  B : List Nat
def Hs (s : SEnv) (i : Nat) (o : O) : Prop := s[i]? = some (some (Sl.own o)) ∨ ∃ p, s[i]? = some (some (Sl.bor p o))
structure Sat (F : Fr) (s : SEnv) (env : DEnv) (h : Hh) : Prop where
  len : env.length = s.length
  le : F.h0.length ≤ h.length
  keep : ∀ j : Nat, j < F.h0.length → j ∉ F.B → h[j]? = F.h0[j]?
  val : ∀ (i : Nat) (d : D), s[i]? = some (some (Sl.v d)) → env[i]? = some (some d)
  cell : ∀ (i : Nat) (o : O), Hs s i o → ∃ p : Nat, env[i]? = some (some (D.ref p)) ∧ h[p]? = some o
  own : ∀ (i : Nat) (o : O) (p : Nat), s[i]? = some (some (Sl.own o)) → env[i]? = some (some (D.ref p)) → F.h0.length ≤ p
  bor : ∀ (i p : Nat) (o : O), s[i]? = some (some (Sl.bor p o)) → env[i]? = some (some (D.ref p)) ∧ p < F.h0.length ∧ p ∈ F.B
  sep : ∀ (i j : Nat) (o o' : O) (p : Nat), i ≠ j → Hs s i o → Hs s j o' → env[i]? = some (some (D.ref p)) → env[j]? = some (some (D.ref p)) → False
  hid : ∀ (i p : Nat) (o : O), s[i]? = some (some (Sl.hid p o)) → h[p]? = some o
  hsep : ∀ (i j p : Nat) (o o' : O), i ≠ j → s[i]? = some (some (Sl.hid p o)) → s[j]? = some (some (Sl.hid p o')) → False
  hcs : ∀ (i j p : Nat) (o o' : O), Hs s i o → env[i]? = some (some (D.ref p)) → s[j]? = some (some (Sl.hid p o')) → False
def chS (s : SEnv) (i : Nat) (o' : O) : SEnv := match s[i]? with
  | some (some (Sl.own _)) => s.set i (some (.own o'))
  | some (some (Sl.bor p _)) => s.set i (some (.bor p o'))
  | _ => s
section
variable {F : Fr} {s s' s1 s2 : SEnv} {env env' env1 : DEnv} {h h' : Hh} {i j p : Nat} {o o' : O} {d : D}
theorem Sat.app (S : Sat F s env h) (g : Hh) : Sat F s env (h ++ g) where
  len := S.len
  le := by have := S.le; simp; omega
  keep := fun j a b => by rw [List.getElem?_append_left (by have := S.le; omega)]; exact S.keep j a b
  val := S.val
  cell := fun i o x => by
    obtain ⟨p, e, q⟩ := S.cell i o x
    exact ⟨p, e, by rw [List.getElem?_append_left (List.getElem?_eq_some_iff.mp q).1]; exact q⟩
  own := S.own
  bor := S.bor
  sep := S.sep
  hid := fun i p o e => by
    have a := S.hid i p o e
    rw [List.getElem?_append_left (List.getElem?_eq_some_iff.mp a).1]; exact a
  hsep := S.hsep
  hcs := S.hcs
theorem hs_set_v {i j : Nat} {x : Option Sl} {o : O} (h : Hs (s.set i x) j o) (n : i ≠ j) : Hs s j o := by
  unfold Hs at h ⊢
  rw [List.getElem?_set_ne n] at h
  exact h
theorem set_get {α : Type} {l : List α} {i : Nat} {x y : α} (h : (l.set i x)[i]? = some y) : y = x ∧ i < l.length := by
  by_cases hl : i < l.length
  · rw [List.getElem?_set_self hl] at h; exact ⟨(Option.some.inj h).symm, hl⟩
  · rw [List.getElem?_eq_none (by rw [List.length_set]; omega)] at h; cases h
theorem hs_set_plain {i j : Nat} {x : Option Sl} {o : O} (hx : x = none ∨ ∃ d, x = some (.v d)) (h : Hs (s.set i x) j o) : i ≠ j := by
  intro e
  subst e
  rcases h with h | ⟨p, h⟩
  · have := (set_get h).1
    rcases hx with hx | ⟨d, hx⟩ <;> rw [hx] at this <;> cases this
  · have := (set_get h).1
    rcases hx with hx | ⟨d, hx⟩ <;> rw [hx] at this <;> cases this
theorem hid_set {i j p : Nat} {x : Option Sl} {o : O} (hx : ∀ q u, x ≠ some (.hid q u)) (h : (s.set i x)[j]? = some (some (Sl.hid p o))) : i ≠ j ∧ s[j]? = some (some (Sl.hid p o)) := by
  by_cases n : i = j
  · subst n
    exact absurd (set_get h).1.symm (hx p o)
  · rw [List.getElem?_set_ne n] at h; exact ⟨n, h⟩
theorem Sat.setV (S : Sat F s env h) (i : Nat) (d : D) : Sat F (s.set i (some (Sl.v d))) (env.set i (some d)) h where
  len := by simp [S.len]
  le := S.le
  keep := S.keep
  val := fun j d' e => by
    by_cases hj : i = j
    · subst hj
      obtain ⟨e1, hl⟩ := set_get e
      cases e1
      rw [List.getElem?_set_self (by rw [S.len]; exact hl)]
    · rw [List.getElem?_set_ne hj] at e ⊢
      exact S.val j d' e
  cell := fun j o x => by
    have n := hs_set_plain (.inr ⟨d, rfl⟩) x
    obtain ⟨p, e, q⟩ := S.cell j o (hs_set_v x n)
    exact ⟨p, by rw [List.getElem?_set_ne n]; exact e, q⟩
  own := fun j o p e q => by
    have n := hs_set_plain (.inr ⟨d, rfl⟩) (Or.inl e : Hs _ j o)
    rw [List.getElem?_set_ne n] at e q
    exact S.own j o p e q
  bor := fun j p o e => by
    have n := hs_set_plain (.inr ⟨d, rfl⟩) (Or.inr ⟨p, e⟩ : Hs _ j o)
    rw [List.getElem?_set_ne n] at e ⊢
    exact S.bor j p o e
  sep := fun j k o o' p n a b e q => by
    have n1 := hs_set_plain (.inr ⟨d, rfl⟩) a
    have n2 := hs_set_plain (.inr ⟨d, rfl⟩) b
    rw [List.getElem?_set_ne n1] at e
    rw [List.getElem?_set_ne n2] at q
    exact S.sep j k o o' p n (hs_set_v a n1) (hs_set_v b n2) e q
  hid := fun j p o e => S.hid j p o (hid_set (fun _ _ z => by cases z) e).2
  hsep := fun j k p o o' n a b => S.hsep j k p o o' n (hid_set (fun _ _ z => by cases z) a).2 (hid_set (fun _ _ z => by cases z) b).2
  hcs := fun j k p o o' a e b => by
    have n1 := hs_set_plain (.inr ⟨d, rfl⟩) a
    rw [List.getElem?_set_ne n1] at e
    exact S.hcs j k p o o' (hs_set_v a n1) e (hid_set (fun _ _ z => by cases z) b).2
theorem Sat.setN (S : Sat F s env h) (i : Nat) : Sat F (s.set i none) (env.set i none) h where
  len := by simp [S.len]
  le := S.le
  keep := S.keep
  val := fun j d' e => by
    by_cases hj : i = j
    · subst hj
      obtain ⟨e1, hl⟩ := set_get e
      cases e1
    · rw [List.getElem?_set_ne hj] at e ⊢
      exact S.val j d' e
  cell := fun j o x => by
    have n := hs_set_plain (.inl rfl) x
    obtain ⟨p, e, q⟩ := S.cell j o (hs_set_v x n)
    exact ⟨p, by rw [List.getElem?_set_ne n]; exact e, q⟩
  own := fun j o p e q => by
    have n := hs_set_plain (.inl rfl) (Or.inl e : Hs _ j o)
    rw [List.getElem?_set_ne n] at e q
    exact S.own j o p e q
  bor := fun j p o e => by
    have n := hs_set_plain (.inl rfl) (Or.inr ⟨p, e⟩ : Hs _ j o)
    rw [List.getElem?_set_ne n] at e ⊢
    exact S.bor j p o e
  sep := fun j k o o' p n a b e q => by
    have n1 := hs_set_plain (.inl rfl) a
    have n2 := hs_set_plain (.inl rfl) b
    rw [List.getElem?_set_ne n1] at e
    rw [List.getElem?_set_ne n2] at q
    exact S.sep j k o o' p n (hs_set_v a n1) (hs_set_v b n2) e q
  hid := fun j p o e => S.hid j p o (hid_set (fun _ _ z => by cases z) e).2
  hsep := fun j k p o o' n a b => S.hsep j k p o o' n (hid_set (fun _ _ z => by cases z) a).2 (hid_set (fun _ _ z => by cases z) b).2
  hcs := fun j k p o o' a e b => by
    have n1 := hs_set_plain (.inl rfl) a
    rw [List.getElem?_set_ne n1] at e
    exact S.hcs j k p o o' (hs_set_v a n1) e (hid_set (fun _ _ z => by cases z) b).2
/-- a new thing is laid for a name -/
theorem Sat.setO (S : Sat F s env h) (i : Nat) (o : O) : Sat F (s.set i (some (Sl.own o))) (env.set i (some (D.ref h.length))) (h ++ [o]) := by
  have S' := S.app [o]
  have low : ∀ j o' p, Hs s j o' → env[j]? = some (some (D.ref p)) → p < h.length := fun j o' p x e => by
    obtain ⟨q, e1, e2⟩ := S.cell j o' x
    rw [e] at e1
    cases e1
    exact (List.getElem?_eq_some_iff.mp e2).1
  have self : ∀ j o', Hs (s.set i (some (Sl.own o))) j o' → i = j → o' = o ∧ (env.set i (some (D.ref h.length)))[j]? = some (some (D.ref h.length)) := fun j o' x e => by
    subst e
    rcases x with x | ⟨p, x⟩
    · obtain ⟨e1, hl⟩ := set_get x
      cases e1
      exact ⟨rfl, List.getElem?_set_self (by rw [S.len]; exact hl)⟩
    · have := (set_get x).1; cases this
  exact {
  len := by simp [S.len]
  le := S'.le
  keep := S'.keep
  val := fun j d' e => by
    by_cases hj : i = j
    · subst hj
      have := (set_get e).1; cases this
    · rw [List.getElem?_set_ne hj] at e ⊢
      exact S.val j d' e
  cell := fun j o' x => by
    by_cases hj : i = j
    · obtain ⟨rfl, e⟩ := self j o' x hj
      exact ⟨h.length, e, by simp⟩
    · obtain ⟨p, e, q⟩ := S'.cell j o' (hs_set_v x hj)
      exact ⟨p, by rw [List.getElem?_set_ne hj]; exact e, q⟩
  own := fun j o' p e q => by
    by_cases hj : i = j
    · obtain ⟨rfl, e1⟩ := self j o' (.inl e) hj
      rw [e1] at q
      cases q
      exact S.le
    · rw [List.getElem?_set_ne hj] at e q
      exact S.own j o' p e q
  bor := fun j p o' e => by
    by_cases hj : i = j
    · subst hj
      have := (set_get e).1; cases this
    · rw [List.getElem?_set_ne hj] at e ⊢
      exact S.bor j p o' e
  sep := fun j k a b p n x y e q => by
    by_cases hj : i = j
    · obtain ⟨_, e1⟩ := self j a x hj
      rw [e1] at e
      cases e
      have hk : i ≠ k := fun z => n (hj.symm.trans z)
      rw [List.getElem?_set_ne hk] at q
      exact absurd (low k b _ (hs_set_v y hk) q) (Nat.lt_irrefl _)
    · by_cases hk : i = k
      · obtain ⟨_, e1⟩ := self k b y hk
        rw [e1] at q
        cases q
        rw [List.getElem?_set_ne hj] at e
        exact absurd (low j a _ (hs_set_v x hj) e) (Nat.lt_irrefl _)
      · rw [List.getElem?_set_ne hj] at e
        rw [List.getElem?_set_ne hk] at q
        exact S.sep j k a b p n (hs_set_v x hj) (hs_set_v y hk) e q
  hid := fun j p o' e => S'.hid j p o' (hid_set (fun _ _ z => by cases z) e).2
  hsep := fun j k p a b n x y => S.hsep j k p a b n (hid_set (fun _ _ z => by cases z) x).2 (hid_set (fun _ _ z => by cases z) y).2
  hcs := fun j k p a b x e y => by
    have y' := (hid_set (fun _ _ z => by cases z) y).2
    by_cases hj : i = j
    · obtain ⟨_, e1⟩ := self j a x hj
      rw [e1] at e
      cases e
      have := (List.getElem?_eq_some_iff.mp (S.hid k _ b y')).1
      exact absurd this (Nat.lt_irrefl _)
    · rw [List.getElem?_set_ne hj] at e
      exact S.hcs j k p a b (hs_set_v x hj) e y' }
theorem chS_own (h : s[i]? = some (some (Sl.own o))) : chS s i o' = s.set i (some (.own o')) := by unfold chS; rw [h]
theorem chS_bor (h : s[i]? = some (some (Sl.bor p o))) : chS s i o' = s.set i (some (.bor p o')) := by unfold chS; rw [h]
/-- a thing is changed -/
theorem Sat.change (S : Sat F s env h) (x : Hs s i o) (e : env[i]? = some (some (D.ref p))) (o' : O) : Sat F (chS s i o') env (h.set p o') := by
  have hp : p < h.length := by
    obtain ⟨q, e1, e2⟩ := S.cell i o x
    rw [e] at e1; cases e1
    exact (List.getElem?_eq_some_iff.mp e2).1
  have hi : i < s.length := by
    rcases x with x | ⟨_, x⟩ <;> exact (List.getElem?_eq_some_iff.mp x).1
  obtain ⟨c, hc, hcc⟩ : ∃ c, chS s i o' = s.set i (some c) ∧ (c = .own o' ∧ s[i]? = some (some (Sl.own o)) ∨ ∃ q, c = .bor q o' ∧ s[i]? = some (some (Sl.bor q o))) := by
    rcases x with x | ⟨q, x⟩
    · exact ⟨_, chS_own x, .inl ⟨rfl, x⟩⟩
    · exact ⟨_, chS_bor x, .inr ⟨q, rfl, x⟩⟩
  rw [hc]
  have self : ∀ j a, Hs (s.set i (some c)) j a → i = j → a = o' := fun j a y z => by
    subst z
    rcases y with y | ⟨q, y⟩
    · have e1 := (set_get y).1
      rcases hcc with ⟨hcc, _⟩ | ⟨q, hcc, _⟩
      · rw [hcc] at e1; cases e1; rfl
      · rw [hcc] at e1; cases e1
    · have e1 := (set_get y).1
      rcases hcc with ⟨hcc, _⟩ | ⟨q, hcc, _⟩
      · rw [hcc] at e1; cases e1
      · rw [hcc] at e1; cases e1; rfl
  have back : ∀ j a, Hs (s.set i (some c)) j a → ∃ a', Hs s j a' := fun j a y => by
    by_cases hj : i = j
    · subst hj; exact ⟨o, x⟩
    · exact ⟨a, hs_set_v y hj⟩
  exact {
  len := by rw [S.len, List.length_set]
  le := by rw [List.length_set]; exact S.le
  keep := fun j a b => by
    have hj : p ≠ j := by
      rcases hcc with ⟨_, z⟩ | ⟨q, _, z⟩
      · have := S.own i o p z e; omega
      · obtain ⟨z1, z2, z3⟩ := S.bor i q o z
        rw [e] at z1
        cases z1
        intro z4
        subst z4
        exact b z3
    rw [List.getElem?_set_ne hj]
    exact S.keep j a b
  val := fun j d' e' => by
    by_cases hj : i = j
    · subst hj
      have e1 := (set_get e').1
      rcases hcc with ⟨hcc, _⟩ | ⟨q, hcc, _⟩ <;> rw [hcc] at e1 <;> cases e1
    · rw [List.getElem?_set_ne hj] at e'
      exact S.val j d' e'
  cell := fun j a y => by
    by_cases hj : i = j
    · have ea := self j a y hj
      subst hj
      subst ea
      exact ⟨p, e, List.getElem?_set_self hp⟩
    · obtain ⟨q, e1, e2⟩ := S.cell j a (hs_set_v y hj)
      refine ⟨q, e1, ?_⟩
      rw [List.getElem?_set_ne]
      · exact e2
      · intro z
        subst z
        exact S.sep i j o a p hj x (hs_set_v y hj) e e1
  own := fun j a q y z => by
    by_cases hj : i = j
    · subst hj
      rw [e] at z
      cases z
      have e1 := (set_get y).1
      rcases hcc with ⟨hcc, w⟩ | ⟨q, hcc, _⟩
      · exact S.own i o p w e
      · rw [hcc] at e1; cases e1
    · rw [List.getElem?_set_ne hj] at y
      exact S.own j a q y z
  bor := fun j q a y => by
    by_cases hj : i = j
    · subst hj
      have e1 := (set_get y).1
      rcases hcc with ⟨hcc, w⟩ | ⟨q', hcc, w⟩
      · rw [hcc] at e1; cases e1
      · rw [hcc] at e1; cases e1
        exact S.bor i q o w
    · rw [List.getElem?_set_ne hj] at y
      exact S.bor j q a y
  sep := fun j k a b q n y z e1 e2 => by
    obtain ⟨a', y'⟩ := back j a y
    obtain ⟨b', z'⟩ := back k b z
    exact S.sep j k a' b' q n y' z' e1 e2
  hid := fun j q a y => by
    have y' := (hid_set (fun _ _ w => by rcases hcc with ⟨w2, _⟩ | ⟨_, w2, _⟩ <;> rw [w2] at w <;> cases w) y).2
    have b := S.hid j q a y'
    rw [List.getElem?_set_ne (fun w => by subst w; exact S.hcs i j p o a x e y')]; exact b
  hsep := fun j k q a b n y z => by
    have y' := (hid_set (fun _ _ w => by rcases hcc with ⟨w2, _⟩ | ⟨_, w2, _⟩ <;> rw [w2] at w <;> cases w) y).2
    have z' := (hid_set (fun _ _ w => by rcases hcc with ⟨w2, _⟩ | ⟨_, w2, _⟩ <;> rw [w2] at w <;> cases w) z).2
    exact S.hsep j k q a b n y' z'
  hcs := fun j k q a b y e1 z => by
    obtain ⟨a', y'⟩ := back j a y
    have z' := (hid_set (fun _ _ w => by rcases hcc with ⟨w2, _⟩ | ⟨_, w2, _⟩ <;> rw [w2] at w <;> cases w) z).2
    exact S.hcs j k q a' b y' e1 z' }

/-- less is known -/
inductive Weak : SEnv → SEnv → Prop where
  | nil : Weak [] []
  | same {x : Option Sl} {a b : SEnv} : Weak a b → Weak (x :: a) (x :: b)
  | drop {x : Option Sl} {a b : SEnv} : Weak a b → Weak (x :: a) (none :: b)
theorem Weak.refl : ∀ s : SEnv, Weak s s
  | [] => .nil
  | _ :: s => .same (Weak.refl s)
theorem Weak.len : ∀ {a b : SEnv}, Weak a b → a.length = b.length
  | _, _, .nil => rfl
  | _, _, .same w => by simp [w.len]
  | _, _, .drop w => by simp [w.len]
theorem Weak.get : ∀ {a b : SEnv}, Weak a b → ∀ {i : Nat} {c : Sl}, b[i]? = some (some c) → a[i]? = some (some c)
  | _, _, .nil, i, c, h => by simp at h
  | _, _, .same w, 0, c, h => h
  | _, _, .same w, i + 1, c, h => by
    simp only [List.getElem?_cons_succ] at h ⊢
    exact w.get h
  | _, _, .drop w, 0, c, h => by simp at h
  | _, _, .drop w, i + 1, c, h => by
    simp only [List.getElem?_cons_succ] at h ⊢
    exact w.get h
theorem Weak.hs (w : Weak s s') (x : Hs s' i o) : Hs s i o := by
  rcases x with x | ⟨p, x⟩
  · exact .inl (w.get x)
  · exact .inr ⟨p, w.get x⟩
theorem Sat.weak (S : Sat F s env h) (w : Weak s s') : Sat F s' env h where
  len := by rw [S.len, w.len]
  le := S.le
  keep := S.keep
  val := fun i d e => S.val i d (w.get e)
  cell := fun i o x => S.cell i o (w.hs x)
  own := fun i o p e q => S.own i o p (w.get e) q
  bor := fun i p o e => S.bor i p o (w.get e)
  sep := fun i j o o' p n x y e q => S.sep i j o o' p n (w.hs x) (w.hs y) e q
  hid := fun i p o e => S.hid i p o (w.get e)
  hsep := fun i j p o o' n x y => S.hsep i j p o o' n (w.get x) (w.get y)
  hcs := fun i j p o o' x e y => S.hcs i j p o o' (w.hs x) e (w.get y)
/-- back from a comprehension -/
theorem Sat.back (S : Sat F s env h) (S1 : Sat F s1 env1 h') (hl : s'.length = s.length) (hv : ∀ (i : Nat) (d : D), s'[i]? = some (some (Sl.v d)) → s[i]? = some (some (Sl.v d)))
    (ho : ∀ (i : Nat) (c : Sl), s'[i]? = some (some c) → (∀ d, c ≠ Sl.v d) → s1[i]? = some (some c) ∧ env1[i]? = env[i]?) : Sat F s' env h' where
  len := by rw [S.len, hl]
  le := S1.le
  keep := S1.keep
  val := fun i d e => S.val i d (hv i d e)
  cell := fun i o x => by
    rcases x with x | ⟨p, x⟩
    · obtain ⟨a, b⟩ := ho i _ x (fun d z => nomatch z)
      obtain ⟨q, e1, e2⟩ := S1.cell i o (.inl a)
      exact ⟨q, by rw [← b]; exact e1, e2⟩
    · obtain ⟨a, b⟩ := ho i _ x (fun d z => nomatch z)
      obtain ⟨q, e1, e2⟩ := S1.cell i o (.inr ⟨p, a⟩)
      exact ⟨q, by rw [← b]; exact e1, e2⟩
  own := fun i o p x q => by
    obtain ⟨a, b⟩ := ho i _ x (fun d z => nomatch z)
    exact S1.own i o p a (by rw [b]; exact q)
  bor := fun i p o x => by
    obtain ⟨a, b⟩ := ho i _ x (fun d z => nomatch z)
    rw [← b]
    exact S1.bor i p o a
  sep := fun i j o o' p n x y e q => by
    have f : ∀ k a, Hs s' k a → Hs s1 k a ∧ env1[k]? = env[k]? := fun k a z => by
      rcases z with z | ⟨r, z⟩
      · obtain ⟨u, w⟩ := ho k _ z (fun d z => nomatch z); exact ⟨.inl u, w⟩
      · obtain ⟨u, w⟩ := ho k _ z (fun d z => nomatch z); exact ⟨.inr ⟨r, u⟩, w⟩
    obtain ⟨x1, x2⟩ := f i o x
    obtain ⟨y1, y2⟩ := f j o' y
    exact S1.sep i j o o' p n x1 y1 (by rw [x2]; exact e) (by rw [y2]; exact q)
  hid := fun i p o x => S1.hid i p o (ho i _ x (fun d z => nomatch z)).1
  hsep := fun i j p o o' n x y => S1.hsep i j p o o' n (ho i _ x (fun d z => nomatch z)).1 (ho j _ y (fun d z => nomatch z)).1
  hcs := fun i j p o o' x e y => by
    have g : Hs s1 i o ∧ env1[i]? = env[i]? := by
      rcases x with z | ⟨r, z⟩
      · obtain ⟨u, w⟩ := ho i _ z (fun d z => nomatch z); exact ⟨.inl u, w⟩
      · obtain ⟨u, w⟩ := ho i _ z (fun d z => nomatch z); exact ⟨.inr ⟨r, u⟩, w⟩
    exact S1.hcs i j p o o' g.1 (by rw [g.2]; exact e) (ho j _ y (fun d z => nomatch z)).1
end

def QX (F : Fr) (s : SEnv) (m : ME) (d : D) (s' : SEnv) : Prop := ∀ env h, Sat F s env h → ∃ h', m env h = .ok d h' ∧ Sat F s' env h'
def QT (F : Fr) (s : SEnv) (m : MT) (b : Bool) (s' : SEnv) : Prop := ∀ env h, Sat F s env h → ∃ h', m env h = .ok b h' ∧ Sat F s' env h'
def QA (F : Fr) (s : SEnv) (m : MA) (ds : List D) (s' : SEnv) : Prop := ∀ env h, Sat F s env h → ∃ h', m env h = .ok ds h' ∧ Sat F s' env h'
def QI (F : Fr) (s : SEnv) (m : MI) (ds : List D) (s' : SEnv) : Prop := ∀ env h, Sat F s env h → ∃ h', m env h = .ok ⟨ds, none⟩ h' ∧ Sat F s' env h'
def QB (T : Tg) (d : D) (s s' : SEnv) : Prop := ∀ F env h, Sat F s env h → ∃ env', bindT T d env = some env' ∧ Sat F s' env' h
section
variable {F : Fr} {s s' s1 s2 s3 : SEnv} {A B : ME} {d d1 d2 d3 : D} {i : Nat} {o : O}
theorem q_slot (i : Nat) (e : s[i]? = some (some (Sl.v d)) := by rfl) : QX F s (eSlot i) d s := fun env h S => ⟨h, by
  unfold eSlot
  rw [S.val i d e], S⟩
theorem q_c : QX F s (eC d) d s := fun env h S => ⟨h, rfl, S⟩
theorem q_op2 {f : Op2} (hA : QX F s A d1 s1) (hB : QX F s1 B d2 s2) (ho : ∀ h, f d1 d2 h = some d3) : QX F s (eOp2 f A B) d3 s2 := fun env h S => by
  obtain ⟨h1, e1, S1⟩ := hA env h S
  obtain ⟨h2, e2, S2⟩ := hB env h1 S1
  refine ⟨h2, ?_, S2⟩
  unfold eOp2
  rw [e1, bind_ok, e2, bind_ok, ho]
  rfl
/-- the thing in a slot first -/
theorem q_op2L {f : Op2} (hx : Hs s1 i o) (hB : QX F s B d2 s1) (hs : Hs s i o ∨ ∃ o', Hs s i o') (ho : ∀ h p, h[p]? = some o → f (.ref p) d2 h = some d3) : QX F s (eOp2 f (eSlot i) B) d3 s1 := fun env h S => by
  obtain ⟨o', hs⟩ : ∃ o', Hs s i o' := by rcases hs with hs | hs; exact ⟨o, hs⟩; exact hs
  obtain ⟨p, e, _⟩ := S.cell i o' hs
  obtain ⟨h1, e1, S1⟩ := hB env h S
  obtain ⟨p', e2, e3⟩ := S1.cell i o hx
  rw [e] at e2
  cases e2
  refine ⟨h1, ?_, S1⟩
  unfold eOp2 eSlot
  rw [e]
  show (B env h).bind _ = _
  rw [e1, bind_ok, ho h1 p e3]
  rfl
theorem qa_nil : QA F s aNil [] s := fun env h S => ⟨h, rfl, S⟩
theorem qa_cons {ms : MA} {ds : List D} (hA : QX F s A d s1) (hB : QA F s1 ms ds s2) : QA F s (aCons A ms) (d :: ds) s2 := fun env h S => by
  obtain ⟨h1, e1, S1⟩ := hA env h S
  obtain ⟨h2, e2, S2⟩ := hB env h1 S1
  exact ⟨h2, by unfold aCons; rw [e1, bind_ok, e2, bind_ok], S2⟩
theorem q_opN {f : OpN} {ms : MA} {ds : List D} (hA : QA F s ms ds s1) (ho : ∀ h, f ds h = some d) : QX F s (eOpN f ms) d s1 := fun env h S => by
  obtain ⟨h1, e1, S1⟩ := hA env h S
  exact ⟨h1, by unfold eOpN; rw [e1, bind_ok, ho]; rfl, S1⟩
/-- a function of the thing in a slot -/
theorem q_opN1 {f : OpN} (hx : Hs s i o) (ho : ∀ h p, h[p]? = some o → f [.ref p] h = some d) : QX F s (eOpN f (aCons (eSlot i) aNil)) d s := fun env h S => by
  obtain ⟨p, e2, e3⟩ := S.cell i o hx
  refine ⟨h, ?_, S⟩
  unfold eOpN aCons eSlot aNil
  rw [e2]
  show lift (f [.ref p] h) h = _
  rw [ho h p e3]
  rfl
theorem q_tup {ms : MA} {ds : List D} (hA : QA F s ms ds s1) : QX F s (eTup ms) (.tup ds) s1 := fun env h S => by
  obtain ⟨h1, e1, S1⟩ := hA env h S
  exact ⟨h1, by unfold eTup; rw [e1, bind_ok], S1⟩
theorem q_frz {ms : MA} {ds : List D} (hA : QA F s ms ds s1) : QX F s (eFrz ms) (.lst ds) s1 := fun env h S => by
  obtain ⟨h1, e1, S1⟩ := hA env h S
  exact ⟨h1, by unfold eFrz; rw [e1, bind_ok], S1⟩
/-- tests -/
theorem qt_e {b : Bool} (hA : QX F s A (.bl b) s1) : QT F s (tE A) b s1 := fun env h S => by
  obtain ⟨h1, e1, S1⟩ := hA env h S
  exact ⟨h1, by unfold tE; rw [e1, bind_ok]; rfl, S1⟩
variable {a b : MT} {p q : Bool}
theorem qt_or (ha : QT F s a p s1) (hb : p = false → QT F s1 b q s1) : QT F s (tOr a b) (p || q) s1 := fun env h S => by
  obtain ⟨h1, e1, S1⟩ := ha env h S
  cases p with
  | false =>
    obtain ⟨h2, e2, S2⟩ := hb rfl env h1 S1
    exact ⟨h2, by unfold tOr; rw [e1, bind_ok, if_neg (by decide), e2]; rfl, S2⟩
  | true => exact ⟨h1, by unfold tOr; rw [e1, bind_ok]; rfl, S1⟩
theorem qt_not (ha : QT F s a p s1) : QT F s (tNot a) (!p) s1 := fun env h S => by
  obtain ⟨h1, e1, S1⟩ := ha env h S
  exact ⟨h1, by unfold tNot; rw [e1, bind_ok], S1⟩
theorem q_and (hA : QX F s A (.bl p) s1) (hB : p = true → QX F s1 B (.bl q) s1) : QX F s (eAnd A B) (.bl (p && q)) s1 := fun env h S => by
  obtain ⟨h1, e1, S1⟩ := hA env h S
  cases p with
  | true =>
    obtain ⟨h2, e2, S2⟩ := hB rfl env h1 S1
    exact ⟨h2, by unfold eAnd; rw [e1, bind_ok]; show B env h1 = _; rw [e2]; rfl, S2⟩
  | false => exact ⟨h1, by unfold eAnd; rw [e1, bind_ok]; rfl, S1⟩
theorem q_or (hA : QX F s A (.bl p) s1) (hB : p = false → QX F s1 B (.bl q) s1) : QX F s (eOr A B) (.bl (p || q)) s1 := fun env h S => by
  obtain ⟨h1, e1, S1⟩ := hA env h S
  cases p with
  | false =>
    obtain ⟨h2, e2, S2⟩ := hB rfl env h1 S1
    exact ⟨h2, by unfold eOr; rw [e1, bind_ok]; show B env h1 = _; rw [e2]; rfl, S2⟩
  | true => exact ⟨h1, by unfold eOr; rw [e1, bind_ok]; rfl, S1⟩
theorem q_not (hA : QX F s A (.bl p) s1) : QX F s (eNot A) (.bl (!p)) s1 := fun env h S => by
  obtain ⟨h1, e1, S1⟩ := hA env h S
  exact ⟨h1, by unfold eNot; rw [e1, bind_ok]; rfl, S1⟩
variable {C : ME}
theorem q_chain {f g : Op2} (hA : QX F s A d1 s1) (hB : QX F s1 B d2 s2) (hC : p = true → QX F s2 C d3 s2) (ho : ∀ h, f d1 d2 h = some (.bl p)) (ho2 : ∀ h, g d2 d3 h = some (.bl q)) : QX F s (eChain f g A B C) (.bl (p && q)) s2 := fun env h S => by
  obtain ⟨h1, e1, S1⟩ := hA env h S
  obtain ⟨h2, e2, S2⟩ := hB env h1 S1
  cases p with
  | true =>
    obtain ⟨h3, e3, S3⟩ := hC rfl env h2 S2
    refine ⟨h3, ?_, S3⟩
    unfold eChain
    rw [e1, bind_ok, e2, bind_ok, ho]
    show (C env h2).bind _ = _
    rw [e3, bind_ok, ho2]
    rfl
  | false =>
    refine ⟨h2, ?_, S2⟩
    unfold eChain
    rw [e1, bind_ok, e2, bind_ok, ho]
    rfl
/-- a method that changes the thing in a slot -/
theorem q_methS {ok : D → Hh → Bool} {f : OpM} {ms : MA} {ds : List D} {o' : O} (hB : QA F s ms ds s1) (hx0 : ∃ o0, Hs s i o0) (hx : Hs s1 i o) (hk : ∀ h p o, h[p]? = some o → Hs s i o → ok (.ref p) h = true)
    (ho : ∀ h p, h[p]? = some o → f (.ref p) ds h = some (d, h.set p o')) : QX F s (eMeth ok f (eSlot i) ms) d (chS s1 i o') := fun env h S => by
  obtain ⟨o0, hx0⟩ := hx0
  obtain ⟨p, e, e0⟩ := S.cell i o0 hx0
  obtain ⟨h1, e1, S1⟩ := hB env h S
  obtain ⟨p', e2, e3⟩ := S1.cell i o hx
  rw [e] at e2
  cases e2
  refine ⟨h1.set p o', ?_, S1.change hx e o'⟩
  unfold eMeth eSlot
  rw [e]
  show (if ok (.ref p) h = true then _ else _) = _
  rw [if_pos (hk h p o0 e0 hx0), e1, bind_ok, ho h1 p e3]
  rfl
/-- a call of a def that leaves all as it was -/
theorem q_call {G : MF} {ms : MA} {ds : List D} (hA : QA F s ms ds s1) (ho : ∀ h, G ds h = .ok d h) : QX F s (eCall G ms) d s1 := fun env h S => by
  obtain ⟨h1, e1, S1⟩ := hA env h S
  exact ⟨h1, by unfold eCall; rw [e1, bind_ok, ho], S1⟩
end
end MR

namespace MR
open PySem PySem.Spec PyProof.Rows L2

/-- the words of this program -/
inductive Wd where
  | rows | readers | writers | turns | passes | out | reads | rising | writes | raised | read | write | up | down | leave | stop | tick | steps | in_ | waits | no | ends | starves | within | never | alike | parts
  deriving DecidableEq, Inhabited
def Wd.val : Wd → Str
  | .rows => "rows" | .readers => "readers" | .writers => "writers" | .turns => "turns" | .passes => "passes" | .out => "out" | .reads => "reads" | .rising => "rising" | .writes => "writes" | .raised => "raised"
  | .read => "read" | .write => "write" | .up => "up" | .down => "down" | .leave => "leave" | .stop => "stop" | .tick => "tick" | .steps => "steps" | .in_ => "in" | .waits => "waits" | .no => "no" | .ends => "ends"
  | .starves => "starves" | .within => "within" | .never => "never" | .alike => "alike" | .parts => "parts"
def Wd.all : List Wd := [.rows, .readers, .writers, .turns, .passes, .out, .reads, .rising, .writes, .raised, .read, .write, .up, .down, .leave, .stop, .tick, .steps, .in_, .waits, .no, .ends, .starves, .within, .never, .alike, .parts]
def Wd.of (x : Str) : Option Wd := Wd.all.find? fun w => decide (w.val = x)
theorem Wd.of_val (w : Wd) : Wd.of w.val = some w := by cases w <;> decide +kernel
theorem Wd.val_inj {a b : Wd} (h : a.val = b.val) : a = b := by
  have := Wd.of_val a
  rw [h, Wd.of_val b] at this
  exact (Option.some.inj this).symm
theorem Wd.ok (w : Wd) : PyData.strOk w.val = true := by cases w <;> decide +kernel

def eN : Unit → D := fun _ => .non
def eW : Wd → D := fun w => .str w.val
section
variable {α β γ δ : Type}
def eO (e : α → D) : Option α → D := fun o => match o with | none => .non | some a => e a
def eS (e : α → D) : List α → D := fun l => .tup (l.map e)
def eL (e : α → D) : List α → D := fun l => .lst (l.map e)
def oL (e : α → D) : List α → O := fun l => .lst (l.map e)
def eT1 (a : α → D) : α → D := fun p => .tup [a p]
def eT2 (a : α → D) (b : β → D) : α × β → D := fun p => .tup [a p.1, b p.2]
def eT3 (a : α → D) (b : β → D) (c : γ → D) : α × β × γ → D := fun p => .tup [a p.1, b p.2.1, c p.2.2]
def eT4 (a : α → D) (b : β → D) (c : γ → D) (d : δ → D) : α × β × γ × δ → D := fun p => .tup [a p.1, b p.2.1, c p.2.2.1, d p.2.2.2]
end
/-- a deed -/
inductive Deed where
  | ask (w : Wd) (g : Int) (l : Option Int)
  | mov (w : Wd) (g : Int)
  | tick
  deriving DecidableEq, Inhabited
def eDd : Deed → D
  | .ask w g l => .tup [eW w, .int g, eO D.int l]
  | .mov w g => .tup [eW w, .int g]
  | .tick => .tup [eW .tick]
def Deed.word : Deed → Wd
  | .ask w _ _ => w
  | .mov w _ => w
  | .tick => .tick
def Deed.guest : Deed → Int
  | .ask _ g _ => g
  | .mov _ g => g
  | .tick => 0
def Deed.left : Deed → Option Int
  | .ask _ _ l => l
  | _ => none
def Deed.isTick : Deed → Bool
  | .tick => true
  | _ => false
def Deed.size : Deed → Int
  | .ask _ _ _ => 3
  | .mov _ _ => 2
  | .tick => 1

/-- an encoder without refs -/
class NR {α : Type} (e : α → D) : Prop where
  nr : ∀ a n, bel n (e a) = true
/-- never None -/
class NN {α : Type} (e : α → D) : Prop where
  nn : ∀ a h neg, isNO neg (e a) .non h = some (.bl neg)
/-- an encoder whose things are compared by value -/
class PyE {α : Type} [DecidableEq α] (e : α → D) where
  n : Nat
  py : α → PyData
  to : ∀ a, toPy (e a) = some (py a)
  lay : ∀ a, (py a).canLay0 = true
  dep : ∀ a, (py a).depth ≤ n
  eqv : ∀ a b, PyData.eqv (py a) (py b) = decide (a = b)
  nz : ∀ a, PyData.eqv PyData.none (py a) = false ∧ PyData.eqv (py a) PyData.none = false
section
variable {α β γ δ : Type}
theorem bels_map {e : α → D} [NR e] (n : Nat) : ∀ l : List α, bels n (l.map e) = true
  | [] => rfl
  | x :: xs => by rw [List.map_cons, bels, NR.nr x n, bels_map n xs]; rfl
instance : NR eN := ⟨fun _ _ => rfl⟩
instance : NR D.int := ⟨fun _ _ => rfl⟩
instance : NR D.bl := ⟨fun _ _ => rfl⟩
instance : NR D.str := ⟨fun _ _ => rfl⟩
instance : NR eW := ⟨fun _ _ => rfl⟩
instance {e : α → D} [NR e] : NR (eO e) := ⟨fun a n => by cases a with | none => rfl | some a => exact NR.nr a n⟩
instance {e : α → D} [NR e] : NR (eS e) := ⟨fun a n => by show bels n _ = true; exact bels_map n a⟩
instance {e : α → D} [NR e] : NR (eL e) := ⟨fun a n => by show bels n _ = true; exact bels_map n a⟩
instance {a : α → D} [NR a] : NR (eT1 a) := ⟨fun p n => by show bels n [_] = true; simp [bels, NR.nr (e := a)]⟩
instance {a : α → D} {b : β → D} [NR a] [NR b] : NR (eT2 a b) := ⟨fun p n => by show bels n [_, _] = true; simp [bels, NR.nr (e := a), NR.nr (e := b)]⟩
instance {a : α → D} {b : β → D} {c : γ → D} [NR a] [NR b] [NR c] : NR (eT3 a b c) := ⟨fun p n => by show bels n [_, _, _] = true; simp [bels, NR.nr (e := a), NR.nr (e := b), NR.nr (e := c)]⟩
instance {a : α → D} {b : β → D} {c : γ → D} {d : δ → D} [NR a] [NR b] [NR c] [NR d] : NR (eT4 a b c d) := ⟨fun p n => by show bels n [_, _, _, _] = true; simp [bels, NR.nr (e := a), NR.nr (e := b), NR.nr (e := c), NR.nr (e := d)]⟩
instance : NR eDd := ⟨fun a n => by
  cases a with
  | ask w g l => show bels n [_, _, _] = true; simp [bels, NR.nr (e := eW), NR.nr (e := eO D.int), bel]
  | mov w g => show bels n [_, _] = true; simp [bels, NR.nr (e := eW), bel]
  | tick => rfl⟩
instance : NN D.int := ⟨fun _ _ _ => rfl⟩
instance : NN D.bl := ⟨fun _ _ _ => rfl⟩
instance : NN D.str := ⟨fun _ _ _ => rfl⟩
instance : NN eW := ⟨fun _ _ _ => rfl⟩
instance {e : α → D} : NN (eS e) := ⟨fun _ _ _ => rfl⟩
instance {e : α → D} : NN (eL e) := ⟨fun _ _ _ => rfl⟩
instance {a : α → D} : NN (eT1 a) := ⟨fun _ _ _ => rfl⟩
instance {a : α → D} {b : β → D} : NN (eT2 a b) := ⟨fun _ _ _ => rfl⟩
instance {a : α → D} {b : β → D} {c : γ → D} : NN (eT3 a b c) := ⟨fun _ _ _ => rfl⟩
instance {a : α → D} {b : β → D} {c : γ → D} {d : δ → D} : NN (eT4 a b c d) := ⟨fun _ _ _ => rfl⟩
instance : NN eDd := ⟨fun a _ _ => by cases a <;> rfl⟩
instance pyE_int : PyE D.int := ⟨0, PyData.int, fun _ => rfl, fun _ => rfl, fun _ => Nat.le_refl _, fun a b => by show (a == b) = _; exact deq, fun a => ⟨rfl, rfl⟩⟩
instance pyE_bl : PyE D.bl := ⟨0, PyData.bool, fun _ => rfl, fun _ => rfl, fun _ => Nat.le_refl _, fun a b => by cases a <;> cases b <;> rfl, fun a => ⟨rfl, rfl⟩⟩
instance pyE_w : PyE eW := ⟨0, fun w => PyData.str w.val, fun _ => rfl, fun w => w.ok, fun _ => Nat.le_refl _, fun a b => by
  show (a.val == b.val) = _
  rw [deq]
  by_cases h : a = b
  · subst h; simp
  · rw [decide_eq_false h, decide_eq_false fun z => h (Wd.val_inj z)], fun a => ⟨rfl, rfl⟩⟩
/-- None or a thing -/
def pyOpt (f : α → PyData) : Option α → PyData
  | none => .none
  | some a => f a
/-- an encoder that may give None -/
class PyEO {α : Type} [DecidableEq α] (e : α → D) where
  n : Nat
  py : α → PyData
  to : ∀ a, toPy (e a) = some (py a)
  lay : ∀ a, (py a).canLay0 = true
  dep : ∀ a, (py a).depth ≤ n
  eqv : ∀ a b, PyData.eqv (py a) (py b) = decide (a = b)
variable [DecidableEq α] [DecidableEq β] [DecidableEq γ] [DecidableEq δ]
instance pyEO_of {e : α → D} [i : PyE e] : PyEO e := ⟨i.n, i.py, i.to, i.lay, i.dep, i.eqv⟩
instance pyEO_opt {e : α → D} [i : PyE e] : PyEO (eO e) := ⟨i.n, pyOpt i.py, fun a => by cases a with | none => rfl | some a => exact i.to a, fun a => by cases a with | none => rfl | some a => exact i.lay a,
  fun a => by cases a with | none => exact Nat.zero_le _ | some a => exact i.dep a, fun a b => by
  cases a with
  | none => cases b with
    | none => rfl
    | some b => exact (i.nz b).1
  | some a => cases b with
    | none => exact (i.nz a).2
    | some b =>
      show PyData.eqv (i.py a) (i.py b) = _
      rw [i.eqv]
      by_cases h : a = b
      · subst h; simp
      · rw [decide_eq_false h, decide_eq_false fun z => h (Option.some.inj z)]⟩
theorem toPys_map {e : α → D} [i : PyEO e] : ∀ l : List α, toPys (l.map e) = some (l.map i.py)
  | [] => rfl
  | x :: xs => by rw [List.map_cons, toPys, i.to x, toPys_map xs]; rfl
theorem lay_map {e : α → D} [i : PyEO e] : ∀ l : List α, PyData.canLayAll0 (l.map i.py) = true
  | [] => rfl
  | x :: xs => by rw [List.map_cons, PyData.canLayAll0, i.lay x, lay_map xs]; rfl
theorem dep_map {e : α → D} [i : PyEO e] : ∀ l : List α, PyData.depthAll (l.map i.py) ≤ i.n + 1
  | [] => by rw [List.map_nil, PyData.depthAll]; omega
  | x :: xs => by rw [List.map_cons, PyData.depthAll]; have := i.dep x; have := dep_map (e := e) xs; omega
theorem eqv_map {e : α → D} [i : PyEO e] : ∀ l m : List α, PyData.eqvAll (l.map i.py) (m.map i.py) = decide (l = m)
  | [], [] => rfl
  | [], y :: ys => rfl
  | x :: xs, [] => rfl
  | x :: xs, y :: ys => by
    rw [List.map_cons, List.map_cons, PyData.eqvAll, i.eqv x y, eqv_map xs ys]
    by_cases h1 : x = y
    · subst h1
      by_cases h2 : xs = ys
      · subst h2; simp
      · simp [h2]
    · simp [h1]
instance pyE_seq {e : α → D} [i : PyEO e] : PyE (eS e) := ⟨i.n + 2, fun l => .tuple (l.map i.py), fun l => by show (toPys (l.map e)).map PyData.tuple = _; rw [toPys_map]; rfl, fun l => by rw [PyData.canLay0]; exact lay_map l,
  fun l => by rw [PyData.depth]; have := dep_map (e := e) l; omega, fun l m => by rw [PyData.eqv]; exact eqv_map l m, fun l => ⟨rfl, rfl⟩⟩
instance pyE_lst {e : α → D} [i : PyEO e] : PyE (eL e) := ⟨i.n + 2, fun l => .list (l.map i.py), fun l => by show (toPys (l.map e)).map PyData.list = _; rw [toPys_map]; rfl, fun l => by rw [PyData.canLay0]; exact lay_map l,
  fun l => by rw [PyData.depth]; have := dep_map (e := e) l; omega, fun l m => by rw [PyData.eqv]; exact eqv_map l m, fun l => ⟨rfl, rfl⟩⟩
theorem dec_and {p q r : Prop} [Decidable p] [Decidable q] [Decidable r] (h : r ↔ p ∧ q) : (decide p && decide q) = decide r := by
  by_cases hp : p <;> by_cases hq : q <;> simp [hp, hq, h]
instance pyE_t1 {a : α → D} [i : PyEO a] : PyE (eT1 a) := ⟨i.n + 1, fun p => .tuple [i.py p], fun p => by show (toPys [_]).map _ = _; simp [toPys, i.to], fun p => by simp [PyData.canLay0, PyData.canLayAll0, i.lay],
  fun p => by simp only [PyData.depth, PyData.depthAll]; have := i.dep p; omega, fun p q => by simp [PyData.eqv, PyData.eqvAll, i.eqv], fun l => ⟨rfl, rfl⟩⟩
instance pyE_t2 {a : α → D} {b : β → D} [i : PyEO a] [j : PyEO b] : PyE (eT2 a b) := ⟨i.n + j.n + 1, fun p => .tuple [i.py p.1, j.py p.2], fun p => by show (toPys [_, _]).map _ = _; simp [toPys, i.to, j.to], fun p => by simp [PyData.canLay0, PyData.canLayAll0, i.lay, j.lay],
  fun p => by simp only [PyData.depth, PyData.depthAll]; have := i.dep p.1; have := j.dep p.2; omega, fun p q => by
    obtain ⟨p1, p2⟩ := p; obtain ⟨q1, q2⟩ := q
    simp only [PyData.eqv, PyData.eqvAll, i.eqv, j.eqv, Bool.and_true]
    exact dec_and (by rw [Prod.mk.injEq]), fun l => ⟨rfl, rfl⟩⟩
instance pyE_t3 {a : α → D} {b : β → D} {c : γ → D} [i : PyEO a] [j : PyEO b] [k : PyEO c] : PyE (eT3 a b c) := ⟨i.n + j.n + k.n + 1, fun p => .tuple [i.py p.1, j.py p.2.1, k.py p.2.2], fun p => by show (toPys [_, _, _]).map _ = _; simp [toPys, i.to, j.to, k.to], fun p => by simp [PyData.canLay0, PyData.canLayAll0, i.lay, j.lay, k.lay],
  fun p => by simp only [PyData.depth, PyData.depthAll]; have := i.dep p.1; have := j.dep p.2.1; have := k.dep p.2.2; omega, fun p q => by
    obtain ⟨p1, p2, p3⟩ := p; obtain ⟨q1, q2, q3⟩ := q
    simp only [PyData.eqv, PyData.eqvAll, i.eqv, j.eqv, k.eqv, Bool.and_true]
    rw [dec_and (p := p2 = q2) (q := p3 = q3) (r := p2 = q2 ∧ p3 = q3) Iff.rfl]
    exact dec_and (by rw [Prod.mk.injEq, Prod.mk.injEq]), fun l => ⟨rfl, rfl⟩⟩
instance pyE_t4 {a : α → D} {b : β → D} {c : γ → D} {d : δ → D} [i : PyEO a] [j : PyEO b] [k : PyEO c] [l : PyEO d] : PyE (eT4 a b c d) := ⟨i.n + j.n + k.n + l.n + 1, fun p => .tuple [i.py p.1, j.py p.2.1, k.py p.2.2.1, l.py p.2.2.2], fun p => by show (toPys [_, _, _, _]).map _ = _; simp [toPys, i.to, j.to, k.to, l.to], fun p => by simp [PyData.canLay0, PyData.canLayAll0, i.lay, j.lay, k.lay, l.lay],
  fun p => by simp only [PyData.depth, PyData.depthAll]; have := i.dep p.1; have := j.dep p.2.1; have := k.dep p.2.2.1; have := l.dep p.2.2.2; omega, fun p q => by
    obtain ⟨p1, p2, p3, p4⟩ := p; obtain ⟨q1, q2, q3, q4⟩ := q
    simp only [PyData.eqv, PyData.eqvAll, i.eqv, j.eqv, k.eqv, l.eqv, Bool.and_true]
    rw [dec_and (p := p3 = q3) (q := p4 = q4) (r := p3 = q3 ∧ p4 = q4) Iff.rfl, dec_and (p := p2 = q2) (q := p3 = q3 ∧ p4 = q4) (r := p2 = q2 ∧ p3 = q3 ∧ p4 = q4) Iff.rfl]
    exact dec_and (by rw [Prod.mk.injEq, Prod.mk.injEq, Prod.mk.injEq]), fun l => ⟨rfl, rfl⟩⟩
def Deed.py : Deed → PyData
  | .ask w g l => .tuple [.str w.val, .int g, pyOpt PyData.int l]
  | .mov w g => .tuple [.str w.val, .int g]
  | .tick => .tuple [.str Wd.tick.val]
instance pyE_deed : PyE eDd := ⟨2, Deed.py, fun d => by
    cases d with
    | ask w g l => cases l <;> rfl
    | mov w g => rfl
    | tick => rfl, fun d => by
    cases d with
    | ask w g l => cases l <;> simp [Deed.py, PyData.canLay0, PyData.canLayAll0, pyOpt, w.ok]
    | mov w g => simp [Deed.py, PyData.canLay0, PyData.canLayAll0, w.ok]
    | tick => simp [Deed.py, PyData.canLay0, PyData.canLayAll0, Wd.ok], fun d => by
    cases d with
    | ask w g l => cases l <;> simp [Deed.py, PyData.depth, PyData.depthAll, pyOpt]
    | mov w g => simp [Deed.py, PyData.depth, PyData.depthAll]
    | tick => simp [Deed.py, PyData.depth, PyData.depthAll], fun a b => by
    have eW' : ∀ v w : Wd, PyData.eqv (.str v.val) (.str w.val) = decide (v = w) := fun v w => pyE_w.eqv v w
    have eI : ∀ v w : Int, PyData.eqv (.int v) (.int w) = decide (v = w) := fun v w => pyE_int.eqv v w
    have eP : ∀ v w : Option Int, PyData.eqv (pyOpt PyData.int v) (pyOpt PyData.int w) = decide (v = w) := fun v w => (pyEO_opt (e := D.int)).eqv v w
    cases a with
    | ask w g l =>
      cases b with
      | ask w' g' l' =>
        simp only [Deed.py, PyData.eqv, PyData.eqvAll, eW', eI, eP, Bool.and_true]
        have eW'' : ∀ v w : Wd, (v.val == w.val) = decide (v = w) := eW'
        have eI' : ∀ v w : Int, (v == w) = decide (v = w) := eI
        simp [eW'', eI']
      | mov w' g' => simp [Deed.py, PyData.eqv, PyData.eqvAll]
      | tick => simp [Deed.py, PyData.eqv, PyData.eqvAll]
    | mov w g =>
      cases b with
      | ask w' g' l' => simp [Deed.py, PyData.eqv, PyData.eqvAll]
      | mov w' g' =>
        have eW'' : ∀ v w : Wd, (v.val == w.val) = decide (v = w) := eW'
        simp [Deed.py, PyData.eqv, PyData.eqvAll, eW'']
        have eI' : ∀ v w : Int, (v == w) = decide (v = w) := eI
        simp [eI']
      | tick => simp [Deed.py, PyData.eqv, PyData.eqvAll]
    | tick =>
      cases b with
      | ask w' g' l' => simp [Deed.py, PyData.eqv, PyData.eqvAll]
      | mov w' g' => simp [Deed.py, PyData.eqv, PyData.eqvAll]
      | tick => simp [Deed.py, PyData.eqv, PyData.eqvAll], fun d => by cases d <;> exact ⟨rfl, rfl⟩⟩

theorem shaped_of (e : α → D) [i : PyEO e] (hn : i.n ≤ 64) (x : α) : SeqAt.shaped (i.py x) = true := by
  unfold SeqAt.shaped
  rw [i.lay, decide_eq_true (by have := i.dep x; omega)]; rfl
theorem py_of (e : α → D) [i : PyEO e] (hn : i.n ≤ 64) (x : α) (h : Hh) : pyOf (e x) h = some (i.py x) := by
  have ed : deref (e x) h = e x := by
    have := i.to x
    cases he : e x with
    | ref j => rw [he, toPy] at this; cases this
    | _ => rfl
  unfold pyOf
  rw [ed, i.to]
  show (if SeqAt.shaped (i.py x) = true then some (i.py x) else none) = _
  rw [if_pos (shaped_of e hn x)]
theorem py_own (e : α → D) [i : PyEO e] (hn : i.n ≤ 60) (l : List α) {h : Hh} {p : Nat} (hp : h[p]? = some (oL e l)) : pyOf (.ref p) h = some (.list (l.map i.py)) := by
  have ed : deref (.ref p) h = .lst (l.map e) := by
    show (match h[p]? with | some (O.lst ds) => D.lst ds | _ => .ref p) = _
    rw [hp]; rfl
  unfold pyOf
  rw [ed, toPy, toPys_map]
  have : SeqAt.shaped (.list (l.map i.py)) = true := by
    unfold SeqAt.shaped
    rw [PyData.canLay0, lay_map, PyData.depth, decide_eq_true (by have := dep_map (e := e) l; omega)]; rfl
  show (if SeqAt.shaped (.list (l.map i.py)) = true then _ else _) = _
  rw [if_pos this]
theorem o_eq (e : α → D) [i : PyEO e] (x y : α) (hn : i.n ≤ 64 := by decide) (h : Hh) : eqO (e x) (e y) h = some (.bl (decide (x = y))) := by
  unfold eqO
  rw [py_of e hn, py_of e hn]
  show some (D.bl (PyData.eqv _ _)) = _
  rw [i.eqv]
theorem o_ne (e : α → D) [i : PyEO e] (x y : α) (hn : i.n ≤ 64 := by decide) (h : Hh) : neO (e x) (e y) h = some (.bl (!decide (x = y))) := by
  unfold neO
  rw [py_of e hn, py_of e hn]
  show some (D.bl (!PyData.eqv _ _)) = _
  rw [i.eqv]
theorem any_mem (e : α → D) [i : PyEO e] (x : α) : ∀ l : List α, ((l.map i.py).any fun z => PyData.eqv z (i.py x)) = decide (x ∈ l)
  | [] => rfl
  | y :: ys => by
    rw [List.map_cons, List.any_cons, any_mem e x ys, i.eqv]
    by_cases h : y = x
    · subst h; simp
    · simp [h, Ne.symm h]
theorem dec_eq {p : Prop} (a b : Decidable p) : @decide p a = @decide p b := by cases a <;> cases b <;> first | rfl | contradiction
theorem o_inS (e : α → D) [i : PyEO e] (x : α) (l : List α) {dd : Decidable (x ∈ l)} (hn : i.n ≤ 60 := by decide) (h : Hh) : inO false (e x) (eS e l) h = some (.bl (@decide (x ∈ l) dd)) := by
  unfold inO
  rw [py_of e (by omega), py_of (eS e) (i := pyEO_of) (by show i.n + 2 ≤ 64; omega)]
  show some (D.bl ((l.map i.py).any fun z => PyData.eqv z (i.py x))) = _
  rw [any_mem]
  exact congrArg (fun b => some (D.bl b)) (dec_eq _ _)
theorem o_ninS (e : α → D) [i : PyEO e] (x : α) (l : List α) {dd : Decidable (x ∈ l)} (hn : i.n ≤ 60 := by decide) (h : Hh) : inO true (e x) (eS e l) h = some (.bl (!@decide (x ∈ l) dd)) := by
  unfold inO
  rw [py_of e (by omega), py_of (eS e) (i := pyEO_of) (by show i.n + 2 ≤ 64; omega)]
  show some (D.bl (!((l.map i.py).any fun z => PyData.eqv z (i.py x)))) = _
  rw [any_mem]
  exact congrArg (fun b => some (D.bl (!b))) (dec_eq _ _)
theorem o_inL (e : α → D) [i : PyEO e] (x : α) (l : List α) {dd : Decidable (x ∈ l)} (hn : i.n ≤ 60 := by decide) (h : Hh) : inO false (e x) (eL e l) h = some (.bl (@decide (x ∈ l) dd)) := by
  unfold inO
  rw [py_of e (by omega), py_of (eL e) (i := pyEO_of) (by show i.n + 2 ≤ 64; omega)]
  show some (D.bl ((l.map i.py).any fun z => PyData.eqv z (i.py x))) = _
  rw [any_mem]
  exact congrArg (fun b => some (D.bl b)) (dec_eq _ _)
theorem o_ninL (e : α → D) [i : PyEO e] (x : α) (l : List α) {dd : Decidable (x ∈ l)} (hn : i.n ≤ 60 := by decide) (h : Hh) : inO true (e x) (eL e l) h = some (.bl (!@decide (x ∈ l) dd)) := by
  unfold inO
  rw [py_of e (by omega), py_of (eL e) (i := pyEO_of) (by show i.n + 2 ≤ 64; omega)]
  show some (D.bl (!((l.map i.py).any fun z => PyData.eqv z (i.py x)))) = _
  rw [any_mem]
  exact congrArg (fun b => some (D.bl (!b))) (dec_eq _ _)
theorem o_inO (e : α → D) [i : PyEO e] (x : α) (l : List α) {dd : Decidable (x ∈ l)} (hn : i.n ≤ 60 := by decide) (h : Hh) (p : Nat) (hp : h[p]? = some (oL e l)) : inO false (e x) (.ref p) h = some (.bl (@decide (x ∈ l) dd)) := by
  unfold inO
  rw [py_of e (by omega), py_own e hn l hp]
  show some (D.bl ((l.map i.py).any fun z => PyData.eqv z (i.py x))) = _
  rw [any_mem]
  exact congrArg (fun b => some (D.bl b)) (dec_eq _ _)
end
end MR

namespace MR
open PySem PySem.Spec PyProof.Rows L2

section
variable {α β γ δ : Type}
/-- an index that is there -/
def inR (l : List α) (i : Int) : Prop := -(l.length : Int) ≤ i ∧ i < l.length
instance (l : List α) (i : Int) : Decidable (inR l i) := inferInstanceAs (Decidable (_ ∧ _))
def atZ [Inhabited α] (l : List α) (i : Int) : α := ((if 0 ≤ i then l[i.toNat]? else l[(i + l.length).toNat]?) : Option α).getD default
theorem atI_at [Inhabited α] (l : List α) (i : Int) (hi : inR l i) : atI l i = some (atZ l i) := by
  unfold inR at hi
  unfold atZ
  by_cases h : 0 ≤ i
  · rw [ev_atIp l i h, if_pos h, List.getElem?_eq_getElem (by omega)]; rfl
  · rw [ev_atIm l i (by omega), if_neg h, if_pos hi.1, List.getElem?_eq_getElem (by omega)]; rfl
theorem atI_map [Inhabited α] (e : α → D) (l : List α) (i : Int) (hi : inR l i) : atI (l.map e) i = some (e (atZ l i)) := by
  have h2 : atI (l.map e) i = (atI l i).map e := by
    unfold atI ixN
    simp only [List.length_map]
    split
    · split <;> simp
    · split <;> simp
  rw [h2, atI_at l i hi]; rfl
theorem o_ixS [Inhabited α] (e : α → D) (l : List α) (i : Int) (hi : inR l i) (h : Hh) : ixA (eS e l) (.int i) h = some (e (atZ l i)) := by
  show ixA (.tup (l.map e)) (.int i) h = _
  rw [ev_ixT]; exact atI_map e l i hi
theorem o_ixL [Inhabited α] (e : α → D) (l : List α) (i : Int) (hi : inR l i) (h : Hh) : ixA (eL e l) (.int i) h = some (e (atZ l i)) := by
  show ixA (.lst (l.map e)) (.int i) h = _
  rw [ev_ixL]; exact atI_map e l i hi
theorem o_ixO [Inhabited α] (e : α → D) (l : List α) (i : Int) (hi : inR l i) (h : Hh) (p : Nat) (hp : h[p]? = some (oL e l)) : ixA (.ref p) (.int i) h = some (e (atZ l i)) := by
  rw [ev_ixR, hp]
  exact atI_map e l i hi
theorem o_lenS (e : α → D) (l : List α) (h : Hh) : lenO [eS e l] h = some (.int l.length) := by
  show some (D.int ((l.map e).length : Nat)) = _
  rw [List.length_map]
theorem o_lenL (e : α → D) (l : List α) (h : Hh) : lenO [eL e l] h = some (.int l.length) := by
  show some (D.int ((l.map e).length : Nat)) = _
  rw [List.length_map]
theorem o_lenO (e : α → D) (l : List α) (h : Hh) (p : Nat) (hp : h[p]? = some (oL e l)) : lenO [.ref p] h = some (.int l.length) := by
  rw [ev_lenR, hp]
  show some (D.int ((l.map e).length : Nat)) = _
  rw [List.length_map]
theorem o_addL (e : α → D) (l m : List α) (hl : l.length + m.length ≤ 16777216) (h : Hh) : addO (eL e l) (eL e m) h = some (eL e (l ++ m)) := by
  show (if (l.map e).length + (m.map e).length ≤ sizeLine then some (D.lst (l.map e ++ m.map e)) else none) = _
  rw [List.length_map, List.length_map, if_pos (by rw [sizeLine_eq]; exact hl), ← List.map_append]; rfl
theorem o_tupO (e : α → D) (l : List α) (h : Hh) (p : Nat) (hp : h[p]? = some (oL e l)) : tupleO [.ref p] h = some (eS e l) := by
  rw [ev_tupleR, hp]; rfl
theorem o_all (p : α → Bool) (l : List α) (h : Hh) : allO [eL D.bl (l.map p)] h = some (.bl (l.all p)) := by
  show ((some (((l.map p).map D.bl))).bind fun xs => (truths xs).map fun bs => D.bl (bs.all id)) = _
  have : (l.map p).map D.bl = l.map fun x => D.bl (p x) := by rw [List.map_map]; rfl
  rw [this]
  show ((truths (l.map fun x => D.bl (p x))).map fun bs => D.bl (bs.all id)) = _
  rw [truths_map, Option.map_some, all_map]
theorem o_isN {e : α → D} [NN e] (x : Option α) (h : Hh) : isNO false (eO e x) .non h = some (.bl x.isNone) := by
  cases x with
  | none => rfl
  | some a => exact NN.nn a h false
theorem o_notN {e : α → D} [NN e] (x : Option α) (h : Hh) : isNO true (eO e x) .non h = some (.bl x.isSome) := by
  cases x with
  | none => rfl
  | some a => exact NN.nn a h true
theorem cut_map (e : α → D) (l : List α) (lo hi : Option Int) : cutG (l.map e) lo hi = (cutG l lo hi).map e := by
  unfold cutG
  rw [List.length_map, ← List.map_drop, ← List.map_take]
theorem o_mulI (i j : Int) (hs : ((-18446744073709551616 < i ∧ i < 18446744073709551616) ∨ (-18446744073709551616 < j ∧ j < 18446744073709551616)) ∨ i.natAbs.log2 + j.natAbs.log2 < 1000000) (h : Hh) : mulB (.int i) (.int j) h = some (.int (i * j)) := if_pos hs
def sAll : List Nat → List D → SEnv → SEnv
  | i :: is, d :: ds, s => sAll is ds (s.set i (some (.v d)))
  | _, _, s => s
theorem sat_all {F : Fr} : ∀ (is : List Nat) (ds : List D) (s : SEnv) (env : DEnv) (h : Hh), Sat F s env h → Sat F (sAll is ds s) (setAll is ds env) h
  | [], _, _, _, _, S => S
  | _ :: _, [], _, _, _, S => S
  | i :: is, d :: ds, s, env, h, S => sat_all is ds _ _ h (S.setV i d)
theorem qb_name {s : SEnv} {d : D} (i : Nat) : QB (.name i) d s (s.set i (some (.v d))) := fun F env h S => ⟨_, rfl, S.setV i d⟩
theorem qb_tup {s : SEnv} {ds : List D} (is : List Nat) (hl : ds.length = is.length := by rfl) : QB (.tup is) (.tup ds) s (sAll is ds s) := fun F env h S => ⟨_, if_pos hl, sat_all is ds s env h S⟩
theorem qb_wtp {s : SEnv} {ds : List D} (is : List Nat) (hl : ds.length = is.length := by rfl) : QB (.tup is) (.wtp ds) s (sAll is ds s) := fun F env h S => ⟨_, if_pos hl, sat_all is ds s env h S⟩
variable {F : Fr} {s s1 s2 : SEnv} {A B : ME} {i : Nat}
theorem qi_S {e : α → D} {l : List α} (hA : QX F s A (eS e l) s1) : QI F s (iOf A) (l.map e) s1 := fun env h S => by
  obtain ⟨h1, e1, S1⟩ := hA env h S
  exact ⟨h1, by unfold iOf; rw [e1, bind_ok]; rfl, S1⟩
theorem qi_L {e : α → D} {l : List α} (hA : QX F s A (eL e l) s1) : QI F s (iOf A) (l.map e) s1 := fun env h S => by
  obtain ⟨h1, e1, S1⟩ := hA env h S
  exact ⟨h1, by unfold iOf; rw [e1, bind_ok]; rfl, S1⟩
/-- range -/
def rngT (lo hi : Int) : List Int := (List.range (hi - lo).toNat).map fun i : Nat => lo + (i : Int)
theorem rng_map (lo hi : Int) : rangeD lo hi = (rngT lo hi).map D.int := by unfold rangeD rngT; rw [List.map_map]; rfl
theorem qi_rng1 {k : Int} (hA : QX F s A (.int k) s1) (hk : -1000000 ≤ k ∧ k ≤ 1000000) : QI F s (iA rng1 (aCons A aNil)) ((rngT 0 k).map D.int) s1 := fun env h S => by
  obtain ⟨h1, e1, S1⟩ := hA env h S
  refine ⟨h1, ?_, S1⟩
  unfold iA aCons aNil
  rw [e1, bind_ok]
  show lift (rng1 [.int k] h1) h1 = _
  show lift (if -1000000 ≤ k ∧ k ≤ 1000000 then some (⟨rangeD 0 k, none⟩ : Src) else none) h1 = _
  rw [if_pos hk, rng_map]; rfl
def wipeS (s : SEnv) : List Nat → SEnv
  | [] => s
  | v :: vs => (wipeS s vs).set v none
theorem sat_wipe {env : DEnv} {h : Hh} (S : Sat F s env h) : ∀ vs : List Nat, Sat F (wipeS s vs) (wipeE env vs) h
  | [] => S
  | v :: vs => (sat_wipe S vs).setN v
theorem wipe_ne {j : Nat} : ∀ {vs : List Nat}, j ∉ vs → (wipeS s vs)[j]? = s[j]?
  | [], _ => rfl
  | v :: vs, h => by
    rw [wipeS, List.getElem?_set_ne (fun e => h (by rw [← e]; exact List.mem_cons_self)), wipe_ne fun e => h (List.mem_cons_of_mem _ e)]
theorem wipeE_ne {env : DEnv} {j : Nat} : ∀ {vs : List Nat}, j ∉ vs → (wipeE env vs)[j]? = env[j]?
  | [], _ => rfl
  | v :: vs, h => by
    rw [wipeE, List.getElem?_set_ne (fun e => h (by rw [← e]; exact List.mem_cons_self)), wipeE_ne fun e => h (List.mem_cons_of_mem _ e)]
theorem setAll_ne {ds : List D} {env : DEnv} {j : Nat} {is : List Nat} (h : j ∉ is) : (setAll is ds env)[j]? = env[j]? := by
  induction is generalizing ds env with
  | nil => rfl
  | cons i is ih =>
    cases ds with
    | nil => rfl
    | cons d ds =>
      show (setAll is ds (env.set i (some d)))[j]? = _
      rw [ih fun e => h (List.mem_cons_of_mem _ e), List.getElem?_set_ne (fun e => h (by rw [← e]; exact List.mem_cons_self))]
theorem bindT_ne {T : Tg} {d : D} {env env' : DEnv} {j : Nat} (e : bindT T d env = some env') (h : j ∉ T.slots) : env'[j]? = env[j]? := by
  cases T with
  | name i =>
    cases e
    exact List.getElem?_set_ne fun e => h (by rw [← e]; exact List.mem_cons_self)
  | tup is =>
    unfold bindT at e
    cases d with
    | tup ds =>
      simp only at e
      split at e
      · cases e; exact setAll_ne h
      · cases e
    | wtp ds =>
      simp only at e
      split at e
      · cases e; exact setAll_ne h
      · cases e
    | non => cases e
    | bl b => cases e
    | int i => cases e
    | str x => cases e
    | lst xs => cases e
    | ref i => cases e
    | glb u => cases e
    | scr u => cases e
    | dct u w => cases e
/-- a list that is made -/
def QL (F : Fr) (s : SEnv) (m : MA) (e : α → D) (l : List α) (s' : SEnv) : Prop := ∀ env h, Sat F s env h → ∃ h', m env h = .ok (l.map e) h' ∧ Sat F s' env h'
theorem ql_frz {e : α → D} {l : List α} {m : MA} (hA : QL F s m e l s1) : QX F s (eFrz m) (eL e l) s1 := q_frz (ds := l.map e) hA
theorem ql_nil {e : α → D} : QL F s aNil e [] s := qa_nil
theorem ql_cons {e : α → D} {x : α} {l : List α} {m : MA} (hA : QX F s A (e x) s1) (hB : QL F s1 m e l s2) : QL F s (aCons A m) e (x :: l) s2 := qa_cons (ds := l.map e) hA hB
/-- names bound -/
def bS (T : Tg) (d : D) (s : SEnv) : SEnv := match T with
  | .name i => s.set i (some (.v d))
  | .tup is => match d with
    | .tup ds => sAll is ds s
    | .wtp ds => sAll is ds s
    | _ => s
def Bd (T : Tg) (d : D) : Prop := match T with
  | .name _ => True
  | .tup is => match d with
    | .tup ds => ds.length = is.length
    | .wtp ds => ds.length = is.length
    | _ => False
theorem bd_of {T : Tg} {d : D} (b : Bd T d) {s : SEnv} : QB T d s (bS T d s) := by
  cases T with
  | name i => exact qb_name i
  | tup is =>
    cases d with
    | tup ds => exact qb_tup is b
    | wtp ds => exact qb_wtp is b
    | non => exact b.elim
    | bl b' => exact b.elim
    | int i => exact b.elim
    | str x => exact b.elim
    | lst xs => exact b.elim
    | ref i => exact b.elim
    | glb u => exact b.elim
    | scr u => exact b.elim
    | dct u w => exact b.elim
theorem sAll_ne {is : List Nat} : ∀ {ds : List D} {s : SEnv} {j : Nat}, j ∉ is → (sAll is ds s)[j]? = s[j]? := by
  induction is with
  | nil => intro ds s j h; rfl
  | cons i is ih =>
    intro ds s j h
    cases ds with
    | nil => rfl
    | cons d ds =>
      show (sAll is ds (s.set i (some (Sl.v d))))[j]? = _
      rw [ih fun e => h (List.mem_cons_of_mem _ e), List.getElem?_set_ne (fun e => h (by rw [← e]; exact List.mem_cons_self))]
theorem bS_ne {T : Tg} {d : D} {s : SEnv} {j : Nat} (h : j ∉ T.slots) : (bS T d s)[j]? = s[j]? := by
  cases T with
  | name i => exact List.getElem?_set_ne fun e => h (by rw [← e]; exact List.mem_cons_self)
  | tup is =>
    cases d with
    | tup ds => exact sAll_ne h
    | wtp ds => exact sAll_ne h
    | _ => rfl
/-- no things of the def's own at these places -/
def isC (s : SEnv) (i : Nat) : Bool := match s[i]? with
  | some (some (.own _)) => true
  | some (some (.bor _ _)) => true
  | some (some (.hid _ _)) => true
  | _ => false
def noC (s : SEnv) (vs : List Nat) : Bool := vs.all fun i => !isC s i
theorem noC_of {s : SEnv} {vs : List Nat} (h : noC s vs = true) {j : Nat} {c : Sl} (e : s[j]? = some (some c)) (n : ∀ d, c ≠ Sl.v d) : j ∉ vs := fun m => by
  have h1 := List.all_eq_true.mp h j m
  unfold isC at h1
  rw [e] at h1
  cases c with
  | v d => exact n d rfl
  | own o => cases h1
  | bor p o => cases h1
  | hid p o => cases h1
theorem comp_restore {env env1 : DEnv} {h h' : Hh} {vs : List Nat} {T : Tg} {d : D} (S : Sat F s env h) (hT : ∀ i ∈ T.slots, i ∈ vs) (hv : noC s vs = true) (eb : bindT T d (wipeE env vs) = some env1) (S1 : Sat F (bS T d (wipeS s vs)) env1 h') : Sat F s env h' :=
  S.back S1 rfl (fun _ _ e => e) fun j c e n => by
    have nj := noC_of hv e n
    exact ⟨by rw [bS_ne fun m => nj (hT j m), wipe_ne nj]; exact e, by rw [bindT_ne eb fun m => nj (hT j m), wipeE_ne nj]⟩
theorem compL_nil {g : Option (Nat × List D)} {T : Tg} {t : MT} {e : ME} {env : DEnv} {h : Hh} (hg : gOk g h) : compL g T t e env [] h = .ok [] h := by unfold compL; rw [if_pos hg]
theorem comp_run {e : β → D} {T : Tg} {vs : List Nat} {t : MT} {el : ME} {e2 : α → D} {p : β → Bool} {f : β → α} {g : Option (Nat × List D)} {env : DEnv} (hT : ∀ i ∈ T.slots, i ∈ vs) (hv : noC s vs = true) (hg : ∀ h, Sat F s env h → gOk g h) :
    ∀ (xs : List β), (∀ x ∈ xs, Bd T (e x)) → (∀ x ∈ xs, QT F (bS T (e x) (wipeS s vs)) t (p x) (bS T (e x) (wipeS s vs))) → (∀ x ∈ xs, p x = true → QX F (bS T (e x) (wipeS s vs)) el (e2 (f x)) (bS T (e x) (wipeS s vs))) →
    ∀ h, Sat F s env h → ∃ h', compL g T t el (wipeE env vs) (xs.map e) h = .ok (((xs.filter p).map f).map e2) h' ∧ Sat F s env h'
  | [], _, _, _, h, S => ⟨h, compL_nil (hg h S), S⟩
  | x :: xs, hb, ht, he, h, S => by
    obtain ⟨env1, eb, S1⟩ := bd_of (hb x List.mem_cons_self) F (wipeE env vs) h (sat_wipe S vs)
    obtain ⟨h1, e1, S2⟩ := ht x List.mem_cons_self env1 h S1
    have S2' := comp_restore S hT hv eb S2
    have next := comp_run (e := e) (e2 := e2) (f := f) hT hv hg xs (fun y m => hb y (List.mem_cons_of_mem _ m)) (fun y m => ht y (List.mem_cons_of_mem _ m)) (fun y m => he y (List.mem_cons_of_mem _ m))
    rw [List.map_cons]
    unfold compL
    rw [if_pos (hg h S), eb]
    show ∃ h', ((t env1 h).bind _) = _ ∧ _
    rw [e1, bind_ok]
    cases hp : p x with
    | true =>
      obtain ⟨h2, e3, S3⟩ := he x List.mem_cons_self hp env1 h1 S2
      have S3' := comp_restore S hT hv eb S3
      obtain ⟨h', e4, S4⟩ := next h2 S3'
      refine ⟨h', ?_, S4⟩
      show ((el env1 h1).bind _) = _
      rw [e3, bind_ok, e4, bind_ok, List.filter_cons, if_pos hp]; rfl
    | false =>
      obtain ⟨h', e4, S4⟩ := next h1 S2'
      refine ⟨h', ?_, S4⟩
      show compL g T t el (wipeE env vs) (xs.map e) h1 = _
      rw [e4, List.filter_cons, if_neg (by rw [hp]; decide)]
variable {e : β → D} {xs : List β} {T : Tg} {vs : List Nat} {t : MT} {el : ME} {e2 : α → D} {p : β → Bool} {f : β → α} {mi : MI}
theorem ql_comp (hi : QI F s mi (xs.map e) s1) (hT : ∀ i ∈ T.slots, i ∈ vs) (hv : noC s1 vs = true) (hb : ∀ x ∈ xs, Bd T (e x)) (ht : ∀ x ∈ xs, QT F (bS T (e x) (wipeS s1 vs)) t (p x) (bS T (e x) (wipeS s1 vs)))
    (he : ∀ x ∈ xs, p x = true → QX F (bS T (e x) (wipeS s1 vs)) el (e2 (f x)) (bS T (e x) (wipeS s1 vs))) : QL F s (aComp mi T t el vs) e2 ((xs.filter p).map f) s1 := fun env h S => by
  obtain ⟨h1, e1, S1⟩ := hi env h S
  obtain ⟨h2, e2', S2⟩ := comp_run (g := none) hT hv (fun _ _ => gOk_none) xs hb ht he h1 S1
  exact ⟨h2, by unfold aComp; rw [e1, bind_ok, e2']; rfl, S2⟩
theorem filter_tt (xs : List β) : xs.filter (fun _ => true) = xs := by induction xs with | nil => rfl | cons x xs ih => rw [List.filter_cons]; simp
theorem ql_map (hi : QI F s mi (xs.map e) s1) (hT : ∀ i ∈ T.slots, i ∈ vs) (hv : noC s1 vs = true) (hb : ∀ x ∈ xs, Bd T (e x))
    (he : ∀ x ∈ xs, QX F (bS T (e x) (wipeS s1 vs)) el (e2 (f x)) (bS T (e x) (wipeS s1 vs))) : QL F s (aComp mi T (fun _ h => .ok true h) el vs) e2 (xs.map f) s1 := by
  have := ql_comp (p := fun _ => true) (e2 := e2) (f := f) (t := fun _ h => .ok true h) hi hT hv hb (fun x _ env h S => ⟨h, rfl, S⟩) (fun x m _ => he x m)
  rw [filter_tt] at this
  exact this
end
end MR

namespace MR
open PySem PySem.Spec PyProof.Rows L2

section
variable {α β L : Type} {F : Fr} {s s0 : SEnv} {i : Nat}
end

inductive Ctl (S L R X : Type) where
  | nx (s : S)
  | rt (r : R)
  | bk (l : L)
  | ct (l : L)
  | er (x : X)
section
variable {S S' L R X α β : Type}
def Ctl.bind (c : Ctl S L R X) (f : S → Ctl S' L R X) : Ctl S' L R X := match c with
  | .nx s => f s
  | .rt r => .rt r
  | .bk l => .bk l
  | .ct l => .ct l
  | .er x => .er x
def Ctl.All (c : Ctl S L R X) (p : S → Prop) : Prop := match c with
  | .nx s => p s
  | _ => True
@[simp] theorem Ctl.bind_nx (s : S) (f : S → Ctl S' L R X) : (Ctl.nx s : Ctl S L R X).bind f = f s := rfl
@[simp] theorem Ctl.bind_rt (r : R) (f : S → Ctl S' L R X) : (Ctl.rt r : Ctl S L R X).bind f = .rt r := rfl
@[simp] theorem Ctl.bind_bk (r : L) (f : S → Ctl S' L R X) : (Ctl.bk r : Ctl S L R X).bind f = .bk r := rfl
@[simp] theorem Ctl.bind_ct (r : L) (f : S → Ctl S' L R X) : (Ctl.ct r : Ctl S L R X).bind f = .ct r := rfl
@[simp] theorem Ctl.bind_er (r : X) (f : S → Ctl S' L R X) : (Ctl.er r : Ctl S L R X).bind f = .er r := rfl
@[simp] theorem Ctl.bind_ite (p : Prop) [Decidable p] (a b : Ctl S L R X) (f : S → Ctl S' L R X) : (if p then a else b).bind f = if p then a.bind f else b.bind f := by split <;> rfl
@[simp] theorem Ctl.all_nx (s : S) (p : S → Prop) : (Ctl.nx s : Ctl S L R X).All p ↔ p s := Iff.rfl
@[simp] theorem Ctl.all_rt (r : R) (p : S → Prop) : (Ctl.rt r : Ctl S L R X).All p ↔ True := Iff.rfl
@[simp] theorem Ctl.all_bk (r : L) (p : S → Prop) : (Ctl.bk r : Ctl S L R X).All p ↔ True := Iff.rfl
@[simp] theorem Ctl.all_ct (r : L) (p : S → Prop) : (Ctl.ct r : Ctl S L R X).All p ↔ True := Iff.rfl
@[simp] theorem Ctl.all_er (r : X) (p : S → Prop) : (Ctl.er r : Ctl S L R X).All p ↔ True := Iff.rfl
@[simp] theorem Ctl.all_ite (c : Prop) [Decidable c] (a b : Ctl S L R X) (p : S → Prop) : (if c then a else b).All p ↔ (c → a.All p) ∧ (¬ c → b.All p) := by split <;> simp [*]
def letC (v : α) (f : α → β) : β := f v
@[simp] theorem letC_eq (v : α) (f : α → β) : letC v f = f v := rfl
/-- what a def gives back -/
def Ctl.get [Inhabited R] (c : Ctl S L R X) : R := match c with
  | .rt r => r
  | _ => default
@[simp] theorem Ctl.get_rt [Inhabited R] (r : R) : (Ctl.rt r : Ctl S L R X).get = r := rfl
@[simp] theorem Ctl.get_ite [Inhabited R] (p : Prop) [Decidable p] (a b : Ctl S L R X) : (if p then a else b).get = if p then a.get else b.get := by split <;> rfl

def forC (f : α → S → Ctl S S R X) : List α → S → Ctl S L R X
  | [], s => .nx s
  | x :: xs, s => match f x s with
    | .nx s' => forC f xs s'
    | .ct s' => forC f xs s'
    | .bk s' => .nx s'
    | .rt r => .rt r
    | .er x => .er x
def okFor (f : α → S → Ctl S S R X) (ok : α → S → Prop) : List α → S → Prop
  | [], _ => True
  | x :: xs, s => ok x s ∧ match f x s with
    | .nx s' => okFor f ok xs s'
    | .ct s' => okFor f ok xs s'
    | _ => True
open Classical in
end
structure Kf (L R X : Type) where
  F : Fr
  Z : R → D → Hh → Prop
  EX : X → Exn → Prop
  EL : L → SEnv
def Agree (F : Fr) (h : Hh) : Prop := F.h0.length ≤ h.length ∧ ∀ j, j < F.h0.length → j ∉ F.B → h[j]? = F.h0[j]?
theorem Sat.agree {F : Fr} {s : SEnv} {env : DEnv} {h : Hh} (S : Sat F s env h) : Agree F h := ⟨S.le, S.keep⟩
section
variable {S S' S1 S2 L R X α β : Type}
def OutOk (k : Kf L R X) (E : S → SEnv) : RS → Ctl S L R X → Prop
  | .nx env h, .nx x => Sat k.F (E x) env h
  | .rt d h, .rt r => k.Z r d h
  | .bk env h, .bk l => Sat k.F (k.EL l) env h
  | .ct env h, .ct l => Sat k.F (k.EL l) env h
  | .er x _ h, .er y => k.EX y x ∧ Agree k.F h
  | _, _ => False
def QS (k : Kf L R X) (s : SEnv) (m : MS) (E : S → SEnv) (c : Ctl S L R X) : Prop := ∀ env h, Sat k.F s env h → OutOk k E (m env h) c
variable {k : Kf L R X} {s s1 s2 : SEnv} {a b : MS} {E : S → SEnv} {E1 : S1 → SEnv} {E2 : S2 → SEnv} {c : Ctl S L R X}
theorem qs_seq {c1 : Ctl S1 L R X} {c2 : S1 → Ctl S L R X} {ok : S1 → Prop} (h1 : QS k s a E1 c1) (hok : c1.All ok) (h2 : ∀ x, ok x → QS k (E1 x) b E (c2 x)) : QS k s (sSeq a b) E (c1.bind c2) := fun env h Sx => by
  have o := h1 env h Sx
  unfold sSeq
  cases e : a env h with
  | nx env' h' =>
    rw [e] at o
    cases c1 with
    | nx x => exact h2 x hok env' h' o
    | rt r => exact o.elim
    | bk r => exact o.elim
    | ct r => exact o.elim
    | er r => exact o.elim
  | rt d h' =>
    rw [e] at o
    cases c1 with
    | rt r => exact o
    | nx r => exact o.elim
    | bk r => exact o.elim
    | ct r => exact o.elim
    | er r => exact o.elim
  | bk env' h' =>
    rw [e] at o
    cases c1 with
    | bk r => exact o
    | nx r => exact o.elim
    | rt r => exact o.elim
    | ct r => exact o.elim
    | er r => exact o.elim
  | ct env' h' =>
    rw [e] at o
    cases c1 with
    | ct r => exact o
    | nx r => exact o.elim
    | rt r => exact o.elim
    | bk r => exact o.elim
    | er r => exact o.elim
  | er x env' h' =>
    rw [e] at o
    cases c1 with
    | er r => exact o
    | nx r => exact o.elim
    | rt r => exact o.elim
    | bk r => exact o.elim
    | ct r => exact o.elim
  | stuck => rw [e] at o; cases c1 <;> exact o.elim
theorem qs_next {x : S} (w : Weak s (E x)) : QS k s sNext E (.nx x) := fun env h Sx => Sx.weak w
/-- a name is set -/
theorem qs_let {i : Nat} {A : ME} {e : α → D} {v : α} {c2 : α → Ctl S L R X} {ok : α → Prop} (hA : QX k.F s A (e v) s1) (hok : ok v) (h2 : ∀ x, ok x → QS k (s1.set i (some (.v (e x)))) b E (c2 x)) : QS k s (sSeq (sAsg A (gName i)) b) E (letC v c2) := fun env h Sx => by
  obtain ⟨h1, e1, S1⟩ := hA env h Sx
  have := h2 v hok (env.set i (some (e v))) h1 (S1.setV i (e v))
  unfold sSeq sAsg
  rw [e1]
  exact this
theorem qs_setE {i : Nat} {A : ME} {d : D} {x : S} (hA : QX k.F s A d s1) (w : Weak (s1.set i (some (.v d))) (E x)) : QS k s (sAsg A (gName i)) E (.nx x) := fun env h Sx => by
  obtain ⟨h1, e1, S1⟩ := hA env h Sx
  unfold sAsg
  rw [e1]
  exact (S1.setV i d).weak w
/-- names taken out of a tuple -/
theorem g_all : ∀ (is : List Nat) (ds : List D) (env : DEnv) (h : Hh), ds.length = is.length → (is.foldr (fun i gs => gCons (gName i) gs) gNil) ds env h = some (setAll is ds env, h)
  | [], [], env, h, _ => rfl
  | i :: is, d :: ds, env, h, hl => by
    show (match gName i d env h with
      | some (env', h') => (is.foldr (fun i gs => gCons (gName i) gs) gNil) ds env' h'
      | none => none) = _
    exact g_all is ds _ h (by simpa using hl)
  | [], _ :: _, _, _, hl => by simp at hl
  | _ :: _, [], _, _, hl => by simp at hl
theorem qs_unp {n : Nat} {is : List Nat} {gs : MGs} {A : ME} {ds : List D} (hA : QX k.F s A (.tup ds) s1) (hg : gs = is.foldr (fun i gs => gCons (gName i) gs) gNil) (hn : ds.length = n) (hl : ds.length = is.length) (h2 : QS k (sAll is ds s1) b E c) : QS k s (sSeq (sAsg A (gTup n gs)) b) E c := fun env h Sx => by
  obtain ⟨h1, e1, S1⟩ := hA env h Sx
  have := h2 _ h1 (sat_all is ds s1 env h1 S1)
  unfold sSeq sAsg
  rw [e1]
  show OutOk k E ((RSof (gTup n gs (.tup ds) env h1)).seq b) c
  have : gTup n gs (.tup ds) env h1 = some (setAll is ds env, h1) := by
    show (if ds.length = n then gs ds env h1 else none) = _
    rw [if_pos hn, hg, g_all is ds env h1 hl]
  rw [this]
  assumption
theorem qs_doE {A : ME} {d : D} {x : S} (hA : QX k.F s A d s1) (w : Weak s1 (E x)) : QS k s (sDrop A) E (.nx x) := fun env h Sx => by
  obtain ⟨h1, e1, S1⟩ := hA env h Sx
  unfold sDrop
  rw [e1]
  exact S1.weak w
/-- a new list for a name -/
theorem qs_new {i : Nat} {ms : MA} {e : α → D} {l : List α} {c2 : List α → Ctl S L R X} {ok : List α → Prop} (hA : QL k.F s ms e l s1) (hok : ok l) (h2 : ∀ x, ok x → QS k (s1.set i (some (.own (oL e x)))) b E (c2 x)) : QS k s (sSeq (sAsg (eNew ms) (gName i)) b) E (letC l c2) := fun env h Sx => by
  obtain ⟨h1, e1, S1⟩ := hA env h Sx
  have := h2 l hok _ _ (S1.setO i (oL e l))
  unfold sSeq sAsg eNew
  rw [e1]
  exact this
/-- never goes on -/
def Nvr (m : MS) : Prop := ∀ env h env' h', m env h ≠ .nx env' h'
theorem nv_ret {A : ME} : Nvr (sRet A) := fun env h env' h' e => by
  unfold sRet at e
  cases q : A env h with
  | ok a h1 => rw [q] at e; cases e
  | err x h1 => rw [q] at e; cases e
  | stuck => rw [q] at e; cases e
/-- if ..: return; the rest behind it -/
theorem qs_ifr {t : MT} {r : MS} {p : Bool} {ca cb : Ctl S L R X} (ht : QT k.F s t p s1) (nv : Nvr a) (ha : p = true → QS k s1 a E ca) (hb : p = false → QS k s1 r E cb) : QS k s (sSeq (sIf t a sNext) r) E (if p = true then ca else cb) := fun env h Sx => by
  obtain ⟨h1, e1, S1⟩ := ht env h Sx
  unfold sSeq sIf
  rw [e1]
  cases p with
  | true =>
    show OutOk k E ((a env h1).seq r) ca
    have o := ha rfl env h1 S1
    cases e : a env h1 with
    | nx env' h' => exact absurd e (nv _ _ _ _)
    | rt d h' => rw [e] at o; exact o
    | bk d h' => rw [e] at o; exact o
    | ct d h' => rw [e] at o; exact o
    | er x d h' => rw [e] at o; exact o
    | stuck => rw [e] at o; exact o
  | false => exact hb rfl env h1 S1
/-- another form of what goes on -/
def Ctl.map (c : Ctl S L R X) (g : S → S') : Ctl S' L R X := c.bind fun x => .nx (g x)
def ZB {R T : Type} (F : Fr) (eR : R → D) (p : Nat) (oc : T → O) : R × T → D → Hh → Prop := fun r d h => d = eR r.1 ∧ Agree F h ∧ h[p]? = some (oc r.2)
theorem qs_retB {T : Type} {F : Fr} {EX : X → Exn → Prop} {EL : L → SEnv} {eR : R → D} {A : ME} {v : R} {p i : Nat} {oc : T → O} {l : T} (hA : QX F s A (eR v) s1) (hi : s1[i]? = some (some (Sl.bor p (oc l)))) : QS ⟨F, ZB F eR p oc, EX, EL⟩ s (sRet A) E (.rt (v, l)) := fun env h Sx => by
  obtain ⟨h1, e1, S1⟩ := hA env h Sx
  unfold sRet
  rw [e1]
  refine ⟨rfl, S1.agree, ?_⟩
  obtain ⟨q, a, b⟩ := S1.cell i (oc l) (.inr ⟨p, hi⟩)
  have := (S1.bor i p _ hi).1
  rw [a] at this
  cases this
  exact b
/-- for -/
theorem for_run {e : α → D} {T : Tg} {f : α → S → Ctl S S R X} {ok : α → S → Prop} {g : Option (Nat × List D)} (hg : ∀ env h st, Sat k.F (E st) env h → gOk g h) : ∀ (xs : List α) (st : S), (∀ x ∈ xs, Bd T (e x)) →
    (∀ x ∈ xs, ∀ st, ok x st → QS (⟨k.F, k.Z, k.EX, E⟩ : Kf S R X) (bS T (e x) (E st)) b E (f x st)) → okFor f ok xs st → ∀ env h, Sat k.F (E st) env h → OutOk k E (forL g (bodyT T b) (xs.map e) env h) (forC f xs st)
  | [], st, _, _, _, env, h, Sx => by
    rw [List.map_nil]
    unfold forL
    rw [if_pos (hg env h st Sx)]
    exact Sx
  | x :: xs, st, hb, hs, hk, env, h, Sx => by
    obtain ⟨env1, eb, S1⟩ := bd_of (hb x List.mem_cons_self) k.F env h Sx
    have o := hs x List.mem_cons_self st hk.1 env1 h S1
    have next := fun st' => for_run (ok := ok) (f := f) hg xs st' (fun y m => hb y (List.mem_cons_of_mem _ m)) fun y m => hs y (List.mem_cons_of_mem _ m)
    have hk2 := hk.2
    rw [List.map_cons]
    unfold forL
    rw [if_pos (hg env h st Sx)]
    have ebd : bodyT T b (e x) env h = b env1 h := by unfold bodyT; rw [eb]
    rw [ebd]
    unfold forC
    cases e1 : b env1 h with
    | nx env' h' =>
      rw [e1] at o
      cases e2 : f x st with
      | nx st' => rw [e2] at o hk2; exact next st' hk2 env' h' o
      | _ => rw [e2] at o; exact o.elim
    | ct env' h' =>
      rw [e1] at o
      cases e2 : f x st with
      | ct st' => rw [e2] at o hk2; exact next st' hk2 env' h' o
      | _ => rw [e2] at o; exact o.elim
    | bk env' h' =>
      rw [e1] at o
      cases e2 : f x st with
      | bk st' => rw [e2] at o; exact o
      | _ => rw [e2] at o; exact o.elim
    | rt d h' =>
      rw [e1] at o
      cases e2 : f x st with
      | rt st' => rw [e2] at o; exact o
      | _ => rw [e2] at o; exact o.elim
    | er y d h' =>
      rw [e1] at o
      cases e2 : f x st with
      | er st' => rw [e2] at o; exact o
      | _ => rw [e2] at o; exact o.elim
    | stuck => rw [e1] at o; cases e2 : f x st <;> (rw [e2] at o; exact o.elim)
theorem qs_for {e : α → D} {xs : List α} {T : Tg} {mi : MI} {f : α → S → Ctl S S R X} {ok : α → S → Prop} {s0 : S} (hi : QI k.F s mi (xs.map e) s1) (w : Weak s1 (E s0)) (hb : ∀ x ∈ xs, Bd T (e x))
    (hs : ∀ x ∈ xs, ∀ st, ok x st → QS (⟨k.F, k.Z, k.EX, E⟩ : Kf S R X) (bS T (e x) (E st)) b E (f x st)) (hok : okFor f ok xs s0) : QS k s (sFor mi T b) E (forC f xs s0) := fun env h Sx => by
  obtain ⟨h1, e1, S1⟩ := hi env h Sx
  unfold sFor
  rw [e1]
  exact for_run (fun _ _ _ _ => gOk_none) xs s0 hb hs hok env h1 (S1.weak w)
end

section
variable {R T : Type} {n : Nat} {N : List Str} {b : MS} {ds : List D} {h : Hh}
/-- what is known when a def begins -/
def begS (N : List Str) (ds : List D) : SEnv := ds.map (fun d => some (Sl.v d)) ++ List.replicate (N.length - ds.length) none
theorem beg_sat {F : Fr} (hN : ds.length ≤ N.length) (hF : F.h0 = h) : Sat F (begS N ds) (startD N ds) h := by
  have val : ∀ (i : Nat) (c : Sl), (begS N ds)[i]? = some (some c) → ∃ d, c = .v d ∧ (startD N ds)[i]? = some (some d) := fun i c e => by
    unfold begS at e
    unfold startD
    by_cases hi : i < ds.length
    · rw [List.getElem?_append_left (by simpa using hi), List.getElem?_map, List.getElem?_eq_getElem hi] at e ⊢
      cases e
      exact ⟨_, rfl, rfl⟩
    · rw [List.getElem?_append_right (by simpa using hi), List.getElem?_replicate] at e
      split at e <;> cases e
  have nc : ∀ (i : Nat) (o : O), ¬ Hs (begS N ds) i o := fun i o x => by
    rcases x with x | ⟨p, x⟩ <;> (obtain ⟨d, e, _⟩ := val i _ x; cases e)
  exact {
    len := by simp [begS, startD]
    le := by rw [hF]; exact Nat.le_refl _
    keep := fun j _ _ => by rw [hF]
    val := fun i d e => by obtain ⟨d', e1, e2⟩ := val i _ e; cases e1; exact e2
    cell := fun i o x => absurd x (nc i o)
    own := fun i o p x _ => absurd (.inl x) (nc i o)
    bor := fun i p o x => absurd (.inr ⟨p, x⟩) (nc i o)
    sep := fun i j o o' p _ x _ _ _ => nc i o x
    hid := fun i p o x => by obtain ⟨d, e, _⟩ := val i _ x; cases e
    hsep := fun i j p o o' _ x _ => by obtain ⟨d, e, _⟩ := val i _ x; cases e
    hcs := fun i j p o o' _ _ x => by obtain ⟨d, e, _⟩ := val j _ x; cases e }
theorem prefix_of {h h' : Hh} (h1 : h.length ≤ h'.length) (h2 : ∀ j, j < h.length → h'[j]? = h[j]?) : h' = h ++ h'.drop h.length := by
  have : h'.take h.length = h := by
    apply List.ext_getElem?
    intro j
    by_cases hj : j < h.length
    · rw [List.getElem?_take_of_lt hj]; exact h2 j hj
    · rw [List.getElem?_eq_none (by rw [List.length_take]; omega), List.getElem?_eq_none (by omega)]
  conv => lhs; rw [← List.take_append_drop h.length h', this]
/-- the first argument is a thing that may be changed -/
def begB (N : List Str) (p : Nat) (o : O) (ds : List D) : SEnv := some (Sl.bor p o) :: (ds.map (fun d => some (Sl.v d)) ++ List.replicate (N.length - (ds.length + 1)) none)
theorem begB_sat {F : Fr} {p : Nat} {o : O} (hN : ds.length + 1 ≤ N.length) (hF : F.h0 = h) (hB : p ∈ F.B) (hp : h[p]? = some o) : Sat F (begB N p o ds) (startD N (.ref p :: ds)) h := by
  have hl : p < h.length := (List.getElem?_eq_some_iff.mp hp).1
  have val : ∀ (i : Nat) (c : Sl), (begB N p o ds)[i]? = some (some c) → i = 0 ∧ c = .bor p o ∨ ∃ d, c = .v d ∧ (startD N (.ref p :: ds))[i]? = some (some d) := fun i c e => by
    cases i with
    | zero =>
      left
      have e : some (some (Sl.bor p o)) = some (some c) := e
      cases e
      exact ⟨rfl, rfl⟩
    | succ i =>
      right
      have e : (ds.map (fun d => some (Sl.v d)) ++ List.replicate (N.length - (ds.length + 1)) none)[i]? = some (some c) := e
      show ∃ d, c = .v d ∧ (ds.map some ++ List.replicate (N.length - (ds.length + 1)) none)[i]? = some (some d)
      by_cases hi : i < ds.length
      · rw [List.getElem?_append_left (by simpa using hi), List.getElem?_map, List.getElem?_eq_getElem hi] at e ⊢
        cases e
        exact ⟨_, rfl, rfl⟩
      · rw [List.getElem?_append_right (by simpa using hi), List.getElem?_replicate] at e
        split at e <;> cases e
  have nc : ∀ (i : Nat) (o' : O), Hs (begB N p o ds) i o' → i = 0 ∧ o' = o := fun i o' x => by
    rcases x with x | ⟨q, x⟩
    · rcases val i _ x with ⟨_, e⟩ | ⟨d, e, _⟩ <;> cases e
    · rcases val i _ x with ⟨h1, e⟩ | ⟨d, e, _⟩
      · cases e; exact ⟨h1, rfl⟩
      · cases e
  exact {
    len := by simp [begB, startD]
    le := by rw [hF]; exact Nat.le_refl _
    keep := fun j _ _ => by rw [hF]
    val := fun i d e => by
      rcases val i _ e with ⟨_, e1⟩ | ⟨d', e1, e2⟩
      · cases e1
      · cases e1; exact e2
    cell := fun i o' x => by
      obtain ⟨rfl, rfl⟩ := nc i o' x
      exact ⟨p, rfl, hp⟩
    own := fun i o' q x _ => by
      rcases val i _ x with ⟨_, e⟩ | ⟨d, e, _⟩ <;> cases e
    bor := fun i q o' x => by
      rcases val i _ x with ⟨h1, e⟩ | ⟨d, e, _⟩
      · cases e; subst h1; exact ⟨rfl, by rw [hF]; exact hl, hB⟩
      · cases e
    sep := fun i j o1 o2 q n x y _ _ => n ((nc i o1 x).1.trans (nc j o2 y).1.symm)
    hid := fun i q o' x => by rcases val i _ x with ⟨_, e⟩ | ⟨d, e, _⟩ <;> cases e
    hsep := fun i j q o' o'' _ x _ => by rcases val i _ x with ⟨_, e⟩ | ⟨d, e, _⟩ <;> cases e
    hcs := fun i j q o' o'' _ _ x => by rcases val j _ x with ⟨_, e⟩ | ⟨d, e, _⟩ <;> cases e }
theorem fn_bor {eR : R → D} {e : T → D} [NR eR] [NR e] [Inhabited R] [Inhabited T] {p : Nat} {l : List T} {c : Ctl Empty Empty (R × List T) Empty} (hp : h[p]? = some (oL e l)) (hq : QS (⟨⟨h, [p]⟩, ZB ⟨h, [p]⟩ eR p (oL e), fun x _ => x.elim, fun l => l.elim⟩ : Kf Empty (R × List T) Empty) (begB N p (oL e l) ds) b (fun x => x.elim) c) (hn : ds.length + 1 = n := by rfl) (hN : ds.length + 1 ≤ N.length := by decide) :
    dropF (runF n N b) (.ref p :: ds) h = .ok (eR c.get.1) (h.set p (oL e c.get.2)) := by
  have o := hq (startD N (.ref p :: ds)) h (begB_sat hN rfl (by simp) hp)
  have hl : p < h.length := (List.getElem?_eq_some_iff.mp hp).1
  cases c with
  | nx x => exact x.elim
  | bk x => exact x.elim
  | ct x => exact x.elim
  | er x => exact x.elim
  | rt r =>
    cases e1 : b (startD N (.ref p :: ds)) h with
    | rt d h' =>
      rw [e1] at o
      obtain ⟨e2, ⟨o1, o2⟩, o3⟩ := o
      have e3 : runF n N b (.ref p :: ds) h = .ok (eR r.1) h' := by
        rw [run_eq (ds := .ref p :: ds) hn, e1, ev_out_rt, e2]
      have e4 : h'.take h.length = h.set p (oL e r.2) := by
        apply List.ext_getElem?
        intro j
        by_cases hj : j < h.length
        · rw [List.getElem?_take_of_lt hj]
          by_cases hpj : p = j
          · subst hpj; rw [o3, List.getElem?_set_self hl]
          · rw [List.getElem?_set_ne hpj]; exact o2 j hj (by simpa using Ne.symm hpj)
        · rw [List.getElem?_eq_none (by rw [List.length_take]; omega), List.getElem?_eq_none (by rw [List.length_set]; omega)]
      show _ = Res.ok (eR r.1) (h.set p (oL e r.2))
      rw [← e4]
      refine dropF_of e3 (NR.nr _ _) o1 fun i ob hi e5 => ?_
      by_cases hpi : p = i
      · subst hpi
        rw [o3] at e5
        cases e5
        right
        show bels h.length (r.2.map e) = true
        exact bels_map _ _
      · left
        rw [← o2 i hi (by simpa using Ne.symm hpi)]; exact e5
    | nx d h' => rw [e1] at o; exact o.elim
    | bk d h' => rw [e1] at o; exact o.elim
    | ct d h' => rw [e1] at o; exact o.elim
    | er x d h' => rw [e1] at o; exact o.elim
    | stuck => rw [e1] at o; exact o.elim
end
end MR

namespace MR
open PySem PySem.Spec PyProof.Rows L2

mutual
/-- what was made stands still from now on -/
def frzD (n : Nat) (h : Hh) : D → Option D
  | .ref i => if i < n then some (D.ref i) else match h[i]? with
    | some (.lst xs) => if bels n xs = true then some (D.lst xs) else none
    | some (.dN kvs) => if (bels n (kvs.map (·.1)) && bels n (kvs.map (·.2))) = true then some (D.dct (kvs.map (·.1)) (kvs.map (·.2))) else none
    | _ => none
  | .tup ds => (frzDs n h ds).map D.tup
  | .wtp ds => (frzDs n h ds).map D.wtp
  | .lst ds => if bels n ds = true then some (D.lst ds) else none
  | .non => some .non
  | .bl b => some (.bl b)
  | .int b => some (.int b)
  | .str b => some (.str b)
  | .glb b => some (.glb b)
  | .scr b => some (.scr b)
  | .dct ks ds => if (bels n ks && bels n ds) = true then some (D.dct ks ds) else none
def frzDs (n : Nat) (h : Hh) : List D → Option (List D)
  | [] => some []
  | d :: ds => match frzD n h d, frzDs n h ds with
    | some x, some xs => some (x :: xs)
    | _, _ => none
end
mutual
theorem den_frz {G : Gm} {rho rho' : Rm} {H H' : Hp} {hh g : Hh} (R : Rep G rho hh H) (S : Step rho H rho' H') (R' : Rep G rho' (hh ++ g) H') : ∀ (d d' : D) (v : V), Den G rho' H' d v → frzD hh.length (hh ++ g) d = some d' → Den G rho H' d' v
  | .ref i, d', v, q, e => by
    rw [frzD] at e
    rw [Den] at q
    obtain ⟨a, e1, rfl⟩ := q
    obtain ⟨ex, ee, hex⟩ := S.ext
    split at e
    · rename_i hi
      cases e
      rw [Den]
      refine ⟨a, ?_, rfl⟩
      rw [ee, List.getElem?_append_left (by rw [R.len]; exact hi)] at e1
      exact e1
    · rename_i hi
      split at e
      · rename_i xs e2
        split at e
        · rename_i hb
          cases e
          obtain ⟨vs, e3, l, q⟩ := R'.ob i a _ e1 e2
          have hae : a ∈ ex := by
            rw [ee, List.getElem?_append_right (by rw [R.len]; omega)] at e1
            exact List.mem_of_getElem? e1
          have hn : H a = none := hex a hae
          rw [Den]
          refine ⟨a, vs, rfl, e3, fun hm => ?_, fun hm => ?_, l, ?_⟩
          · obtain ⟨u, e4, _⟩ := R.mut hm
            rw [hn] at e4; cases e4
          · obtain ⟨u, e4⟩ := R.hd a hm
            rw [hn] at e4; cases e4
          · exact Dens.res ⟨ex, ee⟩ (fun a _ n m => n (S.kept a m)) xs vs q (by rw [R.len]; exact hb)
        · cases e
      · rename_i kvs e2
        split at e
        · rename_i hb
          cases e
          rw [Bool.and_eq_true] at hb
          obtain ⟨xs, l0, l1, es, e3, q, k3, k4, k5⟩ := R'.ob i a _ e1 e2
          have hae : a ∈ ex := by
            rw [ee, List.getElem?_append_right (by rw [R.len]; omega)] at e1
            exact List.mem_of_getElem? e1
          have hn : H a = none := hex a hae
          obtain ⟨us, k1, k2, d1, d2⟩ := dn_split q
          rw [Den]
          refine ⟨a, xs, es, us, rfl, e3, fun hm => ?_, fun hm => ?_, l0, l1, k1, k2, k3, k4, k5, ?_, ?_⟩
          · obtain ⟨u, e4, _⟩ := R.mut hm
            rw [hn] at e4; cases e4
          · obtain ⟨u, e4⟩ := R.hd a hm
            rw [hn] at e4; cases e4
          · exact Dens.res ⟨ex, ee⟩ (fun a _ n m => n (S.kept a m)) _ _ d1 (by rw [R.len]; exact hb.1)
          · exact Dens.res ⟨ex, ee⟩ (fun a _ n m => n (S.kept a m)) _ us d2 (by rw [R.len]; exact hb.2)
        · cases e
      · cases e
  | .tup ds, d', v, q, e => by
    rw [frzD] at e
    obtain ⟨ds', e1, rfl⟩ := Option.map_eq_some_iff.mp e
    rw [Den] at q ⊢
    obtain ⟨a, vs, e2, q1, l, q2⟩ := q
    exact ⟨a, vs, e2, q1, l, dens_frz R S R' ds ds' vs q2 e1⟩
  | .wtp ds, d', v, q, e => by
    rw [frzD] at e
    obtain ⟨ds', e1, rfl⟩ := Option.map_eq_some_iff.mp e
    rw [Den] at q ⊢
    obtain ⟨a, vs, e2, q1, l, q2⟩ := q
    exact ⟨a, vs, e2, q1, l, dens_frz R S R' ds ds' vs q2 e1⟩
  | .lst ds, d', v, q, e => by
    rw [frzD] at e
    split at e
    · rename_i hb
      cases e
      obtain ⟨ex, ee, hex⟩ := S.ext
      exact Den.res ⟨ex, ee⟩ (fun a _ n m => n (S.kept a m)) _ v q (by rw [MR.bel, R.len]; exact hb)
    · cases e
  | .non, d', v, q, e => by rw [frzD] at e; cases e; exact q
  | .bl _, d', v, q, e => by rw [frzD] at e; cases e; exact q
  | .int _, d', v, q, e => by rw [frzD] at e; cases e; exact q
  | .str _, d', v, q, e => by rw [frzD] at e; cases e; exact q
  | .glb _, d', v, q, e => by rw [frzD] at e; cases e; exact q
  | .scr _, d', v, q, e => by rw [frzD] at e; cases e; rw [Den] at q ⊢; exact q
  | .dct ks ds, d', v, q, e => by
    rw [frzD] at e
    split at e
    · rename_i hb
      cases e
      obtain ⟨ex, ee, hex⟩ := S.ext
      exact Den.res ⟨ex, ee⟩ (fun a _ n m => n (S.kept a m)) _ v q (by rw [MR.bel, R.len]; exact hb)
    · cases e
theorem dens_frz {G : Gm} {rho rho' : Rm} {H H' : Hp} {hh g : Hh} (R : Rep G rho hh H) (S : Step rho H rho' H') (R' : Rep G rho' (hh ++ g) H') : ∀ (ds ds' : List D) (vs : List V), Dens G rho' H' ds vs → frzDs hh.length (hh ++ g) ds = some ds' → Dens G rho H' ds' vs
  | [], ds', vs, q, e => by rw [frzDs] at e; cases e; exact q
  | d :: ds, ds', vs, q, e => by
    rw [frzDs] at e
    rw [Dens] at q
    obtain ⟨v, r, rfl, q1, q2⟩ := q
    cases e1 : frzD hh.length (hh ++ g) d with
    | none => rw [e1] at e; cases e
    | some x =>
      cases e2 : frzDs hh.length (hh ++ g) ds with
      | none => rw [e1, e2] at e; cases e
      | some xs =>
        rw [e1, e2] at e
        cases e
        rw [Dens]
        exact ⟨v, r, rfl, den_frz R S R' d x v q1 e1, dens_frz R S R' ds xs r q2 e2⟩
end
/-- what a def has made for itself is forgotten, what it hands back stands still -/
noncomputable def frzF (F : MF) : MF := fun ds h => match F ds h with
  | .ok d h' => open Classical in if ∃ g, h' = h ++ g then (match frzD h.length h' d with | some d' => .ok d' h | none => .stuck) else .stuck
  | .err x h' => .err x h'
  | .stuck => .stuck
theorem frzF_of {F : MF} {ds : List D} {h g : Hh} {d d' : D} (e : F ds h = .ok d (h ++ g)) (b : frzD h.length (h ++ g) d = some d') : frzF F ds h = .ok d' h := by
  unfold frzF
  rw [e]
  show (open Classical in if ∃ g', h ++ g = h ++ g' then (match frzD h.length (h ++ g) d with | some d' => Res.ok d' h | none => .stuck) else .stuck) = _
  rw [if_pos ⟨g, rfl⟩, b]
theorem FnD.frz {P : Program} {w : World} {K : PySem.W.Frag} {mg : Str → Option Value} {base : Heap} {k : Nat} {f : Addr} {fd : FuncData} {ps : List Str} {F : MF} (h : FnD P w K mg base k f fd ps F) : FnD P w K mg base k f fd ps (frzF F) :=
  FnOk.imp h fun vs H Q E ⟨hl, rho, hh, ds, R, q, p⟩ => ⟨hl, rho, hh, ds, R, q, by
    unfold frzF at p
    cases e : F ds hh with
    | ok d hh' =>
      rw [e] at p
      simp only at p
      split at p
      · rename_i hc
        obtain ⟨g, rfl⟩ := hc
        cases e2 : frzD hh.length (hh ++ g) d with
        | none => rw [e2] at p; exact p.elim
        | some d' =>
          rw [e2] at p
          intro rho' H' v S R' q'
          obtain ⟨ex, ee, hex⟩ := S.ext
          have h2 : ∀ a, a ∉ rho'.at_ → a ∉ rho'.res → a ∉ rho.res := fun a _ n m => n (S.kept a m)
          exact p rho H' v S.drop (R.drop S ⟨ex, ee⟩ h2 R') (den_frz R S R' d d' v q' e2)
      · exact p.elim
    | err x hh' => rw [e] at p; exact p
    | stuck => rw [e] at p; exact p⟩
mutual
theorem frz_bel (n : Nat) (h : Hh) : ∀ d : D, bel 0 d = true → frzD n h d = some d
  | .ref i, e => by rw [bel] at e; simp at e
  | .tup ds, e => by rw [bel] at e; rw [frzD, frzs_bel n h ds e]; rfl
  | .wtp ds, e => by rw [bel] at e; rw [frzD, frzs_bel n h ds e]; rfl
  | .lst ds, e => by rw [bel] at e; rw [frzD, if_pos (bels_up ds e)]
  | .non, _ => rfl
  | .bl _, _ => rfl
  | .int _, _ => rfl
  | .str _, _ => rfl
  | .glb _, _ => rfl
  | .scr _, _ => rfl
  | .dct ks ds, e => by
    rw [bel, Bool.and_eq_true] at e
    rw [frzD, bels_up ks e.1, bels_up ds e.2]; rfl
theorem frzs_bel (n : Nat) (h : Hh) : ∀ ds : List D, bels 0 ds = true → frzDs n h ds = some ds
  | [], _ => rfl
  | d :: ds, e => by
    rw [bels, Bool.and_eq_true] at e
    rw [frzDs, frz_bel n h d e.1, frzs_bel n h ds e.2]
theorem bel_up {n : Nat} : ∀ d : D, bel 0 d = true → bel n d = true
  | .ref i, e => by rw [bel] at e; simp at e
  | .tup ds, e => by rw [bel] at e ⊢; exact bels_up ds e
  | .wtp ds, e => by rw [bel] at e ⊢; exact bels_up ds e
  | .lst ds, e => by rw [bel] at e ⊢; exact bels_up ds e
  | .non, _ => rfl
  | .bl _, _ => rfl
  | .int _, _ => rfl
  | .str _, _ => rfl
  | .glb _, _ => rfl
  | .scr _, _ => rfl
  | .dct ks ds, e => by
    rw [bel, Bool.and_eq_true] at e
    rw [bel, bels_up ks e.1, bels_up ds e.2]; rfl
theorem bels_up {n : Nat} : ∀ ds : List D, bels 0 ds = true → bels n ds = true
  | [], _ => rfl
  | d :: ds, e => by
    rw [bels, Bool.and_eq_true] at e ⊢
    exact ⟨bel_up d e.1, bels_up ds e.2⟩
end
instance : NR D.scr := ⟨fun _ _ => rfl⟩
theorem frz_e {α : Type} {e : α → D} [NR e] (n : Nat) (h : Hh) (x : α) : frzD n h (e x) = some (e x) := frz_bel n h _ (NR.nr x 0)

/-- a part of what is handed back: a value, or the thing in a slot -/
inductive Cp where
  | val (x : D)
  | slot (i : Nat)
def Cp.res (env : DEnv) : Cp → D
  | .val x => x
  | .slot i => (env[i]?.join).getD D.non
def ZF {R : Type} (F : Fr) (eR : R → D) : R → D → Hh → Prop := fun r d h => frzD F.h0.length h d = some (eR r) ∧ Agree F h
section
variable {S S' S1 S2 L R X α β γ δ : Type} {F : Fr} {s s1 s2 : SEnv} {A B : ME} {i : Nat} {E : S → SEnv} {EX : X → Exn → Prop} {EL : L → SEnv} {eR : R → D}
inductive Fzs (s : SEnv) : List Cp → List D → Prop where
  | nil : Fzs s [] []
  | v {α : Type} {e : α → D} {x : α} {cs ds} (nr : NR e := by infer_instance) : Fzs s cs ds → Fzs s (.val (e x) :: cs) (e x :: ds)
  | o {α : Type} {e : α → D} {l : List α} {i : Nat} {cs ds} (nr : NR e := by infer_instance) : s[i]? = some (some (Sl.own (oL e l))) → Fzs s cs ds → Fzs s (.slot i :: cs) (eL e l :: ds)
theorem qs_retF {v : R} [NR eR] (hA : QX F s A (eR v) s1) : QS (⟨F, ZF F eR, EX, EL⟩ : Kf L R X) s (sRet A) E (.rt v) := fun env h Sx => by
  obtain ⟨h1, e1, S1⟩ := hA env h Sx
  unfold sRet
  rw [e1]
  exact ⟨frz_e _ _ _, S1.agree⟩
theorem fn_frz {n : Nat} {N : List Str} {b : MS} {ds : List D} {h : Hh} [Inhabited R] {c : Ctl Empty Empty R Empty} (hq : QS (⟨⟨h, []⟩, ZF ⟨h, []⟩ eR, fun x _ => x.elim, fun l => l.elim⟩ : Kf Empty R Empty) (begS N ds) b (fun x => x.elim) c) (hn : ds.length = n := by rfl) (hN : ds.length ≤ N.length := by decide) : frzF (runF n N b) ds h = .ok (eR c.get) h := by
  have o := hq (startD N ds) h (beg_sat hN rfl)
  cases c with
  | nx x => exact x.elim
  | bk x => exact x.elim
  | ct x => exact x.elim
  | er x => exact x.elim
  | rt r =>
    cases e : b (startD N ds) h with
    | rt d h' =>
      rw [e] at o
      obtain ⟨o0, o1, o2⟩ := o
      have e0 := prefix_of o1 fun j hj => o2 j hj (by simp)
      have e1 : runF n N b ds h = .ok d (h ++ h'.drop h.length) := by
        rw [run_eq hn, e, ev_out_rt, ← e0]
      refine frzF_of e1 ?_
      rw [← e0]
      exact o0
    | nx d h' => rw [e] at o; exact o.elim
    | bk d h' => rw [e] at o; exact o.elim
    | ct d h' => rw [e] at o; exact o.elim
    | er x d h' => rw [e] at o; exact o.elim
    | stuck => rw [e] at o; exact o.elim

theorem q_some {e : α → D} {v : α} {m : ME} (h : QX F s m (e v) s1) : QX F s m (eO e (some v)) s1 := h
theorem q_none {e : α → D} : QX F s (eC .non) (eO e none) s := q_c
theorem q_unopt [Inhabited α] {e : α → D} {v : Option α} {m : ME} (hs : v.isSome = true) (h : QX F s m (eO e v) s1) : QX F s m (e (v.getD default)) s1 := by
  cases v with
  | none => cases hs
  | some x => exact h
variable {ea : α → D} {eb : β → D} {ec : γ → D} {ed : δ → D} {a : α} {b : β} {c : γ} {d : δ} {C D' : ME} {s3 s4 : SEnv}
theorem q_t2 (hA : QX F s A (ea a) s1) (hB : QX F s1 B (eb b) s2) : QX F s (eTup (aCons A (aCons B aNil))) (eT2 ea eb (a, b)) s2 := q_tup (qa_cons hA (qa_cons hB qa_nil))
theorem q_t4 (hA : QX F s A (ea a) s1) (hB : QX F s1 B (eb b) s2) (hC : QX F s2 C (ec c) s3) (hD : QX F s3 D' (ed d) s4) : QX F s (eTup (aCons A (aCons B (aCons C (aCons D' aNil))))) (eT4 ea eb ec ed (a, b, c, d)) s4 := q_tup (qa_cons hA (qa_cons hB (qa_cons hC (qa_cons hD qa_nil))))
theorem o_intB (b : Bool) (h : Hh) : int1O [.bl b] h = some (.int (if b = true then 1 else 0)) := rfl
theorem o_appendO {e : α → D} (l : List α) (x : α) (hl : l.length < 16777216) (h : Hh) (p : Nat) (hp : h[p]? = some (oL e l)) : appendO (.ref p) [e x] h = some (.non, h.set p (oL e (l ++ [x]))) := by
  show chL _ (.ref p) h = _
  unfold chL
  show (match h[p]? with | some (O.lst xs) => (if xs.length < sizeLine then some (D.non, xs ++ [e x]) else none).map fun p' : D × List D => (p'.1, h.set p (.lst p'.2)) | _ => none) = _
  rw [hp]
  show ((if (l.map e).length < sizeLine then some (D.non, l.map e ++ [e x]) else none).map fun p' : D × List D => (p'.1, h.set p (O.lst p'.2))) = _
  rw [List.length_map, if_pos (by rw [sizeLine_eq]; exact hl)]
  unfold oL
  rw [List.map_append]; rfl
theorem o_extendO {e : α → D} (l m : List α) (hl : l.length + m.length ≤ 16777216) (h : Hh) (p : Nat) (hp : h[p]? = some (oL e l)) : extendO (.ref p) [eL e m] h = some (.non, h.set p (oL e (l ++ m))) := by
  show chL _ (.ref p) h = _
  unfold chL
  show (match h[p]? with | some (O.lst xs) => (if xs.length + (m.map e).length ≤ sizeLine then some (D.non, xs ++ m.map e) else none).map fun p' : D × List D => (p'.1, h.set p (.lst p'.2)) | _ => none) = _
  rw [hp]
  show ((if (l.map e).length + (m.map e).length ≤ sizeLine then some (D.non, l.map e ++ m.map e) else none).map fun p' : D × List D => (p'.1, h.set p (O.lst p'.2))) = _
  rw [List.length_map, List.length_map, if_pos (by rw [sizeLine_eq]; exact hl)]
  unfold oL
  rw [List.map_append]; rfl
def insT (l : List α) (i : Int) (x : α) : List α := l.take i.toNat ++ [x] ++ l.drop i.toNat
theorem o_insertO {e : α → D} (l : List α) (i : Int) (x : α) (hl : l.length < 16777216 ∧ 0 ≤ i ∧ i < 1000000000) (h : Hh) (p : Nat) (hp : h[p]? = some (oL e l)) : insertO (.ref p) [.int i, e x] h = some (.non, h.set p (oL e (insT l i x))) := by
  show chL _ (.ref p) h = _
  unfold chL
  show (match h[p]? with | some (O.lst xs) => (if xs.length < sizeLine ∧ 0 ≤ i ∧ i < 1000000000 then some (D.non, xs.take i.toNat ++ [e x] ++ xs.drop i.toNat) else none).map fun p' : D × List D => (p'.1, h.set p (.lst p'.2)) | _ => none) = _
  rw [hp]
  show ((if (l.map e).length < sizeLine ∧ 0 ≤ i ∧ i < 1000000000 then some (D.non, (l.map e).take i.toNat ++ [e x] ++ (l.map e).drop i.toNat) else none).map fun p' : D × List D => (p'.1, h.set p (O.lst p'.2))) = _
  rw [List.length_map, if_pos (by rw [sizeLine_eq]; exact hl)]
  unfold oL insT
  rw [List.map_append, List.map_append, List.map_take, List.map_drop]; rfl
theorem isL_own {e : α → D} {s : SEnv} {i : Nat} {l : List α} (hs : Hs s i (oL e l)) (h : Hh) (p : Nat) (o : O) (hp : h[p]? = some o) (ho : Hs s i o) : isL (.ref p) h = true := by
  have : o = oL e l := by
    rcases hs with a | ⟨q, a⟩ <;> rcases ho with b | ⟨q', b⟩ <;> (rw [a] at b; first | (cases b; rfl) | cases b)
  subst this
  unfold isL
  rw [ev_seqLR, hp]; rfl
theorem qs_ifv {k : Kf L R X} {t : MT} {p : Bool} {a b : MS} {va vb : S} (ht : QT k.F s t p s1) (ha : p = true → QS k s1 a E (.nx va)) (hb : p = false → QS k s1 b E (.nx vb)) : QS k s (sIf t a b) E (.nx (if p = true then va else vb)) := fun env h Sx => by
  obtain ⟨h1, e1, S1⟩ := ht env h Sx
  unfold sIf
  rw [e1]
  cases p with
  | true => exact ha rfl env h1 S1
  | false => exact hb rfl env h1 S1
/-- a loop that always goes on -/
def okFold (f : α → S → S) (ok : α → S → Prop) : List α → S → Prop
  | [], _ => True
  | x :: xs, s => ok x s ∧ okFold f ok xs (f x s)
def foldV (f : α → S → S) (xs : List α) (s : S) : S := xs.foldl (fun s x => f x s) s
@[simp] theorem foldV_nil (f : α → S → S) (s : S) : foldV f [] s = s := rfl
@[simp] theorem foldV_cons (f : α → S → S) (x : α) (xs : List α) (s : S) : foldV f (x :: xs) s = foldV f xs (f x s) := rfl
theorem forC_fold (f : α → S → S) (ok : α → S → Prop) : ∀ (xs : List α) (s : S), okFold f ok xs s → okFor (X := X) (R := R) (fun x s => .nx (f x s)) ok xs s ∧ (forC (L := L) (X := X) (R := R) (fun x s => .nx (f x s)) xs s) = .nx (foldV f xs s)
  | [], s, _ => ⟨trivial, rfl⟩
  | x :: xs, s, h => by
    obtain ⟨a, b⟩ := forC_fold f ok xs (f x s) h.2
    exact ⟨⟨h.1, a⟩, b⟩
theorem qs_forv {k : Kf L R X} {e : α → D} {xs : List α} {T : Tg} {b : MS} {mi : MI} {f : α → S → S} {ok : α → S → Prop} {s0 : S} (hi : QI k.F s mi (xs.map e) s1) (w : Weak s1 (E s0)) (hb : ∀ x ∈ xs, Bd T (e x))
    (hs : ∀ x ∈ xs, ∀ st, ok x st → QS (⟨k.F, k.Z, k.EX, E⟩ : Kf S R X) (bS T (e x) (E st)) b E (.nx (f x st))) (hok : okFold f ok xs s0) : QS k s (sFor mi T b) E (.nx (foldV f xs s0)) := by
  obtain ⟨a, b⟩ := forC_fold (L := L) (X := X) (R := R) f ok xs s0 hok
  rw [← b]
  exact qs_for hi w hb hs a
end
end MR

namespace MR
open PySem PySem.Spec PyProof.Rows L2

section
variable {S S' S1 S2 L R X α β γ δ ρ : Type} {F : Fr} {s s1 s2 : SEnv} {A B : ME} {i j : Nat} {E : S → SEnv} {k : Kf L R X} {b : MS}
/-- a call that changes the thing handed in first -/
theorem q_callB2 {G : MF} {ms : MA} {ds : List D} {o o0 o' : O} {d : D} (h0 : Hs s i o0) (hB : QA F s ms ds s1) (hx : Hs s1 i o) (ho : ∀ h p, h[p]? = some o → G (.ref p :: ds) h = .ok d (h.set p o')) : QX F s (eCall G (aCons (eSlot i) ms)) d (chS s1 i o') := fun env h S => by
  obtain ⟨p0, e0, _⟩ := S.cell i o0 h0
  obtain ⟨h1, e1, S1⟩ := hB env h S
  obtain ⟨p, e2, e3⟩ := S1.cell i o hx
  rw [e0] at e2
  cases e2
  refine ⟨h1.set p0 o', ?_, S1.change hx e0 o'⟩
  unfold eCall aCons eSlot
  rw [e0]
  show (((ms env h).bind fun xs h2 => Res.ok (D.ref p0 :: xs) h2).bind fun ds h1 => G ds h1) = _
  rw [e1, bind_ok, bind_ok, ho h1 p0 e3]
/-- a name is set, a thing is changed -/
theorem qs_letX {r : ρ} {ed : ρ → D} {Ev : ρ → SEnv} {c2 : ρ → Ctl S L R X} {ok : ρ → Prop} (hA : QX k.F s A (ed r) (Ev r)) (hok : ok r) (h2 : ∀ r, ok r → QS k ((Ev r).set i (some (.v (ed r)))) b E (c2 r)) : QS k s (sSeq (sAsg A (gName i)) b) E (letC r c2) := fun env h Sx => by
  obtain ⟨h1, e1, S1⟩ := hA env h Sx
  have := h2 r hok (env.set i (some (ed r))) h1 (S1.setV i (ed r))
  unfold sSeq sAsg
  rw [e1]
  exact this
theorem qs_parX {r : ρ} {da db : ρ → D} {ms : MA} {Ev : ρ → SEnv} {c2 : ρ → Ctl S L R X} {ok : ρ → Prop} (hA : QA k.F s ms [da r, db r] (Ev r)) (hok : ok r) (h2 : ∀ r, ok r → QS k (((Ev r).set i (some (.v (da r)))).set j (some (.v (db r)))) b E (c2 r)) : QS k s (sSeq (sPar i j ms) b) E (letC r c2) := fun env h Sx => by
  obtain ⟨h1, e1, S1⟩ := hA env h Sx
  have := h2 r hok _ h1 ((S1.setV i (da r)).setV j (db r))
  unfold sSeq sPar
  rw [e1]
  exact this
theorem qs_unpL {n : Nat} {is : List Nat} {gs : MGs} {r : ρ} {e : ρ → D} {ps : ρ → List D} {Ev : ρ → SEnv} {c2 : ρ → Ctl S L R X} {ok : ρ → Prop} (hA : QX k.F s A (e r) (Ev r)) (he : ∀ r, e r = .tup (ps r)) (hg : gs = is.foldr (fun i gs => gCons (gName i) gs) gNil) (hn : ∀ r, (ps r).length = n) (hl : is.length = n) (hok : ok r)
    (h2 : ∀ r, ok r → QS k (sAll is (ps r) (Ev r)) b E (c2 r)) : QS k s (sSeq (sAsg A (gTup n gs)) b) E (letC r c2) := by
  have := qs_unp (b := b) (E := E) (c := c2 r) (k := k) (by rw [he] at hA; exact hA) hg (hn r) ((hn r).trans hl.symm) (h2 r hok)
  exact this
end
end MR

namespace MR
open PySem PySem.Spec PyProof.Rows L2

section
variable {S S' S1 S2 L R X α β γ δ ρ : Type}
theorem qs_seqV {F0 : Kf L R X} {s : SEnv} {a b : MS} {E : S → SEnv} {E1 : S1 → SEnv} {v : S1} {c2 : S1 → Ctl S L R X} {ok : S1 → Prop} (h1 : QS F0 s a E1 (.nx v)) (hok : ok v) (h2 : ∀ x, ok x → QS F0 (E1 x) b E (c2 x)) : QS F0 s (sSeq a b) E (letC v c2) := qs_seq h1 hok h2

variable {F : Fr} {s s1 s2 : SEnv} {A B : ME} {i : Nat} {E : S → SEnv} {k : Kf L R X} {b : MS}
end
end MR

namespace MR
open PySem PySem.Spec PyProof.Rows L2
section
variable {S S' S1 S2 L R X α β γ δ ρ : Type} {k : Kf L R X} {s s1 s2 : SEnv} {a b : MS} {E : S → SEnv} {E1 : S1 → SEnv} {A : ME} {i j : Nat}
theorem qs_letXV {r : ρ} {ed : ρ → D} {Ev : ρ → SEnv} {g2 : ρ → S} {ok : ρ → Prop} (hA : QX k.F s A (ed r) (Ev r)) (hok : ok r) (h2 : ∀ r, ok r → QS k ((Ev r).set i (some (.v (ed r)))) b E (.nx (g2 r))) : QS k s (sSeq (sAsg A (gName i)) b) E (.nx (letC r g2)) := qs_letX (c2 := fun x => .nx (g2 x)) hA hok h2
end
end MR
namespace MR
open PySem PySem.Spec PyProof.Rows L2
section
variable {S S' S1 S2 L R X α β γ δ ρ : Type} {k : Kf L R X} {s s1 s2 : SEnv} {b : MS} {E : S → SEnv} {A B : ME} {i j : Nat} {F : Fr}
end
end MR

namespace MR
open PySem PySem.Spec PyProof.Rows L2

section
variable {S S' S1 S2 L R X α β γ δ ρ : Type}
@[simp] theorem ctl_ite_rt (c : Prop) [Decidable c] (a b : R) : (if c then (Ctl.rt a : Ctl S L R X) else .rt b) = .rt (if c then a else b) := by split <;> rfl
theorem mem_rngT {lo hi k : Int} : k ∈ rngT lo hi ↔ lo ≤ k ∧ k < hi := by
  unfold rngT
  rw [List.mem_map]
  constructor
  · rintro ⟨i, h, rfl⟩
    have := List.mem_range.mp h
    omega
  · rintro ⟨h1, h2⟩
    exact ⟨(k - lo).toNat, List.mem_range.mpr (by omega), by omega⟩
theorem rngT_len (lo hi : Int) : (rngT lo hi).length = (hi - lo).toNat := by unfold rngT; simp
theorem atZ_of [Inhabited α] {l : List α} {i : Int} (h0 : 0 ≤ i) {x : α} (h : l[i.toNat]? = some x) : atZ l i = x := by
  unfold atZ
  rw [if_pos h0, h]; rfl
theorem at_atZ [Inhabited α] {l : List α} {i : Int} (h0 : 0 ≤ i) (h1 : i < l.length) : l[i.toNat]? = some (atZ l i) := by
  unfold atZ
  rw [if_pos h0, List.getElem?_eq_getElem (by omega)]; rfl
theorem atZ_mem [Inhabited α] {l : List α} {i : Int} (h0 : 0 ≤ i) (h1 : i < l.length) : atZ l i ∈ l := List.mem_of_getElem? (at_atZ h0 h1)
theorem inR_of {l : List α} {i : Int} (h0 : 0 ≤ i) (h1 : i < l.length) : inR l i := ⟨by omega, h1⟩
@[simp] theorem atZ_zero [Inhabited α] (x : α) (l : List α) : atZ (x :: l) (0 : Int) = x := rfl
theorem cutFrom (l : List α) {k : Int} (h : 0 ≤ k) : cutG l (some k) none = l.drop k.toNat := cut_from l k h
theorem nodup_le : ∀ (n : Nat) (l : List Int), l.Nodup → (∀ x ∈ l, 0 ≤ x ∧ x < n) → l.length ≤ n := fun n l nd h => by
  have := nodup_len n (l.map Int.toNat) (by
    rw [List.Nodup, List.pairwise_map]
    refine List.Pairwise.imp_of_mem ?_ nd
    intro a b ha hb hne e
    have := h a ha; have := h b hb; omega) fun x m => by
    obtain ⟨y, hy, rfl⟩ := List.mem_map.mp m
    have := h y hy; omega
  simpa using this
end
end MR

namespace MR
open PySem PySem.Spec PyProof.Rows L2
abbrev TRule := Wd × Int × Int × Int
abbrev TEn := Int × Wd × Int × Option Int
abbrev TRoom := List Wd × List TEn
def PlW : List Wd := [.out, .reads, .rising, .writes, .raised]
structure RmOk (n : Nat) (m : TRoom) : Prop where
  len : m.1.length = n
  pl : ∀ w ∈ m.1, w ∈ PlW
  gs : ∀ e ∈ m.2, 0 ≤ e.1 ∧ e.1 < n
  out : ∀ e ∈ m.2, m.1[e.1.toNat]? = some Wd.out
  rw : ∀ e ∈ m.2, e.2.1 = Wd.read ∨ e.2.1 = Wd.write
  nd : (m.2.map (·.1)).Nodup
theorem RmOk.few {n : Nat} {m : TRoom} (R : RmOk n m) : m.2.length ≤ n := by
  have := nodup_le n (m.2.map (·.1)) R.nd fun x hx => by
    obtain ⟨e, he, rfl⟩ := List.mem_map.mp hx
    exact R.gs e he
  simpa using this
theorem pl_cases {w : Wd} (h : w ∈ PlW) : w = .out ∨ w = .reads ∨ w = .rising ∨ w = .writes ∨ w = .raised := by simpa [PlW] using h
/-- the entry of a guest is the only one -/
theorem nodup_inj {α β : Type} {f : α → β} : ∀ {l : List α}, (l.map f).Nodup → ∀ {a b : α}, a ∈ l → b ∈ l → f a = f b → a = b
  | [], _, _, _, h, _, _ => by cases h
  | x :: xs, nd, a, b, ha, hb, h => by
    rw [List.map_cons, List.nodup_cons] at nd
    rcases List.mem_cons.mp ha with e1 | h1
    · rcases List.mem_cons.mp hb with e2 | h2
      · rw [e1, e2]
      · exact absurd (List.mem_map.mpr ⟨b, h2, by rw [← h, e1]⟩) nd.1
    · rcases List.mem_cons.mp hb with e2 | h2
      · exact absurd (List.mem_map.mpr ⟨a, h1, by rw [h, e2]⟩) nd.1
      · exact nodup_inj nd.2 h1 h2 h
theorem RmOk.one {n : Nat} {m : TRoom} (R : RmOk n m) {e f : TEn} (he : e ∈ m.2) (hf : f ∈ m.2) (h : e.1 = f.1) : e = f := nodup_inj (f := fun x : TEn => x.1) R.nd he hf h
structure DdOk (n : Nat) (d : Deed) : Prop where
  gs : d.isTick = false → 0 ≤ d.guest ∧ d.guest < n
  wd : match d with
    | .ask w _ l => (w = Wd.read ∨ w = Wd.write) ∧ (l = none ∨ ∃ k : Int, l = some k ∧ 0 ≤ k ∧ k ≤ 9)
    | .mov w _ => w = Wd.up ∨ w = Wd.down ∨ w = Wd.leave ∨ w = Wd.stop
    | .tick => True
/-- whether a guest stands in the waits -/
def stays (m : TRoom) (g : Int) : Bool := decide (g ∈ m.2.map (fun e : TEn => e.1))
def offT (g : Int) (es : List TEn) : List TEn := es.filter fun e => !decide (e.1 = g)
theorem RmOk.sub {n : Nat} {ws : List Wd} {es : List TEn} (R : RmOk n (ws, es)) (p : TEn → Bool) : RmOk n (ws, es.filter p) :=
  ⟨R.len, R.pl, fun e he => R.gs e (List.mem_filter.mp he).1, fun e he => R.out e (List.mem_filter.mp he).1, fun e he => R.rw e (List.mem_filter.mp he).1, List.Nodup.sublist (List.Sublist.map _ List.filter_sublist) R.nd⟩
theorem RmOk.put {n : Nat} {ws : List Wd} {es : List TEn} (R : RmOk n (ws, es)) {g : Int} (h0 : 0 ≤ g) {w : Wd} (hw : w ∈ PlW) : RmOk n (ws.set g.toNat w, offT g es) := by
  have R' := R.sub fun e => !decide (e.1 = g)
  refine ⟨by rw [List.length_set]; exact R.len, fun x hx => ?_, R'.gs, fun e he => ?_, R'.rw, R'.nd⟩
  · rcases List.mem_or_eq_of_mem_set hx with q | q
    · exact R.pl x q
    · rw [q]; exact hw
  · have h1 := List.mem_filter.mp he
    have h2 : e.1 ≠ g := by simpa using h1.2
    have h3 := (R.gs e h1.1).1
    rw [List.getElem?_set_ne (by omega)]
    exact R.out e h1.1
theorem RmOk.ask {n : Nat} {m : TRoom} (R : RmOk n m) {g : Int} (h0 : 0 ≤ g) (h1 : g < n) (ho : atZ m.1 g = Wd.out) (hs : stays m g = false) {w : Wd} (hw : w = Wd.read ∨ w = Wd.write) (mk : Int) (l : Option Int) : RmOk n (m.1, m.2 ++ [(g, w, mk, l)]) := by
  have len := R.len
  refine ⟨R.len, R.pl, fun e he => ?_, fun e he => ?_, fun e he => ?_, ?_⟩
  · rcases List.mem_append.mp he with h | h
    · exact R.gs e h
    · rw [List.mem_singleton.mp h]; exact ⟨h0, h1⟩
  · rcases List.mem_append.mp he with h | h
    · exact R.out e h
    · rw [List.mem_singleton.mp h]
      have := at_atZ (l := m.1) h0 (by omega)
      rw [ho] at this; exact this
  · rcases List.mem_append.mp he with h | h
    · exact R.rw e h
    · rw [List.mem_singleton.mp h]; exact hw
  · show ((m.2 ++ [(g, w, mk, l)]).map (fun e : TEn => e.1)).Nodup
    rw [List.map_append, List.nodup_append]
    refine ⟨R.nd, by simp, fun a ha b hb => ?_⟩
    have : b = g := by simpa using hb
    subst this
    intro z
    subst z
    exact absurd ha (of_decide_eq_false hs)
class FitE {α : Type} (e : α → D) where
  n : Nat
  f : ∀ a, fit n (e a) = true
section
variable {α β γ δ : Type}
instance : FitE D.int := ⟨1, fun _ => rfl⟩
instance : FitE D.bl := ⟨1, fun _ => rfl⟩
instance : FitE eW := ⟨1, fun w => w.ok⟩
instance {e : α → D} [i : FitE e] : FitE (eO e) := ⟨i.n + 1, fun a => by
  cases a with
  | none => rfl
  | some a => exact fit_le (Nat.le_succ _) (i.f a)⟩
theorem fit_list {e : α → D} [i : FitE e] (l : List α) : (l.map e).all (fit i.n) = true := List.all_eq_true.mpr fun d hd => by
  obtain ⟨a, _, rfl⟩ := List.mem_map.mp hd
  exact i.f a
instance {e : α → D} [i : FitE e] : FitE (eS e) := ⟨i.n + 1, fun l => fit_list l⟩
instance {e : α → D} [i : FitE e] : FitE (eL e) := ⟨i.n + 1, fun l => fit_list l⟩
instance {a : α → D} [i : FitE a] : FitE (eT1 a) := ⟨i.n + 1, fun p => fit_tup.mpr fun d hd => by
  rw [List.mem_singleton.mp hd]; exact i.f p⟩
instance {a : α → D} {b : β → D} [i : FitE a] [j : FitE b] : FitE (eT2 a b) := ⟨max i.n j.n + 1, fun p => fit_tup.mpr fun d hd => by
  simp only [List.mem_cons, List.not_mem_nil, or_false] at hd
  rcases hd with rfl | rfl
  · exact fit_le (Nat.le_max_left _ _) (i.f _)
  · exact fit_le (Nat.le_max_right _ _) (j.f _)⟩
instance {a : α → D} {b : β → D} {c : γ → D} [i : FitE a] [j : FitE b] [k : FitE c] : FitE (eT3 a b c) := ⟨max i.n (max j.n k.n) + 1, fun p => fit_tup.mpr fun d hd => by
  simp only [List.mem_cons, List.not_mem_nil, or_false] at hd
  rcases hd with rfl | rfl | rfl
  · exact fit_le (by omega) (i.f _)
  · exact fit_le (by omega) (j.f _)
  · exact fit_le (by omega) (k.f _)⟩
instance {a : α → D} {b : β → D} {c : γ → D} {d : δ → D} [i : FitE a] [j : FitE b] [k : FitE c] [l : FitE d] : FitE (eT4 a b c d) := ⟨max i.n (max j.n (max k.n l.n)) + 1, fun p => fit_tup.mpr fun d hd => by
  simp only [List.mem_cons, List.not_mem_nil, or_false] at hd
  rcases hd with rfl | rfl | rfl | rfl
  · exact fit_le (by omega) (i.f _)
  · exact fit_le (by omega) (j.f _)
  · exact fit_le (by omega) (k.f _)
  · exact fit_le (by omega) (l.f _)⟩
instance : FitE eDd := ⟨3, fun d => by
  cases d with
  | ask w g l =>
    refine fit_tup.mpr fun d hd => ?_
    simp only [List.mem_cons, List.not_mem_nil, or_false] at hd
    rcases hd with rfl | rfl | rfl
    · exact w.ok
    · rfl
    · cases l <;> rfl
  | mov w g =>
    refine fit_tup.mpr fun d hd => ?_
    simp only [List.mem_cons, List.not_mem_nil, or_false] at hd
    rcases hd with rfl | rfl
    · exact w.ok
    · rfl
  | tick =>
    refine fit_tup.mpr fun d hd => ?_
    simp only [List.mem_cons, List.not_mem_nil, or_false] at hd
    rw [hd]
    exact Wd.ok _⟩
end
end MR

namespace MR
open PySem PySem.Spec PyProof.Rows L2
section
variable {α β γ : Type} {F : Fr} {s s1 s2 s3 : SEnv} {d d2 : D}
theorem o_slO (e : α → D) (l : List α) (lo hi : Option Int) (h : Hh) (p : Nat) (hp : h[p]? = some (oL e l)) : sliceO (.ref p) lo hi h = some (eL e (cutG l lo hi)) := by
  show (seqL (.ref p) h).map (fun ds => D.lst (cutG ds lo hi)) = _
  have : seqL (.ref p) h = some (l.map e) := by
    show (match h[p]? with | some (O.lst ds) => some ds | _ => none) = _
    rw [hp]; rfl
  rw [this]
  show some (D.lst (cutG (l.map e) lo hi)) = _
  rw [cut_map]; rfl
end
end MR

namespace MR
open PySem PySem.Spec PyProof.Rows L2
section
variable {S L R X α : Type} {k : Kf L R X} {s s1 s2 : SEnv} {E : S → SEnv} {c : Ctl S L R X} {m : MS}
theorem o_isiWS (w : Wd) (h : Hh) : isiO [eW w, .glb (.ty "str")] h = some (.bl true) := by
  show isiO [.str w.val, .glb (.ty "str")] h = _
  rw [ev_isi, ev_tyS]; show (kitB "str" "str").map D.bl = _; rw [kit_str.2.2.2.1]; rfl
theorem o_isiII (i : Int) (h : Hh) : isiO [.int i, .glb (.ty "int")] h = some (.bl true) := by
  rw [ev_isi, ev_tyI]; show (kitB "int" "int").map D.bl = _; rw [kit_int.2.2.2.2.2]; rfl
theorem o_isiIB (i : Int) (h : Hh) : isiO [.int i, .glb (.ty "bool")] h = some (.bl false) := by
  rw [ev_isi, ev_tyI]; show (kitB "int" "bool").map D.bl = _; rw [kit_int.2.2.2.2.1]; rfl
end
end MR

namespace MR
open PySem PySem.Spec PyProof.Rows L2
section
variable {F : Fr} {s s' s0 s1 s2 s3 : SEnv} {env env' : DEnv} {h h' : Hh} {i j p q : Nat} {o o' : O} {d d2 d3 : D} {A B : ME} {ms : MA} {ds : List D}
/-- these slots tell these places -/
inductive Hid (s : SEnv) : List (Nat × Nat × O) → Prop where
  | nil : Hid s []
  | cons {j q : Nat} {o : O} {xs : List (Nat × Nat × O)} : s[j]? = some (some (Sl.hid q o)) → Hid s xs → Hid s ((j, q, o) :: xs)
theorem Hid.all : ∀ {xs : List (Nat × Nat × O)}, Hid s xs → ∀ x ∈ xs, s[x.1]? = some (some (Sl.hid x.2.1 x.2.2))
  | _, .nil, _, m => nomatch m
  | _, .cons e t, x, m => by
    rcases List.mem_cons.mp m with rfl | m
    · exact e
    · exact t.all x m
/-- the same places hold something else -/
inductive Chg (s : SEnv) (F : Fr) : List (Nat × Nat × O) → Prop where
  | nil : Chg s F []
  | cons {j q : Nat} {o o' : O} {xs : List (Nat × Nat × O)} : s[j]? = some (some (Sl.hid q o)) → (F.h0.length ≤ q ∨ q ∈ F.B) → Chg s F xs → Chg s F ((j, q, o') :: xs)
theorem Chg.set {xs : List (Nat × Nat × O)} {j q : Nat} {o : O} (c : Chg s F xs) (n : j ∉ xs.map (·.1)) : Chg (s.set j (some (.hid q o))) F xs := by
  induction c with
  | nil => exact .nil
  | cons e b t ih =>
    rw [List.map_cons, List.mem_cons, not_or] at n
    exact .cons (by rw [List.getElem?_set_ne n.1]; exact e) b (ih n.2)
variable {α β γ : Type}
variable {S S' S1 L R X T : Type} {k : Kf L R X} {E : S → SEnv} {b : MS} {c : Ctl S L R X}
end
end MR
namespace MR
open PySem PySem.Spec PyProof.Rows L2
section
variable {S L R X ρ : Type} {k : Kf L R X} {s s1 : SEnv} {E : S → SEnv} {a b m : MS} {c : Ctl S L R X} {A : ME} {i : Nat}
end
end MR
namespace MR
open PySem PySem.Spec PyProof.Rows L2
section
variable {S L R X ρ : Type} {k : Kf L R X} {s s1 : SEnv} {E : S → SEnv} {a b m : MS} {c : Ctl S L R X} {A : ME} {i j p : Nat}
end
end MR

namespace MR
open PySem PySem.Spec PyProof.Rows L2

section
variable {S S' S1 S2 L R X α β γ δ ρ : Type}
variable {F : Fr} {s s1 s2 : SEnv} {A B C : ME} {i : Nat} {E : S → SEnv} {k : Kf L R X} {b : MS}
end
end MR

namespace MR
open PySem PySem.Spec PyProof.Rows L2
section
variable {F : Fr} {s s1 : SEnv} {A : ME}
theorem ints_map : ∀ l : List Int, intsOf (l.map D.int) = some l
  | [] => rfl
  | x :: l => by
    rw [List.map_cons, ev_intsOf, ints_map l]; rfl
theorem q_lenSet {d : D} {n : Int} (hA : QX F s A d s1) (ho : ∀ h, lenSetO d h = some (.int n)) : QX F s (eLenSet A) (.int n) s1 := fun env h S => by
  obtain ⟨h1, e1, S1⟩ := hA env h S
  refine ⟨h1, ?_, S1⟩
  unfold eLenSet
  rw [e1, bind_ok, ho]; rfl
theorem o_setI (l : List Int) (hl : l.length < 64) (h : Hh) : lenSetO (eL D.int l) h = some (.int (setN l)) := by
  show (match intsOf (l.map D.int) with | some ns => if ns.length < 64 then some (D.int (setN ns)) else none | none => _) = _
  rw [ints_map]
  exact if_pos hl
theorem o_isiTup (xs : List D) (h : Hh) : isiO [.tup xs, .glb (.ty "tuple")] h = some (.bl true) := by
  rw [ev_isi, ev_tyT]; show (kitB "tuple" "tuple").map D.bl = _; rw [kit_tuple.2.2.1]; rfl
theorem setN_nodup {l : List Int} (h : l.Nodup) : setN l = l.length := by
  have key : ∀ (k : Nat), k ≤ l.length → firstMet (fun i => l.getD i 0) k = l.take k := by
    intro k
    induction k with
    | zero => intro _; rfl
    | succ k ih =>
      intro hk
      rw [firstMet_succ, ih (by omega)]
      have e : l.getD k 0 = l[k] := by rw [List.getD_eq_getElem?_getD, List.getElem?_eq_getElem (by omega)]; rfl
      rw [e]
      unfold step_dedup
      have no : (l.take k).any (· == l[k]) = false := by
        rw [List.any_eq_false]
        intro x hx hz
        have hz : x = l[k] := by simpa using hz
        obtain ⟨j, hj, rfl⟩ := List.mem_iff_getElem.mp hx
        rw [List.getElem_take] at hz
        have hj2 : j < k := by rw [List.length_take] at hj; omega
        have hn := List.pairwise_iff_getElem.mp h j k (by omega) (by omega) hj2
        exact hn hz
      rw [no, List.take_succ_eq_append_getElem (by omega)]
      rfl
  unfold setN
  rw [key l.length (Nat.le_refl _), List.take_length]
end
end MR

namespace MR
open PySem PySem.Spec PyProof.Rows L2
end MR

namespace MR
open PySem PySem.Spec PyProof.Rows L2

/-- texts of signs that there are -/
structure Tx where
  val : Str
  ok : PyData.strOk val = true
theorem Tx.ext {a b : Tx} (h : a.1 = b.1) : a = b := by
  cases a; cases b
  cases h; rfl
instance : DecidableEq Tx := fun a b => if h : a.1 = b.1 then isTrue (Tx.ext h) else isFalse fun z => h (by rw [z])
def eX : Tx → D := fun t => .str t.1
theorem ok_iff {x : Str} : PyData.strOk x = true ↔ ∀ c ∈ x.cps.toList, c < 0x110000 := by
  unfold PyData.strOk
  rw [← Array.all_toList, List.all_eq_true]
  constructor
  · intro h c hc; exact of_decide_eq_true (h c hc)
  · intro h c hc; exact decide_eq_true (h c hc)
theorem cps_app (a b : Str) : (a ++ b).cps = a.cps ++ b.cps := rfl
theorem str_ext {a b : Str} (h : a.cps.toList = b.cps.toList) : a = b := by
  cases a; cases b
  exact congrArg Str.mk (Array.toList_inj.mp h)
theorem str_assoc (a b c : Str) : a ++ b ++ c = a ++ (b ++ c) := str_ext (by rw [cps_app, cps_app, cps_app, cps_app, Array.append_assoc])
theorem str_nil (a : Str) : a ++ Str.empty = a := str_ext (by rw [cps_app]; show (a.cps ++ (#[] : Array Nat)).toList = _; simp)
theorem nil_str (a : Str) : Str.empty ++ a = a := str_ext (by rw [cps_app]; show ((#[] : Array Nat) ++ a.cps).toList = _; simp)
theorem ok_app {a b : Str} (ha : PyData.strOk a = true) (hb : PyData.strOk b = true) : PyData.strOk (a ++ b) = true := by
  rw [ok_iff] at *
  intro c hc
  rw [cps_app, Array.toList_append] at hc
  rcases List.mem_append.mp hc with h | h
  · exact ha c h
  · exact hb c h
theorem ok_of (s : String) : PyData.strOk (Str.ofString s) = true := by
  rw [ok_iff]
  intro c hc
  have e : (Str.ofString s).cps.toList = s.toList.map Char.toNat := by
    show (cpsOfBytes 0 0 s.toByteArray.data.toList).toArray.toList = _
    rw [cpsOfBytes_string]
  rw [e] at hc
  obtain ⟨x, _, rfl⟩ := List.mem_map.mp hc
  have h := x.valid
  simp only [UInt32.isValidChar, Nat.isValidChar] at h
  show x.val.toNat < _
  omega
theorem ok_empty : PyData.strOk Str.empty = true := by decide +kernel
theorem ok_join {s : Str} (hs : PyData.strOk s = true) : ∀ ys : List Str, (∀ y ∈ ys, PyData.strOk y = true) → PyData.strOk (Str.join s ys) = true
  | [], _ => ok_empty
  | [x], h => h x List.mem_cons_self
  | x :: y :: r, h => ok_app (ok_app (h x List.mem_cons_self) hs) (ok_join hs (y :: r) fun z m => h z (List.mem_cons_of_mem _ m))
def Tx.len (t : Tx) : Nat := t.1.length
def tW (w : Wd) : Tx := ⟨w.val, w.ok⟩
def tS (s : String) : Tx := ⟨Str.ofString s, ok_of s⟩
def tZ : Tx := ⟨Str.empty, ok_empty⟩
instance : Inhabited Tx := ⟨tZ⟩
def tI (i : Int) : Tx := ⟨Str.ofString (toString i), ok_of _⟩
def tApp (a b : Tx) : Tx := ⟨a.1 ++ b.1, ok_app a.2 b.2⟩
def tRep (t : Tx) (k : Int) : Tx := if k = 1 then t else tZ
def tJoin (s : Tx) (ys : List Tx) : Tx := ⟨Str.join s.1 (ys.map (·.1)), ok_join s.2 _ fun y m => by
  obtain ⟨t, _, rfl⟩ := List.mem_map.mp m
  exact t.2⟩
theorem len_app (a b : Tx) : (tApp a b).len = a.len + b.len := Str.length_append _ _
instance : NR eX := ⟨fun _ _ => rfl⟩
instance : NN eX := ⟨fun _ _ _ => rfl⟩
instance : FitE eX := ⟨1, fun t => t.2⟩
instance pyE_x : PyE eX := ⟨0, fun t => PyData.str t.1, fun _ => rfl, fun t => t.2, fun _ => Nat.le_refl _, fun a b => by
  show (a.1 == b.1) = _
  rw [deq]
  by_cases h : a = b
  · subst h; simp
  · rw [decide_eq_false h, decide_eq_false fun z => h (Tx.ext z)], fun a => ⟨rfl, rfl⟩⟩
section
variable {F : Fr} {s s1 s2 : SEnv} {A B : ME} {α : Type} {i : Nat}
theorem q_w2t {w : Wd} (h : QX F s A (eW w) s1) : QX F s A (eX (tW w)) s1 := h
theorem o_addX (a b : Tx) (k : a.len + b.len ≤ 16777216) (h : Hh) : addO (eX a) (eX b) h = some (eX (tApp a b)) := by
  show (if a.1.length + b.1.length ≤ sizeLine then some (D.str (a.1 ++ b.1)) else none) = _
  exact if_pos k
theorem o_mulX (a : Tx) (n : Int) (k : 0 ≤ n ∧ n ≤ 1) (h : Hh) : mulC (eX a) (.int n) h = some (eX (tRep a n)) := by
  show (if 0 ≤ n ∧ n ≤ 1 then some (D.str (if n = 1 then a.1 else Str.empty)) else none) = _
  rw [if_pos k]
  unfold tRep
  by_cases h1 : n = 1
  · rw [if_pos h1, if_pos h1]; rfl
  · rw [if_neg h1, if_neg h1]; rfl
theorem o_str (n : Int) (k : n.natAbs.log2 < 1920) (h : Hh) : str1O [.int n] h = some (eX (tI n)) := if_pos k
theorem q_fmtX {t : Tx} (hA : QX F s A (eX t) s1) (k : t.len ≤ 16777216) : QX F s (eFmt A) (eX t) s1 := fun env h S => by
  obtain ⟨h1, e1, S1⟩ := hA env h S
  refine ⟨h1, ?_, S1⟩
  unfold eFmt
  rw [e1, bind_ok]
  show lift (if t.1.length ≤ sizeLine then some (D.str t.1) else none) h1 = _
  rw [if_pos (show t.1.length ≤ sizeLine from k)]; rfl
theorem q_fmtI {n : Int} (hA : QX F s A (.int n) s1) (k : n.natAbs.log2 < 1920) : QX F s (eFmt A) (eX (tI n)) s1 := fun env h S => by
  obtain ⟨h1, e1, S1⟩ := hA env h S
  refine ⟨h1, ?_, S1⟩
  unfold eFmt
  rw [e1, bind_ok]
  show lift (if n.natAbs.log2 < 1920 then some (D.str (toString n)) else none) h1 = _
  rw [if_pos k]; rfl
/-- the parts of an f-string -/
def QJ (F : Fr) (s : SEnv) (ms : List ME) (ts : List Tx) : Prop := ∀ acc : Tx, (∀ l r : List Tx, ts = l ++ r → acc.len + (l.map Tx.len).sum ≤ 16777216) → QX F s (eJs ms acc.1) (eX (ts.foldl tApp acc)) s
theorem qj_nil : QJ F s [] [] := fun acc k env h S => ⟨h, rfl, S⟩
theorem qj_cons {t : Tx} {ms : List ME} {ts : List Tx} (hA : QX F s A (eX t) s) (hj : QJ F s ms ts) : QJ F s (A :: ms) (t :: ts) := fun acc k env h S => by
  obtain ⟨h1, e1, S1⟩ := hA env h S
  have kk : (tApp acc t).len ≤ 16777216 := by
    have := k [t] ts rfl
    rw [len_app]; simpa using this
  obtain ⟨h2, e2, S2⟩ := hj (tApp acc t) (fun l r e => by
    have := k (t :: l) r (by rw [e]; rfl)
    rw [List.map_cons, List.sum_cons] at this
    rw [len_app]; omega) env h1 S1
  refine ⟨h2, ?_, S2⟩
  show ((A env h).bind fun d h1 => match d with
    | .str y => if (acc.1 ++ y).length ≤ sizeLine then eJs ms (acc.1 ++ y) env h1 else .stuck
    | _ => .stuck) = _
  rw [e1, bind_ok]
  show (if (acc.1 ++ t.1).length ≤ sizeLine then eJs ms (acc.1 ++ t.1) env h1 else .stuck) = _
  rw [if_pos (show (acc.1 ++ t.1).length ≤ sizeLine from kk)]
  exact e2
theorem q_joined {ms : List ME} {ts : List Tx} (hj : QJ F s ms ts) (k : (ts.map Tx.len).sum ≤ 16777216) : QX F s (eJoined ms) (eX (ts.foldl tApp tZ)) s := hj tZ fun l r e => by
  have : (ts.map Tx.len).sum = (l.map Tx.len).sum + (r.map Tx.len).sum := by rw [e, List.map_append, List.sum_append]
  have : tZ.len = 0 := rfl
  omega
theorem strs_map (ys : List Tx) : strsOf (ys.map eX) = some (ys.map (·.1)) := by
  induction ys with
  | nil => rfl
  | cons y ys ih =>
    show (strsOf (ys.map eX)).map (y.1 :: ·) = _
    rw [ih]; rfl
theorem strs_mapW (ys : List Wd) : strsOf (ys.map eW) = some ((ys.map tW).map (·.1)) := by
  induction ys with
  | nil => rfl
  | cons y ys ih =>
    show (strsOf (ys.map eW)).map (y.val :: ·) = _
    rw [ih]; rfl
def JoinB (a : Tx) (ys : List Tx) : Prop := (ys.map Tx.len).sum + ys.length * a.len ≤ 16777216
theorem join_of {a : Tx} {ys : List Tx} {x : D} {h : Hh} {ds : List D} (e1 : seqD x h = some ds) (e2 : strsOf ds = some (ys.map (·.1))) (k : JoinB a ys) : joinO a.1 x h = some (eX (tJoin a ys)) := by
  unfold joinO
  rw [e1, Option.bind_some, e2, Option.bind_some]
  have e : ((ys.map (·.1)).map (·.length)).sum + (ys.map (·.1)).length * a.1.length = (ys.map Tx.len).sum + ys.length * a.len := by
    rw [List.map_map, List.length_map]; rfl
  rw [if_pos (by rw [e]; exact k)]
  unfold Txt.join
  rw [StrLaws.glued_eq_join]; rfl
theorem q_join {a : Tx} {ys : List Tx} {x : D} (hA : QX F s A (eX a) s1) (hB : QX F s1 B x s2) (hx : ∀ h, ∃ ds, seqD x h = some ds ∧ strsOf ds = some (ys.map (·.1))) (k : JoinB a ys) : QX F s (eJoin A B) (eX (tJoin a ys)) s2 := fun env h S => by
  obtain ⟨h1, e1, S1⟩ := hA env h S
  obtain ⟨h2, e2, S2⟩ := hB env h1 S1
  refine ⟨h2, ?_, S2⟩
  unfold eJoin
  rw [e1, bind_ok]
  show ((B env h1).bind fun x h2 => lift (joinO a.1 x h2) h2) = _
  rw [e2, bind_ok]
  obtain ⟨ds, z1, z2⟩ := hx h2
  rw [join_of z1 z2 k]; rfl
theorem sx_L (ys : List Tx) (h : Hh) : ∃ ds, seqD (eL eX ys) h = some ds ∧ strsOf ds = some (ys.map (·.1)) := ⟨_, rfl, strs_map ys⟩
theorem sx_SW (ys : List Wd) (h : Hh) : ∃ ds, seqD (eS eW ys) h = some ds ∧ strsOf ds = some ((ys.map tW).map (·.1)) := ⟨_, rfl, strs_mapW ys⟩
theorem q_joinO {a : Tx} {ys : List Tx} (hA : QX F s A (eX a) s1) (hx : Hs s1 i (oL eX ys)) (k : JoinB a ys) : QX F s (eJoin A (eSlot i)) (eX (tJoin a ys)) s1 := fun env h S => by
  obtain ⟨h1, e1, S1⟩ := hA env h S
  obtain ⟨p, e2, e3⟩ := S1.cell i _ hx
  refine ⟨h1, ?_, S1⟩
  unfold eJoin eSlot
  rw [e1, bind_ok]
  show (Res.bind (match env[i]? with | some (some d) => Res.ok d h1 | _ => .stuck) fun x h2 => lift (joinO a.1 x h2) h2) = _
  rw [e2]
  show lift (joinO a.1 (.ref p) h1) h1 = _
  have z1 : seqD (.ref p) h1 = some (ys.map eX) := by
    show (match h1[p]? with | some (O.lst xs) => some xs | _ => none) = _
    rw [e3]; rfl
  rw [join_of z1 (strs_map ys) k]; rfl
/-- what stands behind a deed's guest -/
def _root_.MR.Deed.tail : Deed → List (Option Int)
  | .ask _ _ l => [l]
  | _ => []
/-- str(None or a number) -/
def tO (o : Option Int) : Tx := match o with
  | none => tS "None"
  | some i => tI i
theorem o_strO (o : Option Int) (k : o.isSome = true → (o.getD default).natAbs.log2 < 1920) (h : Hh) : str1O [eO D.int o] h = some (eX (tO o)) := by
  cases o with
  | none => rfl
  | some i => exact if_pos (k rfl)
/-- a stroke for None -/
def eDash : Option Int → D := fun o => match o with
  | none => .str "-"
  | some i => .int i
def tD (o : Option Int) : Tx := match o with
  | none => tS "-"
  | some i => tI i
instance : NR eDash := ⟨fun a n => by cases a <;> rfl⟩
theorem q_fmtD {o : Option Int} (hA : QX F s A (eDash o) s1) (k : o.isSome = true → (o.getD default).natAbs.log2 < 1920) : QX F s (eFmt A) (eX (tD o)) s1 := by
  cases o with
  | none => exact q_fmtX (t := tS "-") hA (by decide +kernel)
  | some i => exact q_fmtI hA (k rfl)
section
variable {S L R X : Type} {k : Kf L R X} {E : S → SEnv} {b : MS} {c : Ctl S L R X}
theorem qs_dash {v : Option Int} (hx : s[i]? = some (some (Sl.v (eO D.int v)))) (hA : QX k.F s A (.str "-") s) (h2 : QS k (s.set i (some (.v (eDash v)))) b E c) : QS k s (sSeq (sIf (tE (eOp2 (isNO false) (eSlot i) (eC .non))) (sAsg A (gName i)) sNext) b) E c := fun env h Sx => by
  have e0 := Sx.val i _ hx
  cases v with
  | none =>
    obtain ⟨h1, e1, S1⟩ := hA env h Sx
    have := h2 _ _ (S1.setV i (.str "-"))
    have t : tE (eOp2 (isNO false) (eSlot i) (eC .non)) env h = .ok true h := by
      unfold tE eOp2 eSlot
      rw [e0]; rfl
    unfold sSeq sIf
    rw [t]
    show OutOk k E ((sAsg A (gName i) env h).seq b) c
    unfold sAsg
    rw [e1]
    exact this
  | some n =>
    have es : s.set i (some (.v (eDash (some n)))) = s := by
      have hi := (List.getElem?_eq_some_iff.mp hx)
      obtain ⟨hi, hv⟩ := hi
      apply List.ext_getElem?
      intro j
      rw [List.getElem?_set]
      split
      · rename_i hj
        subst hj
        first | (rw [if_pos hi, hx]; rfl) | (rw [hx]; rfl)
      · rfl
    rw [es] at h2
    have := h2 env h Sx
    have t : tE (eOp2 (isNO false) (eSlot i) (eC .non)) env h = .ok false h := by
      unfold tE eOp2 eSlot
      rw [e0]; rfl
    unfold sSeq sIf
    rw [t]
    exact this
end
end
end MR

namespace MR
open PySem PySem.Spec PyProof.Rows L2
/-- a truth handed back stays as it is -/
theorem frz_bl {F : MF} {ds : List D} {h : Hh} {b : Bool} (e : F ds h = .ok (.bl b) h) : frzF F ds h = .ok (.bl b) h := frzF_of (g := []) (by rw [e, List.append_nil]) rfl
/-- what is raised goes through -/
theorem frz_err {F : MF} {ds : List D} {h h' : Hh} {x : Exn} (e : F ds h = .err x h') : frzF F ds h = .err x h' := by
  unfold frzF; rw [e]
end MR

namespace MR
open PySem PySem.Spec PyProof.Rows L2
section
variable {S L R : Type} {k : Kf L R Exn} {s s1 : SEnv} {E : S → SEnv}
end
end MR

namespace MR
open PySem PySem.Spec PyProof.Rows L2
/-- five parts -/
def eT5 {α β γ δ ε : Type} (a : α → D) (b : β → D) (c : γ → D) (d : δ → D) (e : ε → D) : α × β × γ × δ × ε → D := fun p => .tup [a p.1, b p.2.1, c p.2.2.1, d p.2.2.2.1, e p.2.2.2.2]
instance {α β γ δ ε : Type} {a : α → D} {b : β → D} {c : γ → D} {d : δ → D} {e : ε → D} [NR a] [NR b] [NR c] [NR d] [NR e] : NR (eT5 a b c d e) := ⟨fun p n => by show bels n [_, _, _, _, _] = true; simp [bels, NR.nr (e := a), NR.nr (e := b), NR.nr (e := c), NR.nr (e := d), NR.nr (e := e)]⟩
instance {α β γ δ ε : Type} {a : α → D} {b : β → D} {c : γ → D} {d : δ → D} {e : ε → D} : NN (eT5 a b c d e) := ⟨fun _ _ _ => rfl⟩
mutual
theorem den_fd {G : Gm} {rho rho' : Rm} {H H' : Hp} {hh hh' : Hh} (R : Rep G rho hh H) (S : Step rho H rho' H') (R' : Rep G rho' hh' H') : ∀ (d d' : D) (v : V), Den G rho' H' d v → frzD hh.length hh' d = some d' → Den G rho H' d' v
  | .ref i, d', v, q, e => by
    rw [frzD] at e
    rw [Den] at q
    obtain ⟨a, e1, rfl⟩ := q
    obtain ⟨ex, ee, hex⟩ := S.ext
    split at e
    · rename_i hi
      cases e
      rw [Den]
      refine ⟨a, ?_, rfl⟩
      rw [ee, List.getElem?_append_left (by rw [R.len]; exact hi)] at e1
      exact e1
    · rename_i hi
      split at e
      · rename_i xs e2
        split at e
        · rename_i hb
          cases e
          obtain ⟨vs, e3, l, q⟩ := R'.ob i a _ e1 e2
          have hae : a ∈ ex := by
            rw [ee, List.getElem?_append_right (by rw [R.len]; omega)] at e1
            exact List.mem_of_getElem? e1
          have hn : H a = none := hex a hae
          rw [Den]
          refine ⟨a, vs, rfl, e3, fun hm => ?_, fun hm => ?_, l, ?_⟩
          · obtain ⟨u, e4, _⟩ := R.mut hm
            rw [hn] at e4; cases e4
          · obtain ⟨u, e4⟩ := R.hd a hm
            rw [hn] at e4; cases e4
          · exact Dens.res ⟨ex, ee⟩ (fun a _ n m => n (S.kept a m)) xs vs q (by rw [R.len]; exact hb)
        · cases e
      · rename_i kvs e2
        split at e
        · rename_i hb
          cases e
          rw [Bool.and_eq_true] at hb
          obtain ⟨xs, l0, l1, es, e3, q, k3, k4, k5⟩ := R'.ob i a _ e1 e2
          have hae : a ∈ ex := by
            rw [ee, List.getElem?_append_right (by rw [R.len]; omega)] at e1
            exact List.mem_of_getElem? e1
          have hn : H a = none := hex a hae
          obtain ⟨us, k1, k2, d1, d2⟩ := dn_split q
          rw [Den]
          refine ⟨a, xs, es, us, rfl, e3, fun hm => ?_, fun hm => ?_, l0, l1, k1, k2, k3, k4, k5, ?_, ?_⟩
          · obtain ⟨u, e4, _⟩ := R.mut hm
            rw [hn] at e4; cases e4
          · obtain ⟨u, e4⟩ := R.hd a hm
            rw [hn] at e4; cases e4
          · exact Dens.res ⟨ex, ee⟩ (fun a _ n m => n (S.kept a m)) _ _ d1 (by rw [R.len]; exact hb.1)
          · exact Dens.res ⟨ex, ee⟩ (fun a _ n m => n (S.kept a m)) _ us d2 (by rw [R.len]; exact hb.2)
        · cases e
      · cases e
  | .tup ds, d', v, q, e => by
    rw [frzD] at e
    obtain ⟨ds', e1, rfl⟩ := Option.map_eq_some_iff.mp e
    rw [Den] at q ⊢
    obtain ⟨a, vs, e2, q1, l, q2⟩ := q
    exact ⟨a, vs, e2, q1, l, dens_fd R S R' ds ds' vs q2 e1⟩
  | .wtp ds, d', v, q, e => by
    rw [frzD] at e
    obtain ⟨ds', e1, rfl⟩ := Option.map_eq_some_iff.mp e
    rw [Den] at q ⊢
    obtain ⟨a, vs, e2, q1, l, q2⟩ := q
    exact ⟨a, vs, e2, q1, l, dens_fd R S R' ds ds' vs q2 e1⟩
  | .lst ds, d', v, q, e => by
    rw [frzD] at e
    split at e
    · rename_i hb
      cases e
      obtain ⟨ex, ee, hex⟩ := S.ext
      exact Den.res ⟨ex, ee⟩ (fun a _ n m => n (S.kept a m)) _ v q (by rw [MR.bel, R.len]; exact hb)
    · cases e
  | .non, d', v, q, e => by rw [frzD] at e; cases e; exact q
  | .bl _, d', v, q, e => by rw [frzD] at e; cases e; exact q
  | .int _, d', v, q, e => by rw [frzD] at e; cases e; exact q
  | .str _, d', v, q, e => by rw [frzD] at e; cases e; exact q
  | .glb _, d', v, q, e => by rw [frzD] at e; cases e; exact q
  | .scr _, d', v, q, e => by rw [frzD] at e; cases e; rw [Den] at q ⊢; exact q
  | .dct ks ds, d', v, q, e => by
    rw [frzD] at e
    split at e
    · rename_i hb
      cases e
      obtain ⟨ex, ee, hex⟩ := S.ext
      exact Den.res ⟨ex, ee⟩ (fun a _ n m => n (S.kept a m)) _ v q (by rw [MR.bel, R.len]; exact hb)
    · cases e
theorem dens_fd {G : Gm} {rho rho' : Rm} {H H' : Hp} {hh hh' : Hh} (R : Rep G rho hh H) (S : Step rho H rho' H') (R' : Rep G rho' hh' H') : ∀ (ds ds' : List D) (vs : List V), Dens G rho' H' ds vs → frzDs hh.length hh' ds = some ds' → Dens G rho H' ds' vs
  | [], ds', vs, q, e => by rw [frzDs] at e; cases e; exact q
  | d :: ds, ds', vs, q, e => by
    rw [frzDs] at e
    rw [Dens] at q
    obtain ⟨v, r, rfl, q1, q2⟩ := q
    cases e1 : frzD hh.length hh' d with
    | none => rw [e1] at e; cases e
    | some x =>
      cases e2 : frzDs hh.length hh' ds with
      | none => rw [e1, e2] at e; cases e
      | some xs =>
        rw [e1, e2] at e
        cases e
        rw [Dens]
        exact ⟨v, r, rfl, den_fd R S R' d x v q1 e1, dens_fd R S R' ds xs r q2 e2⟩
end
/-- what was there may be changed, what a def has made is forgotten, what it hands back stands still -/
noncomputable def fdF (F : MF) : MF := fun ds h => match F ds h with
  | .ok d h' => open Classical in if h.length ≤ h'.length ∧ ∀ (i : Nat) o, i < h.length → h'[i]? = some o → h[i]? = some o ∨ O.bel h.length o then (match frzD h.length h' d with | some d' => .ok d' (h'.take h.length) | none => .stuck) else .stuck
  | .err x h' => .err x h'
  | .stuck => .stuck
theorem FnD.fd {P : Program} {w : World} {K : PySem.W.Frag} {mg : Str → Option Value} {base : Heap} {k : Nat} {f : Addr} {fd : FuncData} {ps : List Str} {F : MF} (h : FnD P w K mg base k f fd ps F) : FnD P w K mg base k f fd ps (fdF F) :=
  FnOk.imp h fun vs H Q E ⟨hl, rho, hh, ds, R, q, p⟩ => ⟨hl, rho, hh, ds, R, q, by
    unfold fdF at p
    cases e : F ds hh with
    | ok d hh' =>
      rw [e] at p
      simp only at p
      split at p
      · rename_i hc
        obtain ⟨hle, ho⟩ := hc
        cases e2 : frzD hh.length hh' d with
        | none => rw [e2] at p; exact p.elim
        | some d' =>
          rw [e2] at p
          intro rho' H' v S R' q'
          obtain ⟨ex, ee, hex⟩ := S.ext
          have h2 : ∀ a, a ∉ rho'.at_ → a ∉ rho'.res → a ∉ rho.res := fun a _ n m => n (S.kept a m)
          refine p rho H' v S.drop ⟨R.nd, fun a m => let ⟨o', e⟩ := R.hd a m; S.there a o' e, by rw [List.length_take, R.len]; omega, fun i a o e1 e2 => ?_⟩ (den_fd R S R' d d' v q' e2)
          have hi : i < hh.length := by rw [← R.len]; exact (List.getElem?_eq_some_iff.mp e1).1
          have e3 : hh'[i]? = some o := by
            rw [List.getElem?_take] at e2
            simpa [hi] using e2
          refine (R'.ob i a o (S.get e1) e3).res ⟨ex, ee⟩ h2 ?_
          rcases ho i o hi e3 with z | z
          · exact (R.ob i a o e1 z).bel
          · rw [R.len]; exact z
      · exact p.elim
    | err x hh' => rw [e] at p; exact p
    | stuck => rw [e] at p; exact p⟩
section
variable {S L R X T : Type} {F : Fr} {s s1 s2 : SEnv} {A : ME} {E : S → SEnv} {EX : X → Exn → Prop} {EL : L → SEnv} {eR : R → D}
end
end MR

namespace MR
open PySem PySem.Spec PyProof.Rows L2
/-- what may be a part of a key -/
class NkE {α : Type} (e : α → D) where
  key : α → NestedKey
  n : Nat
  nk : ∀ a, MR.nk (e a) = some (key a)
  inj : ∀ a b, key a = key b → a = b
  dep : ∀ a, (key a).depth ≤ n
theorem nks_map {α : Type} {e : α → D} [i : NkE e] : ∀ l : List α, nks (l.map e) = some (l.map i.key)
  | [] => rfl
  | a :: l => by rw [List.map_cons, nks, i.nk, nks_map l]; rfl
theorem ndep_map {α : Type} {e : α → D} [i : NkE e] : ∀ l : List α, NestedKey.depthAll (l.map i.key) ≤ i.n
  | [] => Nat.zero_le _
  | a :: l => by rw [List.map_cons, NestedKey.depthAll]; exact Nat.max_le.mpr ⟨i.dep a, ndep_map l⟩
theorem ninj_map {α : Type} {e : α → D} [i : NkE e] : ∀ l m : List α, l.map i.key = m.map i.key → l = m
  | [], [], _ => rfl
  | [], _ :: _, h => by simp at h
  | _ :: _, [], h => by simp at h
  | a :: l, b :: m, h => by
    simp only [List.map_cons, List.cons.injEq] at h
    rw [i.inj a b h.1, ninj_map l m h.2]
instance : NkE D.int := ⟨NestedKey.num, 0, fun _ => rfl, fun a b h => NestedKey.num.inj h, fun _ => Nat.le_refl _⟩
instance : NkE eW := ⟨fun w => NestedKey.text w.val, 0, fun _ => rfl, fun a b h => Wd.val_inj (NestedKey.text.inj h), fun _ => Nat.le_refl _⟩
def nkOpt {α : Type} (f : α → NestedKey) : Option α → NestedKey
  | none => .none
  | some a => f a
/-- a key part that is not None -/
class NkN {α : Type} (e : α → D) [i : NkE e] : Prop where
  nn : ∀ a, i.key a ≠ .none
instance : NkN D.int := ⟨fun _ h => nomatch h⟩
instance : NkN eW := ⟨fun _ h => nomatch h⟩
instance nkE_opt {α : Type} {e : α → D} [i : NkE e] [j : NkN e] : NkE (eO e) := ⟨nkOpt i.key, i.n, fun a => by cases a with | none => rfl | some a => exact i.nk a, fun a b h => by
  cases a with
  | none => cases b with
    | none => rfl
    | some b => exact absurd h.symm (j.nn b)
  | some a => cases b with
    | none => exact absurd h (j.nn a)
    | some b => rw [i.inj a b h], fun a => by cases a with | none => exact Nat.zero_le _ | some a => exact i.dep a⟩
instance nkE_seq {α : Type} {e : α → D} [i : NkE e] : NkE (eS e) := ⟨fun l => .tup (l.map i.key), i.n + 1, fun l => by show (nks (l.map e)).map NestedKey.tup = _; rw [nks_map]; rfl, fun a b h => ninj_map a b (NestedKey.tup.inj h), fun l => by
  rw [NestedKey.depth]; exact Nat.succ_le_succ (ndep_map l)⟩
instance nkE_t2 {α β : Type} {a : α → D} {b : β → D} [i : NkE a] [j : NkE b] : NkE (eT2 a b) := ⟨fun p => .tup [i.key p.1, j.key p.2], max i.n j.n + 1, fun p => by show (nks [_, _]).map _ = _; simp [nks, i.nk, j.nk], fun p q h => by
  have := NestedKey.tup.inj h
  simp only [List.cons.injEq, and_true] at this
  exact Prod.ext (i.inj _ _ this.1) (j.inj _ _ this.2), fun p => by
  have h1 := i.dep p.1
  have h2 := j.dep p.2
  simp only [NestedKey.depth, NestedKey.depthAll]; omega⟩
instance nkE_t3 {α β γ : Type} {a : α → D} {b : β → D} {c : γ → D} [i : NkE a] [j : NkE b] [k : NkE c] : NkE (eT3 a b c) := ⟨fun p => .tup [i.key p.1, j.key p.2.1, k.key p.2.2], max i.n (max j.n k.n) + 1, fun p => by show (nks [_, _, _]).map _ = _; simp [nks, i.nk, j.nk, k.nk], fun p q h => by
  have := NestedKey.tup.inj h
  simp only [List.cons.injEq, and_true] at this
  exact Prod.ext (i.inj _ _ this.1) (Prod.ext (j.inj _ _ this.2.1) (k.inj _ _ this.2.2)), fun p => by
  have h1 := i.dep p.1
  have h2 := j.dep p.2.1
  have h3 := k.dep p.2.2
  simp only [NestedKey.depth, NestedKey.depthAll]; omega⟩
instance nkE_t4 {α β γ δ : Type} {a : α → D} {b : β → D} {c : γ → D} {d : δ → D} [i : NkE a] [j : NkE b] [k : NkE c] [l : NkE d] : NkE (eT4 a b c d) := ⟨fun p => .tup [i.key p.1, j.key p.2.1, k.key p.2.2.1, l.key p.2.2.2], max i.n (max j.n (max k.n l.n)) + 1, fun p => by show (nks [_, _, _, _]).map _ = _; simp [nks, i.nk, j.nk, k.nk, l.nk], fun p q h => by
  have := NestedKey.tup.inj h
  simp only [List.cons.injEq, and_true] at this
  exact Prod.ext (i.inj _ _ this.1) (Prod.ext (j.inj _ _ this.2.1) (Prod.ext (k.inj _ _ this.2.2.1) (l.inj _ _ this.2.2.2))), fun p => by
  have h1 := i.dep p.1
  have h2 := j.dep p.2.1
  have h3 := k.dep p.2.2.1
  have h4 := l.dep p.2.2.2
  simp only [NestedKey.depth, NestedKey.depthAll]; omega⟩
/-- what may be a key: a tuple, not too deep -/
class NkT {α : Type} (e : α → D) [i : NkE e] : Prop where
  tup : ∀ a, ∃ ds, e a = .tup ds
  few : i.n ≤ 8
/-- one that stands still -/
def eDic {κ α : Type} (eK : κ → D) (e : α → D) (l : List (κ × α)) : D := .dct (l.map fun p => eK p.1) (l.map fun p => e p.2)
section
variable {κ α : Type} [DecidableEq κ] {eK : κ → D} {e : α → D} [i : NkE eK]
theorem any_get (k : κ) (l : List (κ × α)) : (l.any fun kv => decide (kv.1 = k)) = (getG l k).isSome := by
  induction l with
  | nil => rfl
  | cons p l ih =>
    unfold getG at ih ⊢
    rw [List.any_cons, List.find?_cons]
    by_cases h : p.1 = k
    · rw [decide_eq_true h]; rfl
    · rw [decide_eq_false h]; exact ih
variable [j : NkT eK]
end
section
variable {S S' S1 S2 L R X α β γ δ ρ κ : Type} {k : Kf L R X} {s s0 s1 s2 s3 : SEnv} {b : MS} {E : S → SEnv} {A B V I : ME} {i j q : Nat} {F : Fr} {eK : κ → D} {e : α → D}
end
instance {κ α : Type} {eK : κ → D} {e : α → D} [NR eK] [NR e] : NR (eDic eK e) := ⟨fun l n => by
  show (bels n _ && bels n _) = true
  rw [show (l.map fun p => eK p.1) = (l.map (·.1)).map eK by rw [List.map_map]; rfl, show (l.map fun p => e p.2) = (l.map (·.2)).map e by rw [List.map_map]; rfl, bels_map, bels_map]; rfl⟩
instance {κ α : Type} {eK : κ → D} {e : α → D} : NN (eDic eK e) := ⟨fun _ _ _ => rfl⟩
end MR

namespace MR
open PySem PySem.Spec PyProof.Rows L2
section
variable {κ α : Type} [DecidableEq κ] {eK : κ → D} {e : α → D} [i : NkE eK] [j : NkT eK]
end
end MR

namespace MR
open PySem PySem.Spec PyProof.Rows L2
section
variable {F : Fr} {s : SEnv} {env : DEnv} {h : Hh} {i j q : Nat} {o : O}
end
section
variable {S S' S1 S2 L R X α β : Type} {k : Kf L R X} {s s1 : SEnv} {b : MS} {E : S → SEnv} {c : Ctl S L R X}
end
end MR

namespace MR
open PySem PySem.Spec PyProof.Rows L2
section
variable {F : Fr} {s s1 : SEnv} {κ α : Type} {eK : κ → D} {e : α → D} {A : ME} {i j : Nat}
end
section
variable {α β L : Type} {F : Fr} {s s0 : SEnv} {i : Nat}
end
section
variable {S S' S1 S2 L R X ρ α : Type} {k : Kf L R X} {s : SEnv} {b : MS} {E : S → SEnv}
end
end MR

namespace MR
open PySem PySem.Spec PyProof.Rows L2
section
variable {α β : Type}
instance inh_sum [Inhabited α] : Inhabited (α ⊕ β) := ⟨.inl default⟩
def eHR (a : α → D) (b : β → D) : α ⊕ β → D
  | .inl x => .tup [.str "alike", a x]
  | .inr y => .tup [.str "parts", b y]
variable {a : α → D} {b : β → D}
instance [NR a] [NR b] : NR (eHR a b) := ⟨fun p n => by
  cases p with
  | inl x => show bels n [_, _] = true; simp [bels, NR.nr (e := a), bel]
  | inr x => show bels n [_, _] = true; simp [bels, NR.nr (e := b), bel]⟩
instance : NN (eHR a b) := ⟨fun p _ _ => by cases p <;> rfl⟩
theorem fit_two {x y : D} {n : Nat} (h1 : fit n x = true) (h2 : fit n y = true) : fit (n + 1) (.tup [x, y]) = true := fit_tup.mpr fun d hd => by
  simp only [List.mem_cons, List.not_mem_nil, or_false] at hd
  rcases hd with rfl | rfl
  · exact h1
  · exact h2
theorem fit_w {n : Nat} (h : 1 ≤ n) : fit n (.str "alike") = true ∧ fit n (.str "parts") = true := ⟨fit_le h (by decide +kernel), fit_le h (by decide +kernel)⟩
instance [i : FitE a] [j : FitE b] : FitE (eHR a b) := ⟨max (max i.n j.n) 1 + 1, fun p => by
  cases p with
  | inl x => exact fit_two (fit_w (by omega)).1 (fit_le (by omega) (i.f x))
  | inr x => exact fit_two (fit_w (by omega)).2 (fit_le (by omega) (j.f x))⟩
def pyHR (f : α → PyData) (g : β → PyData) : α ⊕ β → PyData
  | .inl x => .tuple [.str "alike", f x]
  | .inr y => .tuple [.str "parts", g y]
variable [DecidableEq α] [DecidableEq β]
instance [i : PyEO a] [j : PyEO b] : PyE (eHR a b) := ⟨i.n + j.n + 1, pyHR i.py j.py, fun p => by
  cases p with
  | inl x => show (toPys [_, _]).map _ = _; simp [toPys, i.to, toPy, pyHR]
  | inr x => show (toPys [_, _]).map _ = _; simp [toPys, j.to, toPy, pyHR], fun p => by
  cases p with
  | inl x =>
    simp only [pyHR, PyData.canLay0, PyData.canLayAll0, i.lay]
    decide +kernel
  | inr x =>
    simp only [pyHR, PyData.canLay0, PyData.canLayAll0, j.lay]
    decide +kernel, fun p => by
  cases p with
  | inl x => simp only [pyHR, PyData.depth, PyData.depthAll]; have := i.dep x; omega
  | inr x => simp only [pyHR, PyData.depth, PyData.depthAll]; have := j.dep x; omega, fun p q => by
  have n1 : (("alike" : Str) == ("parts" : Str)) = false := by decide
  have n2 : (("parts" : Str) == ("alike" : Str)) = false := by decide
  cases p with
  | inl x => cases q with
    | inl y => simp only [pyHR, PyData.eqv, PyData.eqvAll, i.eqv, Bool.and_true, beq_self_eq_true, Bool.true_and]; exact decide_eq_decide.mpr (by simp)
    | inr y => simp [pyHR, PyData.eqv, PyData.eqvAll, n1]
  | inr x => cases q with
    | inl y => simp [pyHR, PyData.eqv, PyData.eqvAll, n2]
    | inr y => simp only [pyHR, PyData.eqv, PyData.eqvAll, j.eqv, Bool.and_true, beq_self_eq_true, Bool.true_and]; exact decide_eq_decide.mpr (by simp), fun p => by cases p <;> exact ⟨rfl, rfl⟩⟩
end
section
variable {α β : Type} {F : Fr} {s s1 : SEnv} {A : ME} {a : α → D} {b : β → D}
end
end MR

namespace MR
open PySem PySem.Spec PyProof.Rows L2
section
variable {α β : Type} {a : α → D} {b : β → D}
end
end MR

namespace MR
open PySem PySem.Spec PyProof.Rows L2
def tOf (s : Str) : Tx := if h : PyData.strOk s = true then ⟨s, h⟩ else tZ
theorem tOf_val {s : Str} (h : PyData.strOk s = true) : (tOf s).1 = s := by unfold tOf; rw [dif_pos h]
theorem tOf_self (t : Tx) : tOf t.1 = t := Tx.ext (tOf_val t.2)
def tSplit (a b : Tx) : List Tx := (Txt.split a.1 b.1).map tOf
def SplB (a b : Tx) : Prop := (b.len == 0) = false ∧ a.len + 2 ≤ 16777216 ∧ ∀ s ∈ Txt.split a.1 b.1, PyData.strOk s = true
theorem split_D {a b : Tx} (k : SplB a b) : splO (eX a) (eX b) = some ((tSplit a b).map eX) := by
  show (if (b.1.length == 0) = false ∧ a.1.length + 2 ≤ sizeLine then some ((Txt.split a.1 b.1).map D.str) else none) = _
  rw [if_pos ⟨k.1, by rw [sizeLine_eq]; exact k.2.1⟩]
  unfold tSplit
  rw [List.map_map]
  congr 1
  exact List.map_congr_left fun s m => by show D.str s = D.str (tOf s).1; rw [tOf_val (k.2.2 s m)]
theorem ev_split {a b : Tx} {ma mb : ME} {env : DEnv} {h h1 h2 : Hh} (ea : ma env h = .ok (eX a) h1) (eb : mb env h1 = .ok (eX b) h2) (k : SplB a b) : aSplit ma mb env h = .ok ((tSplit a b).map eX) h2 := by
  unfold aSplit
  rw [ea, bind_ok, if_pos (show isS (eX a) = true from rfl), eb, bind_ok, split_D k]
  rfl
section
variable {F : Fr} {s s1 s2 : SEnv} {A B : ME}
/-- the word that a text is -/
def wOf (t : Tx) : Wd := (Wd.of t.1).getD .out
theorem wOf_tW (w : Wd) : wOf (tW w) = w := by unfold wOf; show (Wd.of w.val).getD .out = w; rw [Wd.of_val]; rfl
end
def sgOk (t : Tx) : Bool := t.1.cps.toList.all fun c => decide (c ∈ (("0123456789" : Str)).cps.toList)
def numT (w : Tx) (m : Int) : Option Int := if (decide ((1 : Int) ≤ w.len) && decide ((w.len : Int) ≤ m)) && sgOk w then PySem.intText? w.1 else none
def NumB (w : Tx) (m : Int) : Prop := w.len ≤ 640 ∧ (((decide ((1 : Int) ≤ w.len) && decide ((w.len : Int) ≤ m)) && sgOk w) = true → (PySem.intText? w.1).isSome = true)
def sgL (l : List Nat) : List D := l.map fun c => D.bl (decide (c ∈ (("0123456789" : Str)).cps.toList))
def sgB (l : List Nat) : List Bool := l.map fun c => decide (c ∈ (("0123456789" : Str)).cps.toList)
theorem signs_all (l : List Nat) : truths (sgL l) = some (sgB l) := by
  induction l with
  | nil => rfl
  | cons c cs ih =>
    show (truths (sgL cs)).map (_ :: ·) = _
    rw [ih]; rfl
theorem all_signs (t : Tx) : (sgB t.1.cps.toList).all id = sgOk t := by
  unfold sgB sgOk
  rw [List.all_map]
  rfl
end MR

namespace MR
open PySem PySem.Spec PyProof.Rows L2
section
variable {S L R X α : Type} {k : Kf L R X} {s s1 s2 : SEnv} {b : MS} {E : S → SEnv} {A B : ME} {c : Ctl S L R X} {F : Fr}
end
end MR

namespace MR
open PySem PySem.Spec PyProof.Rows L2
/-- what stands for a guest -/
inductive Od where
  | int (i : Int) | bl (b : Bool) | non | str (t : Tx)
def eOd : Od → D
  | .int i => .int i
  | .bl b => .bl b
  | .non => .non
  | .str t => .str t.1
/-- what stands for a row of deeds -/
inductive Rw where
  | row (l : List Deed) | lst (l : List Deed) | non
def eRw : Rw → D
  | .row l => eS eDd l
  | .lst l => eL eDd l
  | .non => .non
/-- what is shown -/
inductive Th where
  | four (w : Wd) (o : Od) (a b : Rw) | five (w : Wd) (o : Od) (a b : Rw) | three (w : Wd) (o : Od) (a : Rw) | lst4 (w : Wd) (o : Od) (a b : Rw)
  | non | bl (b : Bool) | int (i : Int) | str (w : Wd) | nil | one (w : Wd) | lnil | dct
def eTh : Th → D
  | .four w o a b => .tup [eW w, eOd o, eRw a, eRw b]
  | .five w o a b => .tup [eW w, eOd o, eRw a, eRw b, .int 0]
  | .three w o a => .tup [eW w, eOd o, eRw a]
  | .lst4 w o a b => .lst [eW w, eOd o, eRw a, eRw b]
  | .non => .non
  | .bl b => .bl b
  | .int i => .int i
  | .str w => eW w
  | .nil => .tup []
  | .one w => .tup [eW w]
  | .lnil => .lst []
  | .dct => .dct [] []
instance : Inhabited Od := ⟨.non⟩
instance : Inhabited Rw := ⟨.non⟩
instance : Inhabited Th := ⟨.non⟩
instance : NR eOd := ⟨fun a n => by cases a <;> rfl⟩
instance : NR eRw := ⟨fun a n => by
  cases a with
  | row l => exact NR.nr (e := eS eDd) l n
  | lst l => exact NR.nr (e := eL eDd) l n
  | non => rfl⟩
instance : NR eTh := ⟨fun a n => by
  cases a <;> first | rfl | (show bels n _ = true; simp [bels, NR.nr (e := eW), NR.nr (e := eOd), NR.nr (e := eRw), bel])⟩
section
variable {F : Fr} {s s1 s2 : SEnv} {A B : ME}
end
end MR

namespace MR
open PySem PySem.Spec PyProof.Rows L2
section
variable {S L R X : Type} {k : Kf L R X} {s s1 s2 : SEnv} {E : S → SEnv}
end
end MR

namespace MR
open PySem PySem.Spec PyProof.Rows L2
section
variable {S L R X ρ : Type} {k : Kf L R X} {s s1 s2 : SEnv} {E : S → SEnv} {b sm : MS} {F0 : MF} {ms : MA} {as : List D} {cond : Bool} {r : ρ} {e : ρ → D} {psf : ρ → List D} {c2 : ρ → Ctl S L R X} {ok : ρ → Prop} {cs : List Str} {cl : Str} {x : Exn} {v : R}
end
section
variable {F : Fr} {s s1 s2 : SEnv} {A B : ME}
end
end MR

namespace MR
open PySem PySem.Spec PyProof.Rows L2
section
variable {κ α : Type} [DecidableEq κ] {eK : κ → D} {e : α → D} [i : NkE eK] [j : NkT eK]
end
end MR

namespace MR
open PySem PySem.Spec PyProof.Rows L2
section
variable {S L R X α β : Type} {k : Kf L R X} {s : SEnv} {E : S → SEnv} {ea : α → D} {eb : β → D}
end
section
variable {S L R X α β : Type} {k : Kf L R X} {s : SEnv} {E : S → SEnv} {ea : α → D} {eb : β → D}
end
section
variable {F : Fr} {s : SEnv} {d : D}
end
end MR

namespace MR
open PySem PySem.Spec PyProof.Rows L2
section
variable {F : DEnv → Prop} {s s1 : SEnv} {A : ME} {i : Nat}
section
variable {S L R X : Type} {k : Kf L R X} {E : S → SEnv} {b : MS} {c : Ctl S L R X}
end
end
end MR

namespace MR
open PySem PySem.Spec PyProof.Rows L2
section
variable {P : Program} {w : World} {K : PySem.W.Frag} {mg : Str → Option Value} {base : Heap}
theorem FnDN.frz {k : Nat} {f : Addr} {fd : FuncData} {ps : List Str} {F : MF} (h : FnDN P w K mg base k f fd ps F) : FnDN P w K mg base k f fd ps (frzF F) :=
  FnOk.imp h fun vs H Q E ⟨hl, rho, hh, ds, R, q, p⟩ => ⟨hl, rho, hh, ds, R, q, by
    unfold frzF at p
    cases e : F ds hh with
    | ok d hh' =>
      rw [e] at p
      simp only at p
      split at p
      · rename_i hc
        obtain ⟨g, rfl⟩ := hc
        cases e2 : frzD hh.length (hh ++ g) d with
        | none => rw [e2] at p; exact p.elim
        | some d' =>
          rw [e2] at p
          intro rho' H' v S R' q'
          obtain ⟨ex, ee, hex⟩ := S.ext
          have h2 : ∀ a, a ∉ rho'.at_ → a ∉ rho'.res → a ∉ rho.res := fun a _ n m => n (S.kept a m)
          exact p rho H' v S.drop (R.drop S ⟨ex, ee⟩ h2 R') (den_frz R S R' d d' v q' e2)
      · exact p.elim
    | err x hh' => rw [e] at p; exact p
    | stuck => rw [e] at p; exact p⟩
end
end MR

section
set_option maxHeartbeats 4000000
namespace LK
open MR PySem PySem.Spec PyProof.Rows L2
def topS (i : Nat) : Stmt := PySem.Challenge.pw_manyreaders_k49_rules_and_rooms_refused.main.body.getD i (.Pass ⟨0, 0, 0, 0⟩)
abbrev c_WORDS : D := .tup [.str "rows", .str "readers", .str "writers", .str "turns", .str "passes"]
abbrev c_MOST_READERS : D := .int 5
abbrev c_MOST_PASSES : D := .int 9
abbrev c_PASSES : D := .str "passes"
abbrev c_PLACES : D := .tup [.str "out", .str "reads", .str "rising", .str "writes", .str "raised"]
abbrev c_WANTS : D := .tup [.str "read", .str "write"]
abbrev c_MOST_TICKS : D := .int 9
abbrev c_MOST_MARK : D := .int 999
abbrev c_NO_END : D := .str "-"
abbrev c_FIGURES : D := .str "0123456789"
abbrev c_MOST_FIGURES : D := .int 3
abbrev s_is_between : Stmt := topS 5
abbrev N_is_between : List Str := ["thing", "low", "high"]
theorem sc_is_between : FnScope N_is_between ["thing", "low", "high"] (defScope s_is_between) := ⟨rfl, rfl, rfl, by decide +kernel, rfl, by decide +kernel, by decide +kernel⟩
noncomputable def b_is_between : MS :=
 (sRet (eAnd (eOpN isiO (aCons (eSlot 0) (aCons (eC (.glb (.ty "int"))) aNil))) (eAnd (eNot (eOpN isiO (aCons (eSlot 0) (aCons (eC (.glb (.ty "bool"))) aNil)))) (eChain leO leO (eSlot 1) (eSlot 0) (eSlot 2)))))
noncomputable def F_is_between : MF := frzF (runF 3 N_is_between b_is_between)
abbrev s_is_rule : Stmt := topS 6
abbrev N_is_rule : List Str := ["thing", "word", "most", "k", "ups"]
theorem sc_is_rule : FnScope N_is_rule ["thing"] (defScope s_is_rule) := ⟨rfl, rfl, rfl, by decide +kernel, rfl, by decide +kernel, by decide +kernel⟩
noncomputable def b_is_rule : MS :=
 (sSeq (sIf (tOr (tNot (tE (eOpN isiO (aCons (eSlot 0) (aCons (eC (.glb (.ty "tuple"))) aNil))))) (tOr (tE (eOp2 neO (eOpN lenO (aCons (eSlot 0) aNil)) (eC (.int 4)))) (tOr (tNot (tE (eOpN isiO (aCons (eOp2 ixA (eSlot 0) (eC (.int 0))) (aCons (eC (.glb (.ty "str"))) aNil))))) (tE (eOp2 (inO true) (eOp2 ixA (eSlot 0) (eC (.int 0))) (eC c_WORDS)))))) (sRet (eC (.bl false))) sNext)
 (sSeq (sAsg (eSlot 0) (gTup 4 (gCons (gName 1) (gCons (gName 2) (gCons (gName 3) (gCons (gName 4) gNil))))))
 (sSeq (sIf (tOr (tNot (tE (eCall F_is_between (aCons (eSlot 2) (aCons (eC (.int 0)) (aCons (eC c_MOST_READERS) aNil)))))) (tOr (tNot (tE (eCall F_is_between (aCons (eSlot 3) (aCons (eC (.int 0)) (aCons (eC c_MOST_PASSES) aNil)))))) (tNot (tE (eCall F_is_between (aCons (eSlot 4) (aCons (eC (.int 0)) (aCons (eC (.int 1)) aNil)))))))) (sRet (eC (.bl false))) sNext)
 (sRet (eOr (eOp2 eqO (eSlot 1) (eC c_PASSES)) (eOp2 eqO (eSlot 3) (eC (.int 0))))))))
noncomputable def F_is_rule : MF := frzF (runF 1 N_is_rule b_is_rule)
abbrev s_is_one_of : Stmt := topS 12
abbrev N_is_one_of : List Str := ["thing", "words"]
theorem sc_is_one_of : FnScope N_is_one_of ["thing", "words"] (defScope s_is_one_of) := ⟨rfl, rfl, rfl, by decide +kernel, rfl, by decide +kernel, by decide +kernel⟩
noncomputable def b_is_one_of : MS :=
 (sRet (eAnd (eOpN isiO (aCons (eSlot 0) (aCons (eC (.glb (.ty "str"))) aNil))) (eOp2 (inO false) (eSlot 0) (eSlot 1))))
noncomputable def F_is_one_of : MF := frzF (runF 2 N_is_one_of b_is_one_of)
abbrev s_is_left : Stmt := topS 13
abbrev N_is_left : List Str := ["thing"]
theorem sc_is_left : FnScope N_is_left ["thing"] (defScope s_is_left) := ⟨rfl, rfl, rfl, by decide +kernel, rfl, by decide +kernel, by decide +kernel⟩
noncomputable def b_is_left : MS :=
 (sRet (eOr (eOp2 (isNO false) (eSlot 0) (eC .non)) (eCall F_is_between (aCons (eSlot 0) (aCons (eC (.int 1)) (aCons (eC c_MOST_TICKS) aNil))))))
noncomputable def F_is_left : MF := frzF (runF 1 N_is_left b_is_left)
abbrev s_is_entry : Stmt := topS 14
abbrev N_is_entry : List Str := ["n", "thing", "guest", "want", "mark", "left"]
theorem sc_is_entry : FnScope N_is_entry ["n", "thing"] (defScope s_is_entry) := ⟨rfl, rfl, rfl, by decide +kernel, rfl, by decide +kernel, by decide +kernel⟩
noncomputable def b_is_entry : MS :=
 (sSeq (sIf (tOr (tNot (tE (eOpN isiO (aCons (eSlot 1) (aCons (eC (.glb (.ty "tuple"))) aNil))))) (tE (eOp2 neO (eOpN lenO (aCons (eSlot 1) aNil)) (eC (.int 4))))) (sRet (eC (.bl false))) sNext)
 (sSeq (sAsg (eSlot 1) (gTup 4 (gCons (gName 2) (gCons (gName 3) (gCons (gName 4) (gCons (gName 5) gNil))))))
 (sSeq (sIf (tOr (tNot (tE (eCall F_is_between (aCons (eSlot 2) (aCons (eC (.int 0)) (aCons (eOp2 subO (eSlot 0) (eC (.int 1))) aNil)))))) (tNot (tE (eCall F_is_one_of (aCons (eSlot 3) (aCons (eC c_WANTS) aNil)))))) (sRet (eC (.bl false))) sNext)
 (sRet (eAnd (eCall F_is_between (aCons (eSlot 4) (aCons (eC (.int 0)) (aCons (eC c_MOST_MARK) aNil)))) (eCall F_is_left (aCons (eSlot 5) aNil)))))))
noncomputable def F_is_entry : MF := frzF (runF 2 N_is_entry b_is_entry)
abbrev s_are_waits : Stmt := topS 15
abbrev N_are_waits : List Str := ["n", "within", "thing", "guests", "one", "guest"]
theorem sc_are_waits : FnScope N_are_waits ["n", "within", "thing"] (defScope s_are_waits) := ⟨rfl, rfl, rfl, by decide +kernel, rfl, by decide +kernel, by decide +kernel⟩
noncomputable def b_are_waits : MS :=
 (sSeq (sIf (tOr (tNot (tE (eOpN isiO (aCons (eSlot 2) (aCons (eC (.glb (.ty "tuple"))) aNil))))) (tNot (tE (eOpN allO (aCons (eFrz (aComp (iOf (eSlot 2)) (.name 4) (fun _ h => .ok true h) (eCall F_is_entry (aCons (eSlot 0) (aCons (eSlot 4) aNil))) [4])) aNil))))) (sRet (eC (.bl false))) sNext)
 (sSeq (sAsg (eFrz (aComp (iOf (eSlot 2)) (.name 4) (fun _ h => .ok true h) (eOp2 ixA (eSlot 4) (eC (.int 0))) [4])) (gName 3))
 (sRet (eAnd (eOp2 eqO (eLenSet (eSlot 3)) (eOpN lenO (aCons (eSlot 3) aNil))) (eOpN allO (aCons (eFrz (aComp (iOf (eSlot 3)) (.name 5) (fun _ h => .ok true h) (eOp2 eqO (eOp2 ixA (eSlot 1) (eSlot 5)) (eC (.str "out"))) [5])) aNil))))))
noncomputable def F_are_waits : MF := frzF (runF 3 N_are_waits b_are_waits)
abbrev s_is_room : Stmt := topS 16
abbrev N_is_room : List Str := ["n", "thing", "place"]
theorem sc_is_room : FnScope N_is_room ["n", "thing"] (defScope s_is_room) := ⟨rfl, rfl, rfl, by decide +kernel, rfl, by decide +kernel, by decide +kernel⟩
noncomputable def b_is_room : MS :=
 (sSeq (sIf (tOr (tNot (tE (eOpN isiO (aCons (eSlot 1) (aCons (eC (.glb (.ty "tuple"))) aNil))))) (tOr (tE (eOp2 neO (eOpN lenO (aCons (eSlot 1) aNil)) (eC (.int 2)))) (tOr (tNot (tE (eOpN isiO (aCons (eOp2 ixA (eSlot 1) (eC (.int 0))) (aCons (eC (.glb (.ty "tuple"))) aNil))))) (tE (eOp2 neO (eOpN lenO (aCons (eOp2 ixA (eSlot 1) (eC (.int 0))) aNil)) (eSlot 0)))))) (sRet (eC (.bl false))) sNext)
 (sRet (eAnd (eOpN allO (aCons (eFrz (aComp (iOf (eOp2 ixA (eSlot 1) (eC (.int 0)))) (.name 2) (fun _ h => .ok true h) (eCall F_is_one_of (aCons (eSlot 2) (aCons (eC c_PLACES) aNil))) [2])) aNil)) (eCall F_are_waits (aCons (eSlot 0) (aCons (eOp2 ixA (eSlot 1) (eC (.int 0))) (aCons (eOp2 ixA (eSlot 1) (eC (.int 1))) aNil)))))))
noncomputable def F_is_room : MF := frzF (runF 2 N_is_room b_is_room)
abbrev s_rule_text : Stmt := topS 25
abbrev N_rule_text : List Str := ["rule", "word", "most", "k", "ups", "words"]
theorem sc_rule_text : FnScope N_rule_text ["rule"] (defScope s_rule_text) := ⟨rfl, rfl, rfl, by decide +kernel, rfl, by decide +kernel, by decide +kernel⟩
noncomputable def b_rule_text : MS :=
 (sSeq (sAsg (eSlot 0) (gTup 4 (gCons (gName 1) (gCons (gName 2) (gCons (gName 3) (gCons (gName 4) gNil))))))
 (sSeq (sAsg (eNew (aCons (eSlot 1) aNil)) (gName 5))
 (sSeq (sIf (tE (eOp2 eqO (eSlot 1) (eC (.str "passes")))) (sDrop (eMeth isL appendO (eSlot 5) (aCons (eOpN str1O (aCons (eSlot 3) aNil)) aNil))) sNext)
 (sSeq (sIf (tE (eOp2 gtO (eSlot 2) (eC (.int 0)))) (sDrop (eMeth isL extendO (eSlot 5) (aCons (eFrz (aCons (eC (.str "most")) (aCons (eOpN str1O (aCons (eSlot 2) aNil)) aNil))) aNil))) sNext)
 (sSeq (sIf (tE (eOp2 eqO (eSlot 4) (eC (.int 1)))) (sDrop (eMeth isL appendO (eSlot 5) (aCons (eC (.str "ups")) aNil))) sNext)
 (sRet (eJoin (eC (.str " ")) (eSlot 5))))))))
noncomputable def F_rule_text : MF := frzF (runF 1 N_rule_text b_rule_text)
abbrev s_wait_text : Stmt := topS 26
abbrev N_wait_text : List Str := ["wait", "guest", "want", "mark", "left"]
theorem sc_wait_text : FnScope N_wait_text ["wait"] (defScope s_wait_text) := ⟨rfl, rfl, rfl, by decide +kernel, rfl, by decide +kernel, by decide +kernel⟩
noncomputable def b_wait_text : MS :=
 (sSeq (sAsg (eSlot 0) (gTup 4 (gCons (gName 1) (gCons (gName 2) (gCons (gName 3) (gCons (gName 4) gNil))))))
 (sSeq (sIf (tE (eOp2 (isNO false) (eSlot 4) (eC .non))) (sAsg (eC c_NO_END) (gName 4)) sNext)
 (sRet (eJoined [(eFmt (eSlot 1)), (eC (.str " ")), (eFmt (eSlot 2)), (eC (.str " ")), (eFmt (eSlot 3)), (eC (.str " ")), (eFmt (eSlot 4))]))))
noncomputable def F_wait_text : MF := frzF (runF 1 N_wait_text b_wait_text)
abbrev s_room_text : Stmt := topS 27
abbrev N_room_text : List Str := ["room", "within", "waits", "wait"]
theorem sc_room_text : FnScope N_room_text ["room"] (defScope s_room_text) := ⟨rfl, rfl, rfl, by decide +kernel, rfl, by decide +kernel, by decide +kernel⟩
noncomputable def b_room_text : MS :=
 (sSeq (sAsg (eSlot 0) (gTup 2 (gCons (gName 1) (gCons (gName 2) gNil))))
 (sRet (eJoin (eC (.str ", ")) (eOp2 addO (eFrz (aCons (eJoin (eC (.str " ")) (eSlot 1)) aNil)) (eFrz (aComp (iOf (eSlot 2)) (.name 3) (fun _ h => .ok true h) (eCall F_wait_text (aCons (eSlot 3) aNil)) [3]))))))
noncomputable def F_room_text : MF := frzF (runF 1 N_room_text b_room_text)
abbrev s_number_in : Stmt := topS 31
abbrev N_number_in : List Str := ["word", "most", "sign"]
theorem sc_number_in : FnScope N_number_in ["word", "most"] (defScope s_number_in) := ⟨rfl, rfl, rfl, by decide +kernel, rfl, by decide +kernel, by decide +kernel⟩
noncomputable def b_number_in : MS :=
 (sSeq (sIf (tOr (tNot (tE (eChain leO leO (eC (.int 1)) (eOpN lenO (aCons (eSlot 0) aNil)) (eSlot 1)))) (tNot (tE (eOpN allO (aCons (eFrz (aComp (iOf (eSlot 0)) (.name 2) (fun _ h => .ok true h) (eOp2 inSgO (eSlot 2) (eC c_FIGURES)) [2])) aNil))))) (sRet (eC .non)) sNext)
 (sRet (eIntT (eSlot 0))))
noncomputable def F_number_in : MF := frzF (runF 2 N_number_in b_number_in)
abbrev s_rule_in : Stmt := topS 32
abbrev N_rule_in : List Str := ["words", "left", "k", "most"]
theorem sc_rule_in : FnScope N_rule_in ["words"] (defScope s_rule_in) := ⟨rfl, rfl, rfl, by decide +kernel, rfl, by decide +kernel, by decide +kernel⟩
noncomputable def b_rule_in : MS :=
 (sSeq (sAsg (eNew (aSeq (eSlice (eSlot 0) (oSome (eC (.int 1))) oNone))) (gName 1))
 (sSeq (sAsg (eC (.int 0)) (gName 2))
 (sSeq (sAsg (eC (.int 0)) (gName 3))
 (sSeq (sIf (tAnd (tE (eOp2 eqO (eOp2 ixA (eSlot 0) (eC (.int 0))) (eC (.str "passes")))) (tE (eOp2 gtO (eOpN lenO (aCons (eSlot 1) aNil)) (eC (.int 0))))) (sAsg (eCall F_number_in (aCons (eMeth isL popAtO (eSlot 1) (aCons (eC (.int 0)) aNil)) (aCons (eC (.int 1)) aNil))) (gName 2)) sNext)
 (sSeq (sIf (tAnd (tE (eOp2 gtO (eOpN lenO (aCons (eSlot 1) aNil)) (eC (.int 1)))) (tE (eOp2 eqO (eOp2 ixA (eSlot 1) (eC (.int 0))) (eC (.str "most"))))) (sSeq (sAsg (eCall F_number_in (aCons (eOp2 ixA (eSlot 1) (eC (.int 1))) (aCons (eC (.int 1)) aNil))) (gName 3))
 (sAsg (eSlice (eSlot 1) (oSome (eC (.int 2))) oNone) (gName 1))) sNext)
 (sRet (eTup (aCons (eOp2 ixA (eSlot 0) (eC (.int 0))) (aCons (eSlot 3) (aCons (eSlot 2) (aCons (eOpN int1O (aCons (eOp2 (inO false) (eC (.str "ups")) (eSlot 1)) aNil)) aNil)))))))))))
noncomputable def F_rule_in : MF := frzF (runF 1 N_rule_in b_rule_in)
abbrev s_read_rule : Stmt := topS 33
abbrev N_read_rule : List Str := ["text", "rule"]
theorem sc_read_rule : FnScope N_read_rule ["text"] (defScope s_read_rule) := ⟨rfl, rfl, rfl, by decide +kernel, rfl, by decide +kernel, by decide +kernel⟩
noncomputable def b_read_rule : MS :=
 (sSeq (sIf (tNot (tE (eOpN isiO (aCons (eSlot 0) (aCons (eC (.glb (.ty "str"))) aNil))))) (sRaise (mkI "NoText" "row" "nothing is written in row " (eC .non))) sNext)
 (sSeq (sAsg (eCall F_rule_in (aCons (eFrz (aSplit (eSlot 0) (eC (.str " ")))) aNil)) (gName 1))
 (sSeq (sIf (tOr (tNot (tE (eCall F_is_rule (aCons (eSlot 1) aNil)))) (tE (eOp2 neO (eCall F_rule_text (aCons (eSlot 1) aNil)) (eSlot 0)))) (sRaise (mkI "NoText" "row" "nothing is written in row " (eC .non))) sNext)
 (sRet (eSlot 1)))))
noncomputable def F_read_rule : MF := frzF (runF 1 N_read_rule b_read_rule)
abbrev s_wait_in : Stmt := topS 34
abbrev N_wait_in : List Str := ["text", "words", "left"]
theorem sc_wait_in : FnScope N_wait_in ["text"] (defScope s_wait_in) := ⟨rfl, rfl, rfl, by decide +kernel, rfl, by decide +kernel, by decide +kernel⟩
noncomputable def b_wait_in : MS :=
 (sSeq (sAsg (eFrz (aSplit (eSlot 0) (eC (.str " ")))) (gName 1))
 (sSeq (sIf (tE (eOp2 neO (eOpN lenO (aCons (eSlot 1) aNil)) (eC (.int 4)))) (sRet (eC .non)) sNext)
 (sSeq (sAsg (eC .non) (gName 2))
 (sSeq (sIf (tE (eOp2 neO (eOp2 ixA (eSlot 1) (eC (.int 3))) (eC c_NO_END))) (sAsg (eCall F_number_in (aCons (eOp2 ixA (eSlot 1) (eC (.int 3))) (aCons (eC (.int 1)) aNil))) (gName 2)) sNext)
 (sRet (eTup (aCons (eCall F_number_in (aCons (eOp2 ixA (eSlot 1) (eC (.int 0))) (aCons (eC (.int 1)) aNil))) (aCons (eOp2 ixA (eSlot 1) (eC (.int 1))) (aCons (eCall F_number_in (aCons (eOp2 ixA (eSlot 1) (eC (.int 2))) (aCons (eC c_MOST_FIGURES) aNil))) (aCons (eSlot 2) aNil))))))))))
noncomputable def F_wait_in : MF := runF 1 N_wait_in b_wait_in
abbrev s_read_room : Stmt := topS 35
abbrev N_read_room : List Str := ["text", "parts", "within", "room", "part"]
theorem sc_read_room : FnScope N_read_room ["text"] (defScope s_read_room) := ⟨rfl, rfl, rfl, by decide +kernel, rfl, by decide +kernel, by decide +kernel⟩
noncomputable def b_read_room : MS :=
 (sSeq (sIf (tNot (tE (eOpN isiO (aCons (eSlot 0) (aCons (eC (.glb (.ty "str"))) aNil))))) (sRaise (mkI "NoText" "row" "nothing is written in row " (eC .non))) sNext)
 (sSeq (sAsg (eFrz (aSplit (eSlot 0) (eC (.str ", ")))) (gName 1))
 (sSeq (sAsg (eOpN tupleO (aCons (eFrz (aSplit (eOp2 ixA (eSlot 1) (eC (.int 0))) (eC (.str " ")))) aNil)) (gName 2))
 (sSeq (sAsg (eTup (aCons (eSlot 2) (aCons (eOpN tupleO (aCons (eFrz (aComp (iOf (eSlice (eSlot 1) (oSome (eC (.int 1))) oNone)) (.name 4) (fun _ h => .ok true h) (eCall F_wait_in (aCons (eSlot 4) aNil)) [4])) aNil)) aNil))) (gName 3))
 (sSeq (sIf (tOr (tNot (tE (eChain leO leO (eC (.int 1)) (eOpN lenO (aCons (eSlot 2) aNil)) (eC (.int 5))))) (tOr (tNot (tE (eCall F_is_room (aCons (eOpN lenO (aCons (eSlot 2) aNil)) (aCons (eSlot 3) aNil))))) (tE (eOp2 neO (eCall F_room_text (aCons (eSlot 3) aNil)) (eSlot 0))))) (sRaise (mkI "NoText" "row" "nothing is written in row " (eC .non))) sNext)
 (sRet (eSlot 3)))))))
noncomputable def F_read_room : MF := frzF (runF 1 N_read_room b_read_room)
abbrev s__law_cell_at : Stmt := topS 37
abbrev N__law_cell_at : List Str := ["_law_script", "_law_k"]
theorem sc__law_cell_at : FnScope N__law_cell_at ["_law_script", "_law_k"] (defScope s__law_cell_at) := ⟨rfl, rfl, rfl, by decide +kernel, rfl, by decide +kernel, by decide +kernel⟩
noncomputable def b__law_cell_at : MS :=
 (sSeq (sIf (tE (eOp2 ltO (eSlot 1) (eOpN lenO (aCons (eSlot 0) aNil)))) (sRet (eOp2 ixA (eSlot 0) (eSlot 1))) sNext)
 (sRet (eC (.int 0))))
noncomputable def F__law_cell_at : MF := runF 2 N__law_cell_at b__law_cell_at
abbrev s__law_far : Stmt := topS 39
abbrev N__law_far : List Str := ["_law_far_here", "_law_k"]
theorem sc__law_far : FnScope N__law_far [] (defScope s__law_far) := ⟨rfl, rfl, rfl, by decide +kernel, rfl, by decide +kernel, by decide +kernel⟩
noncomputable def L__law_far_0 : MS :=
 (sAsg (eOp2 mulC (eSlot 0) (eOp2 powO (eC (.int 10)) (eC (.int 60)))) (gName 0))
noncomputable def b__law_far : MS :=
 (sSeq (sAsg (eC (.int 1)) (gName 0))
 (sSeq (sFor (iA rng1 (aCons (eC (.int 10)) aNil)) (.name 1) L__law_far_0)
 (sRet (eSlot 0))))
noncomputable def F__law_far : MF := runF 0 N__law_far b__law_far
abbrev s__law_left : Stmt := topS 38
abbrev N__law_left : List Str := ["_law_script", "_law_k", "_law_cell", "_law_seed"]
theorem sc__law_left : FnScope N__law_left ["_law_script", "_law_k"] (defScope s__law_left) := ⟨rfl, rfl, rfl, by decide +kernel, rfl, by decide +kernel, by decide +kernel⟩
noncomputable def b__law_left : MS :=
 (sSeq (sAsg (eCall F__law_cell_at (aCons (eSlot 0) (aCons (eOp2 modO (eSlot 1) (eOpN max2O (aCons (eC (.int 1)) (aCons (eOpN lenO (aCons (eSlot 0) aNil)) aNil)))) aNil))) (gName 2))
 (sSeq (sAsg (eOp2 modO (eOp2 mulC (eOp2 addO (eOp2 addO (eOp2 modO (eSlot 2) (eC (.int 2147483629))) (eOp2 mulC (eOp2 mulC (eC (.int 7919)) (eSlot 1)) (eSlot 1))) (eC (.int 11))) (eC (.int 48271))) (eC (.int 2147483647))) (gName 3))
 (sSeq (sAsg (eOp2 modO (eOp2 addO (eOp2 addO (eOp2 mulC (eSlot 3) (eC (.int 39373))) (eOp2 mulC (eC (.int 7)) (eSlot 1))) (eC (.int 1))) (eC (.int 2147483629))) (gName 3))
 (sSeq (sIf (tE (eOp2 ltO (eSlot 2) (eOp2 powO (eC (.int 10)) (eC (.int 18))))) (sAsg (eC (.int 0)) (gName 2)) sNext)
 (sRet (eNew (aCons (eOp2 modO (eSlot 2) (eCall F__law_far aNil)) (aCons (eSlot 3) (aCons (eC (.int 0)) aNil)))))))))
noncomputable def F__law_left : MF := runF 2 N__law_left b__law_left
abbrev s__law_pick : Stmt := topS 40
abbrev N__law_pick : List Str := ["_law_left_here", "_law_many", "_law_digit"]
theorem sc__law_pick : FnScope N__law_pick ["_law_left_here", "_law_many"] (defScope s__law_pick) := ⟨rfl, rfl, rfl, by decide +kernel, rfl, by decide +kernel, by decide +kernel⟩
noncomputable def b__law_pick : MS :=
 (sSeq (sIf (tE (eOp2 gtO (eOp2 ixA (eSlot 0) (eC (.int 0))) (eC (.int 0)))) (sSeq (sAsg (eOp2 modO (eOp2 ixA (eSlot 0) (eC (.int 0))) (eSlot 1)) (gName 2))
 (sSeq (sAsg (eOp2 fdivO (eOp2 ixA (eSlot 0) (eC (.int 0))) (eSlot 1)) (gSubD (eSlot 0) (eC (.int 0)) setO))
 (sRet (eSlot 2)))) sNext)
 (sSeq (sAsg (eOp2 addO (eOp2 ixA (eSlot 0) (eC (.int 2))) (eC (.int 1))) (gSubD (eSlot 0) (eC (.int 2)) setO))
 (sSeq (sAsg (eOp2 modO (eOp2 addO (eOp2 addO (eOp2 mulC (eOp2 ixA (eSlot 0) (eC (.int 1))) (eC (.int 48271))) (eC (.int 12345))) (eOp2 mulC (eC (.int 7)) (eOp2 ixA (eSlot 0) (eC (.int 2))))) (eC (.int 2147483647))) (gSubD (eSlot 0) (eC (.int 1)) setO))
 (sRet (eOp2 modO (eOp2 fdivO (eOp2 modO (eOp2 mulC (eOp2 ixA (eSlot 0) (eC (.int 1))) (eOp2 ixA (eSlot 0) (eC (.int 1)))) (eC (.int 1999999973))) (eC (.int 64))) (eSlot 1))))))
noncomputable def F__law_pick : MF := runF 2 N__law_pick b__law_pick
abbrev s__law_same : Stmt := topS 41
abbrev N__law_same : List Str := ["_law_found", "_law_due", "_law_keys", "_law_key", "_law_one", "_law_other"]
theorem sc__law_same : FnScope N__law_same ["_law_found", "_law_due"] (defScope s__law_same) := ⟨rfl, rfl, rfl, by decide +kernel, rfl, by decide +kernel, by decide +kernel⟩
noncomputable def b__law_same (F__law_same : MF) : MS :=
 (sSeq (sIf (tE (eOpN isiO (aCons (eSlot 1) (aCons (eC (.glb (.ty "dict"))) aNil)))) (sSeq (sIf (tOr (tNot (tE (eOpN isiO (aCons (eSlot 0) (aCons (eC (.glb (.ty "dict"))) aNil))))) (tE (eOp2 neO (eOpN lenO (aCons (eSlot 0) aNil)) (eOpN lenO (aCons (eSlot 1) aNil))))) (sRet (eC (.bl false))) sNext)
 (sSeq (sAsg (eDictOf (eFrz (aComp (iOf (eSlot 0)) (.name 3) (fun _ h => .ok true h) (eTup (aCons (eSlot 3) (aCons (eSlot 3) aNil))) [3]))) (gName 2))
 (sRet (eOpN allO (aCons (eFrz (aComp (iOf (eSlot 1)) (.name 3) (fun _ h => .ok true h) (eAnd (eOp2 (inO false) (eSlot 3) (eSlot 0)) (eAnd (eCall F__law_same (aCons (eOp2 ixA (eSlot 2) (eSlot 3)) (aCons (eSlot 3) aNil))) (eCall F__law_same (aCons (eOp2 ixA (eSlot 0) (eSlot 3)) (aCons (eOp2 ixA (eSlot 1) (eSlot 3)) aNil))))) [3])) aNil))))) sNext)
 (sSeq (sIf (tOr (tE (eOpN isiO (aCons (eSlot 1) (aCons (eC (.glb (.ty "list"))) aNil)))) (tE (eOpN isiO (aCons (eSlot 1) (aCons (eC (.glb (.ty "tuple"))) aNil))))) (sSeq (sIf (tOr (tE (eOp2 neO (eOpN isiO (aCons (eSlot 0) (aCons (eC (.glb (.ty "list"))) aNil))) (eOpN isiO (aCons (eSlot 1) (aCons (eC (.glb (.ty "list"))) aNil))))) (tE (eOp2 neO (eOpN isiO (aCons (eSlot 0) (aCons (eC (.glb (.ty "tuple"))) aNil))) (eOpN isiO (aCons (eSlot 1) (aCons (eC (.glb (.ty "tuple"))) aNil)))))) (sRet (eC (.bl false))) sNext)
 (sRet (eAnd (eOp2 eqO (eOpN lenO (aCons (eSlot 0) aNil)) (eOpN lenO (aCons (eSlot 1) aNil))) (eOpN allO (aCons (eFrz (aComp (iA zp (aCons (eSlot 0) (aCons (eSlot 1) aNil))) (.tup [4, 5]) (fun _ h => .ok true h) (eCall F__law_same (aCons (eSlot 4) (aCons (eSlot 5) aNil))) [4, 5])) aNil))))) sNext)
 (sSeq (sIf (tE (eOp2 (isNO false) (eSlot 1) (eC .non))) (sRet (eOp2 (isNO false) (eSlot 0) (eC .non))) sNext)
 (sSeq (sIf (tE (eOpN isiO (aCons (eSlot 1) (aCons (eC (.glb (.ty "str"))) aNil)))) (sRet (eAnd (eOpN isiO (aCons (eSlot 0) (aCons (eC (.glb (.ty "str"))) aNil))) (eOp2 eqO (eSlot 0) (eSlot 1)))) sNext)
 (sSeq (sIf (tOr (tE (eOpN isiO (aCons (eSlot 1) (aCons (eC (.glb (.ty "bool"))) aNil)))) (tE (eOpN isiO (aCons (eSlot 0) (aCons (eC (.glb (.ty "bool"))) aNil))))) (sRet (eAnd (eOpN isiO (aCons (eSlot 0) (aCons (eC (.glb (.ty "bool"))) aNil))) (eAnd (eOpN isiO (aCons (eSlot 1) (aCons (eC (.glb (.ty "bool"))) aNil))) (eOp2 eqO (eSlot 0) (eSlot 1))))) sNext)
 (sRet (eAnd (eOpN isiO (aCons (eSlot 0) (aCons (eC (.glb (.ty "int"))) aNil))) (eOp2 eqO (eSlot 0) (eSlot 1)))))))))
noncomputable def R__law_same : Nat → MF
  | 0 => fun _ _ => .stuck
  | n + 1 => runF 2 N__law_same (b__law_same (R__law_same n))
noncomputable def F__law_same : MF := R__law_same 10
abbrev s__law_any_rule : Stmt := topS 42
abbrev N__law_any_rule : List Str := ["_law_left_here", "_law_word", "_law_most", "_law_times"]
theorem sc__law_any_rule : FnScope N__law_any_rule ["_law_left_here"] (defScope s__law_any_rule) := ⟨rfl, rfl, rfl, by decide +kernel, rfl, by decide +kernel, by decide +kernel⟩
noncomputable def b__law_any_rule : MS :=
 (sSeq (sAsg (eOp2 ixA (eFrz (aCons (eC (.str "rows")) (aCons (eC (.str "readers")) (aCons (eC (.str "writers")) (aCons (eC (.str "turns")) (aCons (eC (.str "passes")) (aCons (eC (.str "passes")) aNil))))))) (eCall F__law_pick (aCons (eSlot 0) (aCons (eC (.int 6)) aNil)))) (gName 1))
 (sSeq (sPar 2 3 (aCons (eCall F__law_pick (aCons (eSlot 0) (aCons (eC (.int 6)) aNil))) (aCons (eCall F__law_pick (aCons (eSlot 0) (aCons (eC (.int 10)) aNil))) aNil)))
 (sRet (eTup (aCons (eSlot 1) (aCons (eSlot 2) (aCons (eOp2 mulC (eSlot 3) (eOpN int1O (aCons (eOp2 eqO (eSlot 1) (eC (.str "passes"))) aNil))) (aCons (eCall F__law_pick (aCons (eSlot 0) (aCons (eC (.int 2)) aNil))) aNil))))))))
noncomputable def F__law_any_rule : MF := dropF (runF 1 N__law_any_rule b__law_any_rule)
abbrev s__law_any_room : Stmt := topS 43
abbrev N__law_any_room : List Str := ["_law_left_here", "_law_n", "_law_within", "_law_guest", "_law_waits", "_law_mark", "_law_rest", "_law_entry_here"]
theorem sc__law_any_room : FnScope N__law_any_room ["_law_left_here", "_law_n"] (defScope s__law_any_room) := ⟨rfl, rfl, rfl, by decide +kernel, rfl, by decide +kernel, by decide +kernel⟩
noncomputable def L__law_any_room_0 : MS :=
 (sDrop (eMeth isL appendO (eSlot 2) (aCons (eOp2 ixA (eFrz (aCons (eC (.str "out")) (aCons (eC (.str "out")) (aCons (eC (.str "out")) (aCons (eC (.str "reads")) (aCons (eC (.str "rising")) (aCons (eC (.str "writes")) (aCons (eC (.str "raised")) aNil)))))))) (eCall F__law_pick (aCons (eSlot 0) (aCons (eC (.int 7)) aNil)))) aNil)))
noncomputable def L__law_any_room_1 : MS :=
 (sSeq (sAsg (eOp2 ixA (eFrz (aCons (eC (.int 0)) (aCons (eC (.int 0)) (aCons (eC (.int 1)) (aCons (eC (.int 9)) (aCons (eC (.int 10)) (aCons (eC (.int 99)) (aCons (eC (.int 100)) (aCons (eC (.int 999)) aNil))))))))) (eCall F__law_pick (aCons (eSlot 0) (aCons (eC (.int 8)) aNil)))) (gName 5))
 (sSeq (sAsg (eOp2 ixA (eFrz (aCons (eC .non) (aCons (eC .non) (aCons (eC (.int 1)) (aCons (eC (.int 9)) (aCons (eOp2 addO (eC (.int 1)) (eCall F__law_pick (aCons (eSlot 0) (aCons (eC (.int 9)) aNil)))) aNil)))))) (eCall F__law_pick (aCons (eSlot 0) (aCons (eC (.int 5)) aNil)))) (gName 6))
 (sIf (tE (eOp2 gtO (eCall F__law_pick (aCons (eSlot 0) (aCons (eC (.int 4)) aNil))) (eC (.int 0)))) (sSeq (sAsg (eTup (aCons (eSlot 3) (aCons (eOp2 ixA (eFrz (aCons (eC (.str "read")) (aCons (eC (.str "write")) aNil))) (eCall F__law_pick (aCons (eSlot 0) (aCons (eC (.int 2)) aNil)))) (aCons (eSlot 5) (aCons (eSlot 6) aNil))))) (gName 7))
 (sDrop (eMeth isL insertO (eSlot 4) (aCons (eCall F__law_pick (aCons (eSlot 0) (aCons (eOp2 addO (eOpN lenO (aCons (eSlot 4) aNil)) (eC (.int 1))) aNil))) (aCons (eSlot 7) aNil))))) sNext)))
noncomputable def b__law_any_room : MS :=
 (sSeq (sAsg (eNew aNil) (gName 2))
 (sSeq (sFor (iA rng1 (aCons (eSlot 1) aNil)) (.name 3) L__law_any_room_0)
 (sSeq (sAsg (eNew aNil) (gName 4))
 (sSeq (sFor (iOf (eFrz (aComp (iA rng1 (aCons (eSlot 1) aNil)) (.name 3) (tE (eOp2 eqO (eOp2 ixA (eSlot 2) (eSlot 3)) (eC (.str "out")))) (eSlot 3) [3]))) (.name 3) L__law_any_room_1)
 (sRet (eTup (aCons (eOpN tupleO (aCons (eSlot 2) aNil)) (aCons (eOpN tupleO (aCons (eSlot 4) aNil)) aNil))))))))
noncomputable def F__law_any_room : MF := dropF (runF 2 N__law_any_room b__law_any_room)
abbrev s__law_rule_text : Stmt := topS 44
abbrev N__law_rule_text : List Str := ["_law_rule", "_law_word", "_law_most", "_law_times", "_law_ups", "_law_text"]
theorem sc__law_rule_text : FnScope N__law_rule_text ["_law_rule"] (defScope s__law_rule_text) := ⟨rfl, rfl, rfl, by decide +kernel, rfl, by decide +kernel, by decide +kernel⟩
noncomputable def b__law_rule_text : MS :=
 (sSeq (sAsg (eSlot 0) (gTup 4 (gCons (gName 1) (gCons (gName 2) (gCons (gName 3) (gCons (gName 4) gNil))))))
 (sSeq (sAsg (eOp2 addO (eOp2 addO (eSlot 1) (eOp2 mulC (eC (.str " ")) (eOpN int1O (aCons (eOp2 eqO (eSlot 1) (eC (.str "passes"))) aNil)))) (eOp2 mulC (eOpN str1O (aCons (eSlot 3) aNil)) (eOpN int1O (aCons (eOp2 eqO (eSlot 1) (eC (.str "passes"))) aNil)))) (gName 5))
 (sRet (eOp2 addO (eOp2 addO (eSlot 5) (eOp2 mulC (eOp2 addO (eC (.str " most ")) (eOpN str1O (aCons (eSlot 2) aNil))) (eOpN int1O (aCons (eOp2 gtO (eSlot 2) (eC (.int 0))) aNil)))) (eOp2 mulC (eC (.str " ups")) (eSlot 4))))))
noncomputable def F__law_rule_text : MF := frzF (runF 1 N__law_rule_text b__law_rule_text)
abbrev s__law_room_text : Stmt := topS 45
abbrev N__law_room_text : List Str := ["_law_room", "_law_text", "_law_guest", "_law_want", "_law_mark", "_law_rest"]
theorem sc__law_room_text : FnScope N__law_room_text ["_law_room"] (defScope s__law_room_text) := ⟨rfl, rfl, rfl, by decide +kernel, rfl, by decide +kernel, by decide +kernel⟩
noncomputable def L__law_room_text_0 : MS :=
 (sAsg (eOp2 addO (eOp2 addO (eOp2 addO (eOp2 addO (eOp2 addO (eOp2 addO (eOp2 addO (eOp2 addO (eSlot 1) (eC (.str ", "))) (eOpN str1O (aCons (eSlot 2) aNil))) (eC (.str " "))) (eSlot 3)) (eC (.str " "))) (eOpN str1O (aCons (eSlot 4) aNil))) (eC (.str " "))) (eOp2 ixA (eFrz (aCons (eC (.str "-")) (aCons (eOpN str1O (aCons (eSlot 5) aNil)) aNil))) (eOpN int1O (aCons (eOp2 (isNO true) (eSlot 5) (eC .non)) aNil)))) (gName 1))
noncomputable def b__law_room_text : MS :=
 (sSeq (sAsg (eJoin (eC (.str " ")) (eOp2 ixA (eSlot 0) (eC (.int 0)))) (gName 1))
 (sSeq (sFor (iOf (eOp2 ixA (eSlot 0) (eC (.int 1)))) (.tup [2, 3, 4, 5]) L__law_room_text_0)
 (sRet (eSlot 1))))
noncomputable def F__law_room_text : MF := frzF (runF 1 N__law_room_text b__law_room_text)
abbrev s__law_read : Stmt := topS 46
abbrev N__law_read : List Str := ["_law_reader", "_law_thing", "_law_caught", "_law_found", "e"]
theorem sc__law_read : FnScope N__law_read ["_law_reader", "_law_thing"] (defScope s__law_read) := ⟨rfl, rfl, rfl, by decide +kernel, rfl, by decide +kernel, by decide +kernel⟩
noncomputable def b__law_read (A : Str → Addr) : MS :=
 (sSeq (sAsg (eC .non) (gName 2))
 (sSeq (sAsg (eC .non) (gName 3))
 (sSeq (sNote ["GuestError", "NoDeed", "NoText", "TooMany", "NoLine"] "GuestError" 4 2 (sAsg (eCallT 0 [(A "read_rule", F_read_rule), (A "read_room", F_read_room)] (aCons (eSlot 1) aNil)) (gName 3)))
 (sSeq (sIf (tE (eOp2 (isNO false) (eSlot 2) (eC .non))) (sRet (eSlot 3)) sNext)
 (sSeq (sIf (tOr (tNot (tE (eXis ["GuestError", "NoDeed", "NoText", "TooMany", "NoLine"] ["NoText"] (eSlot 2)))) (tE (eXis ["GuestError", "NoDeed", "NoText", "TooMany", "NoLine"] ["NoDeed", "NoLine", "TooMany"] (eSlot 2)))) (sRet (eTup (aCons (eC (.str "*")) (aCons (eC (.str "other")) aNil)))) sNext)
 (sRet (eIf (tE (eXis ["GuestError", "NoDeed", "NoText", "TooMany", "NoLine"] ["ValueError"] (eSlot 2))) (eTup (aCons (eC (.str "*")) (aCons (eXfld "row" ["NoText"] (eSlot 2)) aNil))) (eTup (aCons (eC (.str "*")) (aCons (eC (.str "other")) aNil))))))))))
noncomputable def F__law_read (A : Str → Addr) : MF := frzF (runF 2 N__law_read (b__law_read A))
abbrev s__law_rules : Stmt := topS 47
abbrev N__law_rules : List Str := ["_law_found", "_law_word", "_law_times", "_law_most", "_law_ups"]
theorem sc__law_rules : FnScope N__law_rules [] (defScope s__law_rules) := ⟨rfl, rfl, rfl, by decide +kernel, rfl, by decide +kernel, by decide +kernel⟩
noncomputable def L__law_rules_0 : MS :=
 (sAsg (eTup (aCons (eSlot 1) (aCons (eSlot 3) (aCons (eSlot 2) (aCons (eSlot 4) aNil))))) (gSubD (eSlot 0) (eCall F__law_rule_text (aCons (eTup (aCons (eSlot 1) (aCons (eSlot 3) (aCons (eSlot 2) (aCons (eSlot 4) aNil))))) aNil)) setDO))
noncomputable def L__law_rules_1 : MS :=
 (sFor (iOf (eTup (aCons (eC (.int 0)) (aCons (eC (.int 1)) aNil)))) (.name 4) L__law_rules_0)
noncomputable def L__law_rules_2 : MS :=
 (sFor (iA rng1 (aCons (eC (.int 6)) aNil)) (.name 3) L__law_rules_1)
noncomputable def L__law_rules_3 : MS :=
 (sFor (iA rng1 (aCons (eOp2 ixA (eFrz (aCons (eC (.int 1)) (aCons (eC (.int 10)) aNil))) (eOpN int1O (aCons (eOp2 eqO (eSlot 1) (eC (.str "passes"))) aNil))) aNil)) (.name 2) L__law_rules_2)
noncomputable def b__law_rules : MS :=
 (sSeq (sAsg (eDict0) (gName 0))
 (sSeq (sFor (iOf (eTup (aCons (eC (.str "rows")) (aCons (eC (.str "readers")) (aCons (eC (.str "writers")) (aCons (eC (.str "turns")) (aCons (eC (.str "passes")) aNil))))))) (.name 1) L__law_rules_3)
 (sRet (eSlot 0))))
noncomputable def F__law_rules : MF := runF 0 N__law_rules b__law_rules
abbrev s__law_entry : Stmt := topS 48
abbrev N__law_entry : List Str := ["_law_within", "_law_words"]
theorem sc__law_entry : FnScope N__law_entry ["_law_within", "_law_words"] (defScope s__law_entry) := ⟨rfl, rfl, rfl, by decide +kernel, rfl, by decide +kernel, by decide +kernel⟩
noncomputable def b__law_entry : MS :=
 (sSeq (sIf (tOr (tE (eOp2 neO (eOpN lenO (aCons (eSlot 1) aNil)) (eC (.int 4)))) (tOr (tE (eOp2 (inO true) (eOp2 ixA (eSlot 1) (eC (.int 1))) (eTup (aCons (eC (.str "read")) (aCons (eC (.str "write")) aNil))))) (tE (eOp2 (inO true) (eOp2 ixA (eSlot 1) (eC (.int 3))) (eFrz (aChs (eC (.str "-123456789")))))))) (sRet (eC .non)) sNext)
 (sSeq (sIf (tOr (tE (eOp2 (inO true) (eOp2 ixA (eSlot 1) (eC (.int 0))) (eSlice (eFrz (aChs (eC (.str "01234")))) oNone (oSome (eOpN lenO (aCons (eSlot 0) aNil)))))) (tE (eOp2 neO (eOp2 ixA (eSlot 0) (eIntT (eOp2 ixA (eSlot 1) (eC (.int 0))))) (eC (.str "out"))))) (sRet (eC .non)) sNext)
 (sSeq (sIf (tOr (tNot (tE (eChain ltO ltO (eC (.int 0)) (eOpN lenO (aCons (eOp2 ixA (eSlot 1) (eC (.int 2))) aNil)) (eC (.int 4))))) (tOr (tE (eOp2 neO (eStrip (eOp2 ixA (eSlot 1) (eC (.int 2))) (eC (.str "0123456789"))) (eC (.str "")))) (tAnd (tE (eOp2 eqO (eOp2 ixA (eOp2 ixA (eSlot 1) (eC (.int 2))) (eC (.int 0))) (eC (.str "0")))) (tE (eOp2 neO (eOp2 ixA (eSlot 1) (eC (.int 2))) (eC (.str "0"))))))) (sRet (eC .non)) sNext)
 (sRet (eTup (aCons (eIntT (eOp2 ixA (eSlot 1) (eC (.int 0)))) (aCons (eOp2 ixA (eSlot 1) (eC (.int 1))) (aCons (eIntT (eOp2 ixA (eSlot 1) (eC (.int 2)))) (aCons (eIf (tE (eOp2 eqO (eOp2 ixA (eSlot 1) (eC (.int 3))) (eC (.str "-")))) (eC .non) (eIntT (eOp2 ixA (eSlot 1) (eC (.int 3))))) aNil)))))))))
noncomputable def F__law_entry : MF := runF 2 N__law_entry b__law_entry
abbrev s__law_room_of : Stmt := topS 49
abbrev N__law_room_of : List Str := ["_law_text", "_law_parts", "_law_within", "_law_waits", "_law_word", "_law_part", "_law_one"]
theorem sc__law_room_of : FnScope N__law_room_of ["_law_text"] (defScope s__law_room_of) := ⟨rfl, rfl, rfl, by decide +kernel, rfl, by decide +kernel, by decide +kernel⟩
noncomputable def b__law_room_of : MS :=
 (sSeq (sAsg (eFrz (aSplit (eSlot 0) (eC (.str ", ")))) (gName 1))
 (sSeq (sAsg (eOpN tupleO (aCons (eFrz (aSplit (eOp2 ixA (eSlot 1) (eC (.int 0))) (eC (.str " ")))) aNil)) (gName 2))
 (sSeq (sIf (tOr (tE (eOp2 gtO (eOpN lenO (aCons (eSlot 2) aNil)) (eC (.int 5)))) (tNot (tE (eOpN allO (aCons (eFrz (aComp (iOf (eSlot 2)) (.name 4) (fun _ h => .ok true h) (eOp2 (inO false) (eSlot 4) (eTup (aCons (eC (.str "out")) (aCons (eC (.str "reads")) (aCons (eC (.str "rising")) (aCons (eC (.str "writes")) (aCons (eC (.str "raised")) aNil))))))) [4])) aNil))))) (sRet (eC .non)) sNext)
 (sSeq (sAsg (eFrz (aComp (iOf (eSlice (eSlot 1) (oSome (eC (.int 1))) oNone)) (.name 5) (fun _ h => .ok true h) (eCall F__law_entry (aCons (eSlot 2) (aCons (eFrz (aSplit (eSlot 5) (eC (.str " ")))) aNil))) [5])) (gName 3))
 (sSeq (sIf (tOr (tE (eOp2 (inO false) (eC .non) (eSlot 3))) (tE (eOp2 ltO (eLenSet (eFrz (aComp (iOf (eSlot 3)) (.name 6) (fun _ h => .ok true h) (eOp2 ixA (eSlot 6) (eC (.int 0))) [6]))) (eOpN lenO (aCons (eSlot 3) aNil))))) (sRet (eC .non)) sNext)
 (sRet (eTup (aCons (eSlot 2) (aCons (eOpN tupleO (aCons (eSlot 3) aNil)) aNil)))))))))
noncomputable def F__law_room_of : MF := runF 1 N__law_room_of b__law_room_of
abbrev s__law_spoilt : Stmt := topS 50
abbrev N__law_spoilt : List Str := ["_law_left_here", "_law_text", "_law_words", "_law_at", "_law_spot", "_law_sign", "_law_other", "_law_some"]
theorem sc__law_spoilt : FnScope N__law_spoilt ["_law_left_here", "_law_text"] (defScope s__law_spoilt) := ⟨rfl, rfl, rfl, by decide +kernel, rfl, by decide +kernel, by decide +kernel⟩
noncomputable def b__law_spoilt : MS :=
 (sSeq (sAsg (eFrz (aSplit (eSlot 1) (eC (.str " ")))) (gName 2))
 (sSeq (sPar 3 4 (aCons (eCall F__law_pick (aCons (eSlot 0) (aCons (eOp2 addO (eOpN lenO (aCons (eSlot 1) aNil)) (eC (.int 1))) aNil))) (aCons (eCall F__law_pick (aCons (eSlot 0) (aCons (eOpN lenO (aCons (eSlot 2) aNil)) aNil))) aNil)))
 (sSeq (sAsg (eOp2 ixA (eFrz (aChs (eC (.str "0123459 ,-ak\n")))) (eCall F__law_pick (aCons (eSlot 0) (aCons (eC (.int 13)) aNil)))) (gName 5))
 (sSeq (sAsg (eFrz (aCons (eC (.str "most")) (aCons (eC (.str "ups")) (aCons (eC (.str "0")) (aCons (eC (.str "9")) (aCons (eC (.str "10")) (aCons (eC (.str "01")) (aCons (eC (.str "6")) (aCons (eC (.str "-")) (aCons (eC (.str "out")) (aCons (eC (.str "reads,")) (aCons (eC (.str "read")) (aCons (eC (.str "passes")) (aCons (eC (.str "rows")) (aCons (eC (.str "")) aNil))))))))))))))) (gName 6))
 (sSeq (sAsg (eOp2 ixA (eSlot 6) (eCall F__law_pick (aCons (eSlot 0) (aCons (eC (.int 14)) aNil)))) (gName 6))
 (sSeq (sAsg (eFrz (aCons (eOp2 addO (eSlice (eSlot 1) oNone (oSome (eSlot 3))) (eSlice (eSlot 1) (oSome (eOp2 addO (eSlot 3) (eC (.int 1)))) oNone)) (aCons (eOp2 addO (eOp2 addO (eSlice (eSlot 1) oNone (oSome (eSlot 3))) (eSlot 5)) (eSlice (eSlot 1) (oSome (eSlot 3)) oNone)) (aCons (eOp2 addO (eOp2 addO (eSlice (eSlot 1) oNone (oSome (eSlot 3))) (eSlot 5)) (eSlice (eSlot 1) (oSome (eOp2 addO (eSlot 3) (eC (.int 1)))) oNone)) aNil)))) (gName 7))
 (sSeq (sAsg (eOp2 addO (eSlot 7) (eFrz (aCons (eJoin (eC (.str " ")) (eOp2 addO (eOp2 addO (eSlice (eSlot 2) oNone (oSome (eSlot 4))) (eFrz (aCons (eSlot 6) aNil))) (eSlice (eSlot 2) (oSome (eOp2 addO (eSlot 4) (eC (.int 1)))) oNone))) (aCons (eJoin (eC (.str " ")) (eOp2 addO (eSlice (eSlot 2) oNone (oSome (eSlot 4))) (eSlice (eSlot 2) (oSome (eOp2 addO (eSlot 4) (eC (.int 1)))) oNone))) aNil)))) (gName 7))
 (sSeq (sAsg (eOp2 addO (eSlot 7) (eFrz (aCons (eJoin (eC (.str " ")) (eOp2 addO (eSlice (eSlot 2) oNone (oSome (eOp2 addO (eSlot 4) (eC (.int 1))))) (eSlice (eSlot 2) (oSome (eSlot 4)) oNone))) (aCons (eJoin (eC (.str " ")) (eOp2 addO (eSlice (eSlot 2) oNone (oSome (eSlot 4))) (eRev (eSlice (eSlot 2) (oSome (eSlot 4)) oNone)))) (aCons (eUpper (eSlot 1)) aNil))))) (gName 7))
 (sRet (eOp2 ixA (eSlot 7) (eCall F__law_pick (aCons (eSlot 0) (aCons (eC (.int 8)) aNil)))))))))))))
noncomputable def F__law_spoilt : MF := runF 2 N__law_spoilt b__law_spoilt
abbrev s_law : Stmt := topS 51
abbrev N_law : List Str := ["_law_script", "_law_rules_here", "_law_k", "_law_left_here", "_law_room", "_law_turn", "_law_text", "_law_due", "_law_thing"]
theorem sc_law : FnScope N_law ["_law_script"] (defScope s_law) := ⟨rfl, rfl, rfl, by decide +kernel, rfl, by decide +kernel, by decide +kernel⟩
noncomputable def L_law_0 (A : Str → Addr) : MS :=
 (sSeq (sAsg (eCall F__law_spoilt (aCons (eSlot 3) (aCons (eCall F__law_rule_text (aCons (eCall F__law_any_rule (aCons (eSlot 3) aNil)) aNil)) aNil))) (gName 6))
 (sSeq (sAsg (eDGet2 (eSlot 1) (eSlot 6) (eTup (aCons (eC (.str "*")) (aCons (eC .non) aNil)))) (gName 7))
 (sSeq (sIf (tNot (tE (eCall F__law_same (aCons (eCall (F__law_read A) (aCons (eC (.glb (.ref (A "read_rule")))) (aCons (eSlot 6) aNil))) (aCons (eSlot 7) aNil))))) (sRet (eC (.bl false))) sNext)
 (sSeq (sAsg (eCall F__law_spoilt (aCons (eSlot 3) (aCons (eCall F__law_room_text (aCons (eSlot 4) aNil)) aNil))) (gName 6))
 (sSeq (sIf (tE (eOp2 eqO (eCall F__law_pick (aCons (eSlot 3) (aCons (eC (.int 3)) aNil))) (eC (.int 0)))) (sAsg (eCall F__law_spoilt (aCons (eSlot 3) (aCons (eSlot 6) aNil))) (gName 6)) sNext)
 (sSeq (sAsg (eCall F__law_room_of (aCons (eSlot 6) aNil)) (gName 7))
 (sIf (tNot (tE (eCall F__law_same (aCons (eCall (F__law_read A) (aCons (eC (.glb (.ref (A "read_room")))) (aCons (eSlot 6) aNil))) (aCons (eIf (tE (eOp2 (isNO false) (eSlot 7) (eC .non))) (eTup (aCons (eC (.str "*")) (aCons (eC .non) aNil))) (eSlot 7)) aNil))))) (sRet (eC (.bl false))) sNext)))))))
noncomputable def L_law_1 (A : Str → Addr) : MS :=
 (sSeq (sAsg (eCall F__law_left (aCons (eSlot 0) (aCons (eSlot 2) aNil))) (gName 3))
 (sSeq (sAsg (eCall F__law_any_room (aCons (eSlot 3) (aCons (eOp2 addO (eC (.int 1)) (eCall F__law_pick (aCons (eSlot 3) (aCons (eC (.int 5)) aNil)))) aNil))) (gName 4))
 (sFor (iA rng1 (aCons (eC (.int 6)) aNil)) (.name 5) (L_law_0 A))))
noncomputable def L_law_2 (A : Str → Addr) : MS :=
 (sIf (tOr (tE (eOp2 neO (eCall (F__law_read A) (aCons (eC (.glb (.ref (A "read_rule")))) (aCons (eSlot 8) aNil))) (eTup (aCons (eC (.str "*")) (aCons (eC .non) aNil))))) (tE (eOp2 neO (eCall (F__law_read A) (aCons (eC (.glb (.ref (A "read_room")))) (aCons (eSlot 8) aNil))) (eTup (aCons (eC (.str "*")) (aCons (eC .non) aNil)))))) (sRet (eC (.bl false))) sNext)
noncomputable def b_law (A : Str → Addr) : MS :=
 (sSeq (sAsg (eCall F__law_rules aNil) (gName 1))
 (sSeq (sFor (iA rng1 (aCons (eOp2 addO (eC (.int 2)) (eOpN min2O (aCons (eC (.int 8)) (aCons (eOpN lenO (aCons (eSlot 0) aNil)) aNil)))) aNil)) (.name 2) (L_law_1 A))
 (sSeq (sFor (iOf (eTup (aCons (eC .non) (aCons (eC (.int 7)) (aCons (eC (.bl true)) (aCons (eTup aNil) (aCons (eFrz aNil) (aCons (eDict0) (aCons (eTup (aCons (eC (.str "rows")) aNil)) (aCons (eTup (aCons (eC (.str "rows")) (aCons (eC (.int 0)) (aCons (eC (.int 0)) (aCons (eC (.int 0)) aNil))))) (aCons (eTup (aCons (eTup (aCons (eC (.str "out")) aNil)) (aCons (eTup aNil) aNil))) aNil))))))))))) (.name 8) (L_law_2 A))
 (sRet (eC (.bl true))))))
noncomputable def F_law (A : Str → Addr) : MF := sepF (decide (A "read_room" ≠ A "read_rule")) (runF 1 N_law (b_law A))
abbrev s_NoDeed___init__ : Stmt := inClass (topS 19) 0
abbrev s_NoText___init__ : Stmt := inClass (topS 20) 0
theorem sc_NoText___init__ : FnScope ["self", "row"] ["self", "row"] (defScope s_NoText___init__) := ⟨rfl, rfl, rfl, by decide +kernel, rfl, by decide +kernel, by decide +kernel⟩
structure Txt (P : Program) (w : World) (K : PySem.W.Frag) (mg : Str → Option Value) where
  e_GuestError : Xc K mg "GuestError"
  e_NoDeed : Xc K mg "NoDeed"
  e_NoText : Xc K mg "NoText"
  e_TooMany : Xc K mg "TooMany"
  e_NoLine : Xc K mg "NoLine"
  i_NoDeed : Xi K e_NoDeed.C "self" "place" "NoDeed.__init__" s_NoDeed___init__
  i_NoText : Xi K e_NoText.C "self" "row" "NoText.__init__" s_NoText___init__
  q_GuestError : Xp K e_GuestError.C
  q_TooMany : Xp K e_TooMany.C
  q_NoLine : Xp K e_NoLine.C
  b_GuestError : Xb K e_GuestError.C
  s_GuestError_GuestError : PySem.W.subIn K (.ref e_GuestError.C) (.ref e_GuestError.C) = some true
  s_GuestError_NoDeed : PySem.W.subIn K (.ref e_GuestError.C) (.ref e_NoDeed.C) = some false
  d_GuestError_NoDeed : e_GuestError.C ≠ e_NoDeed.C
  s_GuestError_NoLine : PySem.W.subIn K (.ref e_GuestError.C) (.ref e_NoLine.C) = some false
  d_GuestError_NoLine : e_GuestError.C ≠ e_NoLine.C
  s_GuestError_NoText : PySem.W.subIn K (.ref e_GuestError.C) (.ref e_NoText.C) = some false
  d_GuestError_NoText : e_GuestError.C ≠ e_NoText.C
  s_GuestError_TooMany : PySem.W.subIn K (.ref e_GuestError.C) (.ref e_TooMany.C) = some false
  d_GuestError_TooMany : e_GuestError.C ≠ e_TooMany.C
  s_GuestError_ValueError : PySem.W.subIn K (.ref e_GuestError.C) (.type "ValueError") = some true
  s_NoDeed_GuestError : PySem.W.subIn K (.ref e_NoDeed.C) (.ref e_GuestError.C) = some true
  s_NoDeed_NoDeed : PySem.W.subIn K (.ref e_NoDeed.C) (.ref e_NoDeed.C) = some true
  s_NoDeed_NoLine : PySem.W.subIn K (.ref e_NoDeed.C) (.ref e_NoLine.C) = some false
  d_NoDeed_NoLine : e_NoDeed.C ≠ e_NoLine.C
  s_NoDeed_NoText : PySem.W.subIn K (.ref e_NoDeed.C) (.ref e_NoText.C) = some false
  d_NoDeed_NoText : e_NoDeed.C ≠ e_NoText.C
  s_NoDeed_TooMany : PySem.W.subIn K (.ref e_NoDeed.C) (.ref e_TooMany.C) = some false
  d_NoDeed_TooMany : e_NoDeed.C ≠ e_TooMany.C
  s_NoDeed_ValueError : PySem.W.subIn K (.ref e_NoDeed.C) (.type "ValueError") = some true
  s_NoLine_GuestError : PySem.W.subIn K (.ref e_NoLine.C) (.ref e_GuestError.C) = some true
  s_NoLine_NoDeed : PySem.W.subIn K (.ref e_NoLine.C) (.ref e_NoDeed.C) = some false
  d_NoLine_NoDeed : e_NoLine.C ≠ e_NoDeed.C
  s_NoLine_NoLine : PySem.W.subIn K (.ref e_NoLine.C) (.ref e_NoLine.C) = some true
  s_NoLine_NoText : PySem.W.subIn K (.ref e_NoLine.C) (.ref e_NoText.C) = some false
  d_NoLine_NoText : e_NoLine.C ≠ e_NoText.C
  s_NoLine_TooMany : PySem.W.subIn K (.ref e_NoLine.C) (.ref e_TooMany.C) = some false
  d_NoLine_TooMany : e_NoLine.C ≠ e_TooMany.C
  s_NoLine_ValueError : PySem.W.subIn K (.ref e_NoLine.C) (.type "ValueError") = some true
  s_NoText_GuestError : PySem.W.subIn K (.ref e_NoText.C) (.ref e_GuestError.C) = some true
  s_NoText_NoDeed : PySem.W.subIn K (.ref e_NoText.C) (.ref e_NoDeed.C) = some false
  d_NoText_NoDeed : e_NoText.C ≠ e_NoDeed.C
  s_NoText_NoLine : PySem.W.subIn K (.ref e_NoText.C) (.ref e_NoLine.C) = some false
  d_NoText_NoLine : e_NoText.C ≠ e_NoLine.C
  s_NoText_NoText : PySem.W.subIn K (.ref e_NoText.C) (.ref e_NoText.C) = some true
  s_NoText_TooMany : PySem.W.subIn K (.ref e_NoText.C) (.ref e_TooMany.C) = some false
  d_NoText_TooMany : e_NoText.C ≠ e_TooMany.C
  s_NoText_ValueError : PySem.W.subIn K (.ref e_NoText.C) (.type "ValueError") = some true
  s_TooMany_GuestError : PySem.W.subIn K (.ref e_TooMany.C) (.ref e_GuestError.C) = some true
  s_TooMany_NoDeed : PySem.W.subIn K (.ref e_TooMany.C) (.ref e_NoDeed.C) = some false
  d_TooMany_NoDeed : e_TooMany.C ≠ e_NoDeed.C
  s_TooMany_NoLine : PySem.W.subIn K (.ref e_TooMany.C) (.ref e_NoLine.C) = some false
  d_TooMany_NoLine : e_TooMany.C ≠ e_NoLine.C
  s_TooMany_NoText : PySem.W.subIn K (.ref e_TooMany.C) (.ref e_NoText.C) = some false
  d_TooMany_NoText : e_TooMany.C ≠ e_NoText.C
  s_TooMany_TooMany : PySem.W.subIn K (.ref e_TooMany.C) (.ref e_TooMany.C) = some true
  s_TooMany_ValueError : PySem.W.subIn K (.ref e_TooMany.C) (.type "ValueError") = some true
  p_is_between : Fd K mg "is_between" s_is_between ["thing", "low", "high"]
  p_is_rule : Fd K mg "is_rule" s_is_rule ["thing"]
  p_is_one_of : Fd K mg "is_one_of" s_is_one_of ["thing", "words"]
  p_is_left : Fd K mg "is_left" s_is_left ["thing"]
  p_is_entry : Fd K mg "is_entry" s_is_entry ["n", "thing"]
  p_are_waits : Fd K mg "are_waits" s_are_waits ["n", "within", "thing"]
  p_is_room : Fd K mg "is_room" s_is_room ["n", "thing"]
  p_rule_text : Fd K mg "rule_text" s_rule_text ["rule"]
  p_wait_text : Fd K mg "wait_text" s_wait_text ["wait"]
  p_room_text : Fd K mg "room_text" s_room_text ["room"]
  p_number_in : Fd K mg "number_in" s_number_in ["word", "most"]
  p_rule_in : Fd K mg "rule_in" s_rule_in ["words"]
  p_read_rule : Fd K mg "read_rule" s_read_rule ["text"]
  p_wait_in : Fd K mg "wait_in" s_wait_in ["text"]
  p_read_room : Fd K mg "read_room" s_read_room ["text"]
  p__law_cell_at : Fd K mg "_law_cell_at" s__law_cell_at ["_law_script", "_law_k"]
  p__law_far : Fd K mg "_law_far" s__law_far []
  p__law_left : Fd K mg "_law_left" s__law_left ["_law_script", "_law_k"]
  p__law_pick : Fd K mg "_law_pick" s__law_pick ["_law_left_here", "_law_many"]
  p__law_same : Fd K mg "_law_same" s__law_same ["_law_found", "_law_due"]
  p__law_any_rule : Fd K mg "_law_any_rule" s__law_any_rule ["_law_left_here"]
  p__law_any_room : Fd K mg "_law_any_room" s__law_any_room ["_law_left_here", "_law_n"]
  p__law_rule_text : Fd K mg "_law_rule_text" s__law_rule_text ["_law_rule"]
  p__law_room_text : Fd K mg "_law_room_text" s__law_room_text ["_law_room"]
  p__law_read : Fd K mg "_law_read" s__law_read ["_law_reader", "_law_thing"]
  p__law_rules : Fd K mg "_law_rules" s__law_rules []
  p__law_entry : Fd K mg "_law_entry" s__law_entry ["_law_within", "_law_words"]
  p__law_room_of : Fd K mg "_law_room_of" s__law_room_of ["_law_text"]
  p__law_spoilt : Fd K mg "_law_spoilt" s__law_spoilt ["_law_left_here", "_law_text"]
  p_law : Fd K mg "law" s_law ["_law_script"]
  fa_read_room : faOf K "read_room" = p_read_room.f
  fa_read_rule : faOf K "read_rule" = p_read_rule.f
  fd_read_room_read_rule : p_read_room.f ≠ p_read_rule.f
  c_WORDS : Cn P w K mg "WORDS" c_WORDS
  c_MOST_READERS : Cn P w K mg "MOST_READERS" c_MOST_READERS
  c_MOST_PASSES : Cn P w K mg "MOST_PASSES" c_MOST_PASSES
  c_PASSES : Cn P w K mg "PASSES" c_PASSES
  c_PLACES : Cn P w K mg "PLACES" c_PLACES
  c_WANTS : Cn P w K mg "WANTS" c_WANTS
  c_MOST_TICKS : Cn P w K mg "MOST_TICKS" c_MOST_TICKS
  c_MOST_MARK : Cn P w K mg "MOST_MARK" c_MOST_MARK
  c_NO_END : Cn P w K mg "NO_END" c_NO_END
  c_FIGURES : Cn P w K mg "FIGURES" c_FIGURES
  c_MOST_FIGURES : Cn P w K mg "MOST_FIGURES" c_MOST_FIGURES
  n_ValueError : mg "ValueError" = none
  n_all : mg "all" = none
  n_bool : mg "bool" = none
  n_dict : mg "dict" = none
  n_int : mg "int" = none
  n_isinstance : mg "isinstance" = none
  n_len : mg "len" = none
  n_list : mg "list" = none
  n_max : mg "max" = none
  n_min : mg "min" = none
  n_range : mg "range" = none
  n_set : mg "set" = none
  n_str : mg "str" = none
  n_tuple : mg "tuple" = none
  n_zip : mg "zip" = none
section
variable {P : Program} {w : World} {K : PySem.W.Frag} {mg : Str → Option Value}
theorem okx_NoText {base : Heap} (T : Txt P w K mg) : FnOk P w K mg base (L2.CX P w) 1 T.i_NoText.fI T.i_NoText.fd ["self", "row"] (spI K "nothing is written in row " "row") :=
  init_ok T.i_NoText.F sc_NoText___init__ fun cdv A outer s H E => pss_cons (ps_expr (pe_ownVe (by rfl) T.e_GuestError.g T.b_GuestError.r T.b_GuestError.k (pa_cons (pe_var rfl (Or.inl rfl)) (pa_cons (pe_joined (.cons pe_str (.cons (pe_fmtN (pe_var rfl (Or.inl rfl))) .nil))) pa_nil)))) (pss_one (ps_ost (pe_var rfl (Or.inl rfl)) (pe_var rfl (Or.inl rfl))))
theorem ok_is_between {base : Heap} (T : Txt P w K mg) : FnD P w K mg base 1 T.p_is_between.f T.p_is_between.fd ["thing", "low", "high"] F_is_between := by
  refine (fn_ok T.p_is_between.F sc_is_between fun cdv A outer s H E hr => ?_).frz
  have nd := sc_is_between.nd
  have hu1 := hu_of hr
  have hu := hr.units
  have hu65 := hu65 hr
  have hp : PassesOwn _ _ _ (cxOf (L2.CX P w) P w K mg base N_is_between "is_between" (defScope s_is_between) T.p_is_between.f cdv A outer s H E).xe := passes_of rfl
  exact (ss_one (ds_ret (de_and (de_callB call_isiA rz_isi (by rfl) T.n_isinstance (by decide +kernel) (dan_cons (de_slot 0) (dan_cons (de_tyN (T := "int") (by rfl) T.n_int (by decide +kernel)) dan_nil)).da) (de_and (de_not (de_callB call_isiA rz_isi (by rfl) T.n_isinstance (by decide +kernel) (dan_cons (de_slot 0) (dan_cons (de_tyN (T := "bool") (by rfl) T.n_bool (by decide +kernel)) dan_nil)).da)) (de_one (de_chain op_le op_le rz_le rz_le (de_slot 1) (de_slot 0) (de_slot 2)))))))
theorem ok_is_rule {base : Heap} (T : Txt P w K mg) : FnD P w K mg base 2 T.p_is_rule.f T.p_is_rule.fd ["thing"] F_is_rule := by
  refine (fn_ok T.p_is_rule.F sc_is_rule fun cdv A outer s H E hr => ?_).frz
  have nd := sc_is_rule.nd
  have hu1 := hu_of hr
  have hu := hr.units
  have hu65 := hu65 hr
  have hp : PassesOwn _ _ _ (cxOf (L2.CX P w) P w K mg base N_is_rule "is_rule" (defScope s_is_rule) T.p_is_rule.f cdv A outer s H E).xe := passes_of rfl
  exact (ss_cons (ds_if (dt_w (dw_or (dt_not (dt_val (de_callB call_isiA rz_isi (by rfl) T.n_isinstance (by decide +kernel) (dan_cons (de_slot 0) (dan_cons (de_tyN (T := "tuple") (by rfl) T.n_tuple (by decide +kernel)) dan_nil)).da))) (dw_or (dt_cmp (op_neD hu) rz_ne (de_callB call_lenA rz_len (by rfl) T.n_len PySem.boot_len (dan_cons (de_slot 0) dan_nil).da) de_int (nomark _)) (dw_or (dt_not (dt_val (de_callB call_isiA rz_isi (by rfl) T.n_isinstance (by decide +kernel) (dan_cons (de_ixA hu1 (de_slot 0) de_int) (dan_cons (de_tyN (T := "str") (by rfl) T.n_str (by decide +kernel)) dan_nil)).da))) (dw_or1 (dt_cmp (op_notInDT hu65) (rz_in true) (de_ixA hu1 (de_slot 0) de_int) (de_cn (by rfl) T.c_WORDS) (by rfl))))))) (ss_one (ds_ret de_bl)) ss_nil)
 (ss_cons (ds_asg (de_slot 0) (dg_tup rfl (dgs_cons (dg_name nd) (dgs_cons (dg_name nd) (dgs_cons (dg_name nd) (dgs_cons (dg_name nd) dgs_nil))))))
 (ss_cons (ds_if (dt_w (dw_or (dt_not (dt_val (de_call (ok_is_between T) (hr.mono (by decide)) (by rfl) T.p_is_between.g T.p_is_between.F.kp T.p_is_between.b (dan_cons (de_slot 2) (dan_cons de_int (dan_cons (de_cn (by rfl) T.c_MOST_READERS) dan_nil)))))) (dw_or (dt_not (dt_val (de_call (ok_is_between T) (hr.mono (by decide)) (by rfl) T.p_is_between.g T.p_is_between.F.kp T.p_is_between.b (dan_cons (de_slot 3) (dan_cons de_int (dan_cons (de_cn (by rfl) T.c_MOST_PASSES) dan_nil)))))) (dw_or1 (dt_not (dt_val (de_call (ok_is_between T) (hr.mono (by decide)) (by rfl) T.p_is_between.g T.p_is_between.F.kp T.p_is_between.b (dan_cons (de_slot 4) (dan_cons de_int (dan_cons de_int dan_nil)))))))))) (ss_one (ds_ret de_bl)) ss_nil)
 (ss_one (ds_ret (de_or (de_cmp (op_eqD hu) rz_eq (de_slot 1) (de_cn (by rfl) T.c_PASSES) (nomark _)) (de_one (de_cmp (op_eqD hu) rz_eq (de_slot 3) de_int (nomark _)))))))))
theorem ok_is_one_of {base : Heap} (T : Txt P w K mg) : FnD P w K mg base 1 T.p_is_one_of.f T.p_is_one_of.fd ["thing", "words"] F_is_one_of := by
  refine (fn_ok T.p_is_one_of.F sc_is_one_of fun cdv A outer s H E hr => ?_).frz
  have nd := sc_is_one_of.nd
  have hu1 := hu_of hr
  have hu := hr.units
  have hu65 := hu65 hr
  have hp : PassesOwn _ _ _ (cxOf (L2.CX P w) P w K mg base N_is_one_of "is_one_of" (defScope s_is_one_of) T.p_is_one_of.f cdv A outer s H E).xe := passes_of rfl
  exact (ss_one (ds_ret (de_and (de_callB call_isiA rz_isi (by rfl) T.n_isinstance (by decide +kernel) (dan_cons (de_slot 0) (dan_cons (de_tyN (T := "str") (by rfl) T.n_str (by decide +kernel)) dan_nil)).da) (de_one (de_cmp (op_inDT hu65) (rz_in false) (de_slot 0) (de_slot 1) (by rfl))))))
theorem ok_is_left {base : Heap} (T : Txt P w K mg) : FnD P w K mg base 2 T.p_is_left.f T.p_is_left.fd ["thing"] F_is_left := by
  refine (fn_ok T.p_is_left.F sc_is_left fun cdv A outer s H E hr => ?_).frz
  have nd := sc_is_left.nd
  have hu1 := hu_of hr
  have hu := hr.units
  have hu65 := hu65 hr
  have hp : PassesOwn _ _ _ (cxOf (L2.CX P w) P w K mg base N_is_left "is_left" (defScope s_is_left) T.p_is_left.f cdv A outer s H E).xe := passes_of rfl
  exact (ss_one (ds_ret (de_or (de_cmp op_isN rz_isN (de_slot 0) de_non (nomark _)) (de_one (de_call (ok_is_between T) (hr.mono (by decide)) (by rfl) T.p_is_between.g T.p_is_between.F.kp T.p_is_between.b (dan_cons (de_slot 0) (dan_cons de_int (dan_cons (de_cn (by rfl) T.c_MOST_TICKS) dan_nil))))))))
theorem ok_is_entry {base : Heap} (T : Txt P w K mg) : FnD P w K mg base 3 T.p_is_entry.f T.p_is_entry.fd ["n", "thing"] F_is_entry := by
  refine (fn_ok T.p_is_entry.F sc_is_entry fun cdv A outer s H E hr => ?_).frz
  have nd := sc_is_entry.nd
  have hu1 := hu_of hr
  have hu := hr.units
  have hu65 := hu65 hr
  have hp : PassesOwn _ _ _ (cxOf (L2.CX P w) P w K mg base N_is_entry "is_entry" (defScope s_is_entry) T.p_is_entry.f cdv A outer s H E).xe := passes_of rfl
  exact (ss_cons (ds_if (dt_w (dw_or (dt_not (dt_val (de_callB call_isiA rz_isi (by rfl) T.n_isinstance (by decide +kernel) (dan_cons (de_slot 1) (dan_cons (de_tyN (T := "tuple") (by rfl) T.n_tuple (by decide +kernel)) dan_nil)).da))) (dw_or1 (dt_cmp (op_neD hu) rz_ne (de_callB call_lenA rz_len (by rfl) T.n_len PySem.boot_len (dan_cons (de_slot 1) dan_nil).da) de_int (nomark _))))) (ss_one (ds_ret de_bl)) ss_nil)
 (ss_cons (ds_asg (de_slot 1) (dg_tup rfl (dgs_cons (dg_name nd) (dgs_cons (dg_name nd) (dgs_cons (dg_name nd) (dgs_cons (dg_name nd) dgs_nil))))))
 (ss_cons (ds_if (dt_w (dw_or (dt_not (dt_val (de_call (ok_is_between T) (hr.mono (by decide)) (by rfl) T.p_is_between.g T.p_is_between.F.kp T.p_is_between.b (dan_cons (de_slot 2) (dan_cons de_int (dan_cons (de_op op_sub rz_sub (de_slot 0) de_int) dan_nil)))))) (dw_or1 (dt_not (dt_val (de_call (ok_is_one_of T) (hr.mono (by decide)) (by rfl) T.p_is_one_of.g T.p_is_one_of.F.kp T.p_is_one_of.b (dan_cons (de_slot 3) (dan_cons (de_cn (by rfl) T.c_WANTS) dan_nil)))))))) (ss_one (ds_ret de_bl)) ss_nil)
 (ss_one (ds_ret (de_and (de_call (ok_is_between T) (hr.mono (by decide)) (by rfl) T.p_is_between.g T.p_is_between.F.kp T.p_is_between.b (dan_cons (de_slot 4) (dan_cons de_int (dan_cons (de_cn (by rfl) T.c_MOST_MARK) dan_nil)))) (de_one (de_call (ok_is_left T) (hr.mono (by decide)) (by rfl) T.p_is_left.g T.p_is_left.F.kp T.p_is_left.b (dan_cons (de_slot 5) dan_nil)))))))))
theorem ok_are_waits {base : Heap} (T : Txt P w K mg) : FnD P w K mg base 4 T.p_are_waits.f T.p_are_waits.fd ["n", "within", "thing"] F_are_waits := by
  refine (fn_ok T.p_are_waits.F sc_are_waits fun cdv A outer s H E hr => ?_).frz
  have nd := sc_are_waits.nd
  have hu1 := hu_of hr
  have hu := hr.units
  have hu65 := hu65 hr
  have hp : PassesOwn _ _ _ (cxOf (L2.CX P w) P w K mg base N_are_waits "are_waits" (defScope s_are_waits) T.p_are_waits.f cdv A outer s H E).xe := passes_of rfl
  exact (ss_cons (ds_if (dt_w (dw_or (dt_not (dt_val (de_callB call_isiA rz_isi (by rfl) T.n_isinstance (by decide +kernel) (dan_cons (de_slot 2) (dan_cons (de_tyN (T := "tuple") (by rfl) T.n_tuple (by decide +kernel)) dan_nil)).da))) (dw_or1 (dt_not (dt_val (de_callB (cr_all rfl) rz_all (by rfl) T.n_all (by decide +kernel) (dan_cons (de_frz (dl_comp (own := [("one", 4)]) rfl nd (di_seq (de_slot 2)) (blkOk_by (N := N_are_waits) (sc := defScope s_are_waits) (by decide +kernel)) (fun _ _ _ _ _ => (dtg_name nd)) (fun _ _ _ _ _ => dts_nil) (fun _ _ _ _ _ => (de_call (ok_is_entry T) (hr.mono (by decide)) (by rfl) T.p_is_entry.g T.p_is_entry.F.kp T.p_is_entry.b (dan_cons (de_slot 0) (dan_cons (de_slot 4) dan_nil)))))) dan_nil).da)))))) (ss_one (ds_ret de_bl)) ss_nil)
 (ss_cons (ds_setComp (own := [("one", 4)]) (m := eFrz _) (i := 3) frz_of rfl nd rfl rfl (sw_true rfl rfl rfl (by decide +kernel)) (di_seq (de_slot 2)) (blkOk_by (N := N_are_waits) (sc := defScope s_are_waits) (by decide +kernel)) (fun _ _ _ _ _ => (dtg_name nd)) (fun _ _ _ _ _ => dts_nil) (fun _ _ _ _ _ => (de_ixA hu1 (de_slot 4) de_int)))
 (ss_one (ds_ret (de_and (de_cmp (op_eqD hu) rz_eq (de_lenSet rfl (by rfl) T.n_len (by rfl) T.n_set (de_slot 3)) (de_callB call_lenA rz_len (by rfl) T.n_len PySem.boot_len (dan_cons (de_slot 3) dan_nil).da) (nomark _)) (de_one (de_callB (cr_all rfl) rz_all (by rfl) T.n_all (by decide +kernel) (dan_cons (de_frz (dl_comp (own := [("guest", 5)]) rfl nd (di_seq (de_slot 3)) (blkOk_by (N := N_are_waits) (sc := defScope s_are_waits) (by decide +kernel)) (fun _ _ _ _ _ => (dtg_name nd)) (fun _ _ _ _ _ => dts_nil) (fun _ _ _ _ _ => (de_cmp (op_eqD hu) rz_eq (de_ixA hu1 (de_slot 1) (de_slot 5)) de_str (nomark _))))) dan_nil).da)))))))
theorem ok_is_room {base : Heap} (T : Txt P w K mg) : FnD P w K mg base 5 T.p_is_room.f T.p_is_room.fd ["n", "thing"] F_is_room := by
  refine (fn_ok T.p_is_room.F sc_is_room fun cdv A outer s H E hr => ?_).frz
  have nd := sc_is_room.nd
  have hu1 := hu_of hr
  have hu := hr.units
  have hu65 := hu65 hr
  have hp : PassesOwn _ _ _ (cxOf (L2.CX P w) P w K mg base N_is_room "is_room" (defScope s_is_room) T.p_is_room.f cdv A outer s H E).xe := passes_of rfl
  exact (ss_cons (ds_if (dt_w (dw_or (dt_not (dt_val (de_callB call_isiA rz_isi (by rfl) T.n_isinstance (by decide +kernel) (dan_cons (de_slot 1) (dan_cons (de_tyN (T := "tuple") (by rfl) T.n_tuple (by decide +kernel)) dan_nil)).da))) (dw_or (dt_cmp (op_neD hu) rz_ne (de_callB call_lenA rz_len (by rfl) T.n_len PySem.boot_len (dan_cons (de_slot 1) dan_nil).da) de_int (nomark _)) (dw_or (dt_not (dt_val (de_callB call_isiA rz_isi (by rfl) T.n_isinstance (by decide +kernel) (dan_cons (de_ixA hu1 (de_slot 1) de_int) (dan_cons (de_tyN (T := "tuple") (by rfl) T.n_tuple (by decide +kernel)) dan_nil)).da))) (dw_or1 (dt_cmp (op_neD hu) rz_ne (de_callB call_lenA rz_len (by rfl) T.n_len PySem.boot_len (dan_cons (de_ixA hu1 (de_slot 1) de_int) dan_nil).da) (de_slot 0) (nomark _))))))) (ss_one (ds_ret de_bl)) ss_nil)
 (ss_one (ds_ret (de_and (de_callB (cr_all rfl) rz_all (by rfl) T.n_all (by decide +kernel) (dan_cons (de_frz (dl_comp (own := [("place", 2)]) rfl nd (di_seq (de_ixA hu1 (de_slot 1) de_int)) (blkOk_by (N := N_is_room) (sc := defScope s_is_room) (by decide +kernel)) (fun _ _ _ _ _ => (dtg_name nd)) (fun _ _ _ _ _ => dts_nil) (fun _ _ _ _ _ => (de_call (ok_is_one_of T) (hr.mono (by decide)) (by rfl) T.p_is_one_of.g T.p_is_one_of.F.kp T.p_is_one_of.b (dan_cons (de_slot 2) (dan_cons (de_cn (by rfl) T.c_PLACES) dan_nil)))))) dan_nil).da) (de_one (de_call (ok_are_waits T) (hr.mono (by decide)) (by rfl) T.p_are_waits.g T.p_are_waits.F.kp T.p_are_waits.b (dan_cons (de_slot 0) (dan_cons (de_ixA hu1 (de_slot 1) de_int) (dan_cons (de_ixA hu1 (de_slot 1) de_int) dan_nil)))))))))
theorem ok_rule_text {base : Heap} (T : Txt P w K mg) : FnD P w K mg base 1 T.p_rule_text.f T.p_rule_text.fd ["rule"] F_rule_text := by
  refine (fn_ok T.p_rule_text.F sc_rule_text fun cdv A outer s H E hr => ?_).frz
  have nd := sc_rule_text.nd
  have hu1 := hu_of hr
  have hu := hr.units
  have hu65 := hu65 hr
  have hp : PassesOwn _ _ _ (cxOf (L2.CX P w) P w K mg base N_rule_text "rule_text" (defScope s_rule_text) T.p_rule_text.f cdv A outer s H E).xe := passes_of rfl
  exact (ss_cons (ds_asg (de_slot 0) (dg_tup rfl (dgs_cons (dg_name nd) (dgs_cons (dg_name nd) (dgs_cons (dg_name nd) (dgs_cons (dg_name nd) dgs_nil))))))
 (ss_cons (ds_set nd (de_new (dl_lst (dan_cons (de_slot 1) dan_nil))))
 (ss_cons (ds_if (dt_cmp (op_eqD hu) rz_eq (de_slot 1) de_str (nomark _)) (ss_one (ds_expr (de_meth PySem.F.plainAttrs_list PySem.F.slot_list_append PySem.F.type_list_append mt_append rz_append (de_slot 5) (dan_cons (de_callTy call_strA rz_str1 (by rfl) T.n_str (by decide +kernel) (dan_cons (de_slot 3) dan_nil).da) dan_nil).da))) ss_nil)
 (ss_cons (ds_if (dt_cmp op_gt rz_gt (de_slot 2) de_int (nomark _)) (ss_one (ds_expr (de_meth PySem.F.plainAttrs_list PySem.F.slot_list_extend PySem.F.type_list_extend mt_extend rz_extend (de_slot 5) (dan_cons (de_frz (dl_lst (dan_cons de_str (dan_cons (de_callTy call_strA rz_str1 (by rfl) T.n_str (by decide +kernel) (dan_cons (de_slot 2) dan_nil).da) dan_nil)))) dan_nil).da))) ss_nil)
 (ss_cons (ds_if (dt_cmp (op_eqD hu) rz_eq (de_slot 4) de_int (nomark _)) (ss_one (ds_expr (de_meth PySem.F.plainAttrs_list PySem.F.slot_list_append PySem.F.type_list_append mt_append rz_append (de_slot 5) (dan_cons de_str dan_nil).da))) ss_nil)
 (ss_one (ds_ret (de_join de_str (de_slot 5)))))))))
theorem ok_wait_text {base : Heap} (T : Txt P w K mg) : FnD P w K mg base 1 T.p_wait_text.f T.p_wait_text.fd ["wait"] F_wait_text := by
  refine (fn_ok T.p_wait_text.F sc_wait_text fun cdv A outer s H E hr => ?_).frz
  have nd := sc_wait_text.nd
  have hu1 := hu_of hr
  have hu := hr.units
  have hu65 := hu65 hr
  have hp : PassesOwn _ _ _ (cxOf (L2.CX P w) P w K mg base N_wait_text "wait_text" (defScope s_wait_text) T.p_wait_text.f cdv A outer s H E).xe := passes_of rfl
  exact (ss_cons (ds_asg (de_slot 0) (dg_tup rfl (dgs_cons (dg_name nd) (dgs_cons (dg_name nd) (dgs_cons (dg_name nd) (dgs_cons (dg_name nd) dgs_nil))))))
 (ss_cons (ds_if (dt_cmp op_isN rz_isN (de_slot 4) de_non (nomark _)) (ss_one (ds_set nd (de_cn (by rfl) T.c_NO_END))) ss_nil)
 (ss_one (ds_ret (de_joined (.cons (de_fmt (de_slot 1)) (.cons de_str (.cons (de_fmt (de_slot 2)) (.cons de_str (.cons (de_fmt (de_slot 3)) (.cons de_str (.cons (de_fmt (de_slot 4)) .nil))))))))))))
theorem ok_room_text {base : Heap} (T : Txt P w K mg) : FnD P w K mg base 2 T.p_room_text.f T.p_room_text.fd ["room"] F_room_text := by
  refine (fn_ok T.p_room_text.F sc_room_text fun cdv A outer s H E hr => ?_).frz
  have nd := sc_room_text.nd
  have hu1 := hu_of hr
  have hu := hr.units
  have hu65 := hu65 hr
  have hp : PassesOwn _ _ _ (cxOf (L2.CX P w) P w K mg base N_room_text "room_text" (defScope s_room_text) T.p_room_text.f cdv A outer s H E).xe := passes_of rfl
  exact (ss_cons (ds_asg (de_slot 0) (dg_tup rfl (dgs_cons (dg_name nd) (dgs_cons (dg_name nd) dgs_nil))))
 (ss_one (ds_ret (de_join de_str (de_op op_addA rz_add (de_frz (dl_lst (dan_cons (de_join de_str (de_slot 1)) dan_nil))) (de_frz (dl_comp (own := [("wait", 3)]) rfl nd (di_seq (de_slot 2)) (blkOk_by (N := N_room_text) (sc := defScope s_room_text) (by decide +kernel)) (fun _ _ _ _ _ => (dtg_name nd)) (fun _ _ _ _ _ => dts_nil) (fun _ _ _ _ _ => (de_call (ok_wait_text T) (hr.mono (by decide)) (by rfl) T.p_wait_text.g T.p_wait_text.F.kp T.p_wait_text.b (dan_cons (de_slot 3) dan_nil))))))))))
theorem ok_number_in {base : Heap} (T : Txt P w K mg) : FnD P w K mg base 1 T.p_number_in.f T.p_number_in.fd ["word", "most"] F_number_in := by
  refine (fn_ok T.p_number_in.F sc_number_in fun cdv A outer s H E hr => ?_).frz
  have nd := sc_number_in.nd
  have hu1 := hu_of hr
  have hu := hr.units
  have hu65 := hu65 hr
  have hp : PassesOwn _ _ _ (cxOf (L2.CX P w) P w K mg base N_number_in "number_in" (defScope s_number_in) T.p_number_in.f cdv A outer s H E).xe := passes_of rfl
  exact (ss_cons (ds_if (dt_w (dw_or (dt_not (dt_chain op_le op_le rz_le rz_le de_int (de_callB call_lenA rz_len (by rfl) T.n_len PySem.boot_len (dan_cons (de_slot 0) dan_nil).da) (de_slot 1))) (dw_or1 (dt_not (dt_val (de_callB (cr_all rfl) rz_all (by rfl) T.n_all (by decide +kernel) (dan_cons (de_frz (dl_comp (own := [("sign", 2)]) rfl nd (di_seq (de_slot 0)) (blkOk_by (N := N_number_in) (sc := defScope s_number_in) (by decide +kernel)) (fun _ _ _ _ _ => (dtg_name nd)) (fun _ _ _ _ _ => dts_nil) (fun _ _ _ _ _ => (de_cmp op_in_sign rz_inSg (de_slot 2) (de_cn (by rfl) T.c_FIGURES) (by rfl))))) dan_nil).da)))))) (ss_one (ds_ret de_non)) ss_nil)
 (ss_one (ds_ret (de_intT (by rfl) T.n_int (by decide +kernel) (de_slot 0)))))
theorem ok_rule_in {base : Heap} (T : Txt P w K mg) : FnD P w K mg base 2 T.p_rule_in.f T.p_rule_in.fd ["words"] F_rule_in := by
  refine (fn_ok T.p_rule_in.F sc_rule_in fun cdv A outer s H E hr => ?_).frz
  have nd := sc_rule_in.nd
  have hu1 := hu_of hr
  have hu := hr.units
  have hu65 := hu65 hr
  have hp : PassesOwn _ _ _ (cxOf (L2.CX P w) P w K mg base N_rule_in "rule_in" (defScope s_rule_in) T.p_rule_in.f cdv A outer s H E).xe := passes_of rfl
  exact (ss_cons (ds_set nd (de_new (dl_list1 (by rfl) T.n_list (by decide +kernel) (de_slice (de_slot 0) (do_some de_int) do_none))))
 (ss_cons (ds_set nd de_int)
 (ss_cons (ds_set nd de_int)
 (ss_cons (ds_if (dt_w (dw_and (dt_cmp (op_eqD hu) rz_eq (de_ixA hu1 (de_slot 0) de_int) de_str (nomark _)) (dw_and1 (dt_cmp op_gt rz_gt (de_callB call_lenA rz_len (by rfl) T.n_len PySem.boot_len (dan_cons (de_slot 1) dan_nil).da) de_int (nomark _))))) (ss_one (ds_set nd (de_call (ok_number_in T) (hr.mono (by decide)) (by rfl) T.p_number_in.g T.p_number_in.F.kp T.p_number_in.b (dan_cons (de_meth PySem.F.plainAttrs_list PySem.F.slot_list_pop PySem.F.type_list_pop mt_popAt rz_popAt (de_slot 1) (dan_cons de_int dan_nil).da) (dan_cons de_int dan_nil))))) ss_nil)
 (ss_cons (ds_if (dt_w (dw_and (dt_cmp op_gt rz_gt (de_callB call_lenA rz_len (by rfl) T.n_len PySem.boot_len (dan_cons (de_slot 1) dan_nil).da) de_int (nomark _)) (dw_and1 (dt_cmp (op_eqD hu) rz_eq (de_ixA hu1 (de_slot 1) de_int) de_str (nomark _))))) (ss_cons (ds_set nd (de_call (ok_number_in T) (hr.mono (by decide)) (by rfl) T.p_number_in.g T.p_number_in.F.kp T.p_number_in.b (dan_cons (de_ixA hu1 (de_slot 1) de_int) (dan_cons de_int dan_nil))))
 (ss_one (ds_set nd (de_slice (de_slot 1) (do_some de_int) do_none)))) ss_nil)
 (ss_one (ds_ret (de_tup (dan_cons (de_ixA hu1 (de_slot 0) de_int) (dan_cons (de_slot 3) (dan_cons (de_slot 2) (dan_cons (de_callTy call_int1 rz_int1 (by rfl) T.n_int (by decide +kernel) (dan_cons (de_cmp (op_inDT hu65) (rz_in false) de_str (de_slot 1) (by rfl)) dan_nil).da) dan_nil))))))))))))
theorem ok_read_rule {base : Heap} (T : Txt P w K mg) : FnD P w K mg base 3 T.p_read_rule.f T.p_read_rule.fd ["text"] F_read_rule := by
  refine (fn_ok T.p_read_rule.F sc_read_rule fun cdv A outer s H E hr => ?_).frz
  have nd := sc_read_rule.nd
  have hu1 := hu_of hr
  have hu := hr.units
  have hu65 := hu65 hr
  have hp : PassesOwn _ _ _ (cxOf (L2.CX P w) P w K mg base N_read_rule "read_rule" (defScope s_read_rule) T.p_read_rule.f cdv A outer s H E).xe := passes_of rfl
  exact (ss_cons (ds_if (dt_not (dt_val (de_callB call_isiA rz_isi (by rfl) T.n_isinstance (by decide +kernel) (dan_cons (de_slot 0) (dan_cons (de_tyN (T := "str") (by rfl) T.n_str (by decide +kernel)) dan_nil)).da))) (ss_one (ds_raise rfl (dx_mkI T.e_NoText T.i_NoText (okx_NoText T) (hr.mono (by decide)) (by rfl) de_non))) ss_nil)
 (ss_cons (ds_set nd (de_call (ok_rule_in T) (hr.mono (by decide)) (by rfl) T.p_rule_in.g T.p_rule_in.F.kp T.p_rule_in.b (dan_cons (de_frz (dl_split (de_slot 0) de_str)) dan_nil)))
 (ss_cons (ds_if (dt_w (dw_or (dt_not (dt_val (de_call (ok_is_rule T) (hr.mono (by decide)) (by rfl) T.p_is_rule.g T.p_is_rule.F.kp T.p_is_rule.b (dan_cons (de_slot 1) dan_nil)))) (dw_or1 (dt_cmp (op_neD hu) rz_ne (de_call (ok_rule_text T) (hr.mono (by decide)) (by rfl) T.p_rule_text.g T.p_rule_text.F.kp T.p_rule_text.b (dan_cons (de_slot 1) dan_nil)) (de_slot 0) (nomark _))))) (ss_one (ds_raise rfl (dx_mkI T.e_NoText T.i_NoText (okx_NoText T) (hr.mono (by decide)) (by rfl) de_non))) ss_nil)
 (ss_one (ds_ret (de_slot 1))))))
theorem ok_wait_in {base : Heap} (T : Txt P w K mg) : FnD P w K mg base 2 T.p_wait_in.f T.p_wait_in.fd ["text"] F_wait_in := by
  refine (fn_ok T.p_wait_in.F sc_wait_in fun cdv A outer s H E hr => ?_)
  have nd := sc_wait_in.nd
  have hu1 := hu_of hr
  have hu := hr.units
  have hu65 := hu65 hr
  have hp : PassesOwn _ _ _ (cxOf (L2.CX P w) P w K mg base N_wait_in "wait_in" (defScope s_wait_in) T.p_wait_in.f cdv A outer s H E).xe := passes_of rfl
  exact (ss_cons (ds_set nd (de_frz (dl_split (de_slot 0) de_str)))
 (ss_cons (ds_if (dt_cmp (op_neD hu) rz_ne (de_callB call_lenA rz_len (by rfl) T.n_len PySem.boot_len (dan_cons (de_slot 1) dan_nil).da) de_int (nomark _)) (ss_one (ds_ret de_non)) ss_nil)
 (ss_cons (ds_set nd de_non)
 (ss_cons (ds_if (dt_cmp (op_neD hu) rz_ne (de_ixA hu1 (de_slot 1) de_int) (de_cn (by rfl) T.c_NO_END) (nomark _)) (ss_one (ds_set nd (de_call (ok_number_in T) (hr.mono (by decide)) (by rfl) T.p_number_in.g T.p_number_in.F.kp T.p_number_in.b (dan_cons (de_ixA hu1 (de_slot 1) de_int) (dan_cons de_int dan_nil))))) ss_nil)
 (ss_one (ds_ret (de_tup (dan_cons (de_call (ok_number_in T) (hr.mono (by decide)) (by rfl) T.p_number_in.g T.p_number_in.F.kp T.p_number_in.b (dan_cons (de_ixA hu1 (de_slot 1) de_int) (dan_cons de_int dan_nil))) (dan_cons (de_ixA hu1 (de_slot 1) de_int) (dan_cons (de_call (ok_number_in T) (hr.mono (by decide)) (by rfl) T.p_number_in.g T.p_number_in.F.kp T.p_number_in.b (dan_cons (de_ixA hu1 (de_slot 1) de_int) (dan_cons (de_cn (by rfl) T.c_MOST_FIGURES) dan_nil))) (dan_cons (de_slot 2) dan_nil)))))))))))
theorem ok_read_room {base : Heap} (T : Txt P w K mg) : FnD P w K mg base 6 T.p_read_room.f T.p_read_room.fd ["text"] F_read_room := by
  refine (fn_ok T.p_read_room.F sc_read_room fun cdv A outer s H E hr => ?_).frz
  have nd := sc_read_room.nd
  have hu1 := hu_of hr
  have hu := hr.units
  have hu65 := hu65 hr
  have hp : PassesOwn _ _ _ (cxOf (L2.CX P w) P w K mg base N_read_room "read_room" (defScope s_read_room) T.p_read_room.f cdv A outer s H E).xe := passes_of rfl
  exact (ss_cons (ds_if (dt_not (dt_val (de_callB call_isiA rz_isi (by rfl) T.n_isinstance (by decide +kernel) (dan_cons (de_slot 0) (dan_cons (de_tyN (T := "str") (by rfl) T.n_str (by decide +kernel)) dan_nil)).da))) (ss_one (ds_raise rfl (dx_mkI T.e_NoText T.i_NoText (okx_NoText T) (hr.mono (by decide)) (by rfl) de_non))) ss_nil)
 (ss_cons (ds_set nd (de_frz (dl_split (de_slot 0) de_str)))
 (ss_cons (ds_set nd (de_callTy call_tupF rz_tuple (by rfl) T.n_tuple (by decide +kernel) (dan_cons (de_frz (dl_split (de_ixA hu1 (de_slot 1) de_int) de_str)) dan_nil).da))
 (ss_cons (ds_set nd (de_tup (dan_cons (de_slot 2) (dan_cons (de_callTy call_tupF rz_tuple (by rfl) T.n_tuple (by decide +kernel) (dan_cons (de_frz (dl_comp (own := [("part", 4)]) rfl nd (di_seq (de_slice (de_slot 1) (do_some de_int) do_none)) (blkOk_by (N := N_read_room) (sc := defScope s_read_room) (by decide +kernel)) (fun _ _ _ _ _ => (dtg_name nd)) (fun _ _ _ _ _ => dts_nil) (fun _ _ _ _ _ => (de_call (ok_wait_in T) (hr.mono (by decide)) (by rfl) T.p_wait_in.g T.p_wait_in.F.kp T.p_wait_in.b (dan_cons (de_slot 4) dan_nil))))) dan_nil).da) dan_nil))))
 (ss_cons (ds_if (dt_w (dw_or (dt_not (dt_chain op_le op_le rz_le rz_le de_int (de_callB call_lenA rz_len (by rfl) T.n_len PySem.boot_len (dan_cons (de_slot 2) dan_nil).da) de_int)) (dw_or (dt_not (dt_val (de_call (ok_is_room T) (hr.mono (by decide)) (by rfl) T.p_is_room.g T.p_is_room.F.kp T.p_is_room.b (dan_cons (de_callB call_lenA rz_len (by rfl) T.n_len PySem.boot_len (dan_cons (de_slot 2) dan_nil).da) (dan_cons (de_slot 3) dan_nil))))) (dw_or1 (dt_cmp (op_neD hu) rz_ne (de_call (ok_room_text T) (hr.mono (by decide)) (by rfl) T.p_room_text.g T.p_room_text.F.kp T.p_room_text.b (dan_cons (de_slot 3) dan_nil)) (de_slot 0) (nomark _)))))) (ss_one (ds_raise rfl (dx_mkI T.e_NoText T.i_NoText (okx_NoText T) (hr.mono (by decide)) (by rfl) de_non))) ss_nil)
 (ss_one (ds_ret (de_slot 3))))))))
theorem ok__law_cell_at {base : Heap} (T : Txt P w K mg) : FnD P w K mg base 1 T.p__law_cell_at.f T.p__law_cell_at.fd ["_law_script", "_law_k"] F__law_cell_at := by
  refine (fn_ok T.p__law_cell_at.F sc__law_cell_at fun cdv A outer s H E hr => ?_)
  have nd := sc__law_cell_at.nd
  have hu1 := hu_of hr
  have hu := hr.units
  have hu65 := hu65 hr
  have hp : PassesOwn _ _ _ (cxOf (L2.CX P w) P w K mg base N__law_cell_at "_law_cell_at" (defScope s__law_cell_at) T.p__law_cell_at.f cdv A outer s H E).xe := passes_of rfl
  exact (ss_cons (ds_if (dt_cmp op_lt rz_lt (de_slot 1) (de_callB call_lenA rz_len (by rfl) T.n_len PySem.boot_len (dan_cons (de_slot 0) dan_nil).da) (nomark _)) (ss_one (ds_ret (de_ixA hu1 (de_slot 0) (de_slot 1)))) ss_nil)
 (ss_one (ds_ret de_int)))
theorem ok__law_far {base : Heap} (T : Txt P w K mg) : FnD P w K mg base 1 T.p__law_far.f T.p__law_far.fd [] F__law_far := by
  refine (fn_ok T.p__law_far.F sc__law_far fun cdv A outer s H E hr => ?_)
  have nd := sc__law_far.nd
  have hu1 := hu_of hr
  have hu := hr.units
  have hu65 := hu65 hr
  have hp : PassesOwn _ _ _ (cxOf (L2.CX P w) P w K mg base N__law_far "_law_far" (defScope s__law_far) T.p__law_far.f cdv A outer s H E).xe := passes_of rfl
  exact (ss_cons (ds_set nd de_int)
 (ss_cons (ds_for hp rfl (di_range1 (by rfl) T.n_range (dan_cons de_int dan_nil).da) (dtg_name nd) (ss_one (ds_set nd (de_op op_mulC rz_mulC (de_slot 0) (de_op op_pow rz_pow de_int de_int)))))
 (ss_one (ds_ret (de_slot 0)))))
theorem ok__law_left {base : Heap} (T : Txt P w K mg) : FnD P w K mg base 2 T.p__law_left.f T.p__law_left.fd ["_law_script", "_law_k"] F__law_left := by
  refine (fn_ok T.p__law_left.F sc__law_left fun cdv A outer s H E hr => ?_)
  have nd := sc__law_left.nd
  have hu1 := hu_of hr
  have hu := hr.units
  have hu65 := hu65 hr
  have hp : PassesOwn _ _ _ (cxOf (L2.CX P w) P w K mg base N__law_left "_law_left" (defScope s__law_left) T.p__law_left.f cdv A outer s H E).xe := passes_of rfl
  exact (ss_cons (ds_set nd (de_call (ok__law_cell_at T) (hr.mono (by decide)) (by rfl) T.p__law_cell_at.g T.p__law_cell_at.F.kp T.p__law_cell_at.b (dan_cons (de_slot 0) (dan_cons (de_op op_mod rz_mod (de_slot 1) (de_callB (call_max2 rfl) rz_max2 (by rfl) T.n_max (by decide +kernel) (dan_cons de_int (dan_cons (de_callB call_lenA rz_len (by rfl) T.n_len PySem.boot_len (dan_cons (de_slot 0) dan_nil).da) dan_nil)).da)) dan_nil))))
 (ss_cons (ds_set nd (de_op op_mod rz_mod (de_op op_mulC rz_mulC (de_op op_addA rz_add (de_op op_addA rz_add (de_op op_mod rz_mod (de_slot 2) de_int) (de_op op_mulC rz_mulC (de_op op_mulC rz_mulC de_int (de_slot 1)) (de_slot 1))) de_int) de_int) de_int))
 (ss_cons (ds_set nd (de_op op_mod rz_mod (de_op op_addA rz_add (de_op op_addA rz_add (de_op op_mulC rz_mulC (de_slot 3) de_int) (de_op op_mulC rz_mulC de_int (de_slot 1))) de_int) de_int))
 (ss_cons (ds_if (dt_cmp op_lt rz_lt (de_slot 2) (de_op op_pow rz_pow de_int de_int) (nomark _)) (ss_one (ds_set nd de_int)) ss_nil)
 (ss_one (ds_ret (de_new (dl_lst (dan_cons (de_op op_mod rz_mod (de_slot 2) (de_call0 (ok__law_far T) (hr.mono (by decide)) (by rfl) T.p__law_far.g T.p__law_far.F.kp T.p__law_far.b)) (dan_cons (de_slot 3) (dan_cons de_int dan_nil)))))))))))
theorem ok__law_pick {base : Heap} (T : Txt P w K mg) : FnD P w K mg base 1 T.p__law_pick.f T.p__law_pick.fd ["_law_left_here", "_law_many"] F__law_pick := by
  refine (fn_ok T.p__law_pick.F sc__law_pick fun cdv A outer s H E hr => ?_)
  have nd := sc__law_pick.nd
  have hu1 := hu_of hr
  have hu := hr.units
  have hu65 := hu65 hr
  have hp : PassesOwn _ _ _ (cxOf (L2.CX P w) P w K mg base N__law_pick "_law_pick" (defScope s__law_pick) T.p__law_pick.f cdv A outer s H E).xe := passes_of rfl
  exact (ss_cons (ds_if (dt_cmp op_gt rz_gt (de_ixA hu1 (de_slot 0) de_int) de_int (nomark _)) (ss_cons (ds_set nd (de_op op_mod rz_mod (de_ixA hu1 (de_slot 0) de_int) (de_slot 1)))
 (ss_cons (ds_asg (de_op op_fdiv rz_fdiv (de_ixA hu1 (de_slot 0) de_int) (de_slot 1)) (dg_sub (de_slot 0) de_int set_list rz_set))
 (ss_one (ds_ret (de_slot 2))))) ss_nil)
 (ss_cons (ds_asg (de_op op_addA rz_add (de_ixA hu1 (de_slot 0) de_int) de_int) (dg_sub (de_slot 0) de_int set_list rz_set))
 (ss_cons (ds_asg (de_op op_mod rz_mod (de_op op_addA rz_add (de_op op_addA rz_add (de_op op_mulC rz_mulC (de_ixA hu1 (de_slot 0) de_int) de_int) de_int) (de_op op_mulC rz_mulC de_int (de_ixA hu1 (de_slot 0) de_int))) de_int) (dg_sub (de_slot 0) de_int set_list rz_set))
 (ss_one (ds_ret (de_op op_mod rz_mod (de_op op_fdiv rz_fdiv (de_op op_mod rz_mod (de_op op_mulC rz_mulC (de_ixA hu1 (de_slot 0) de_int) (de_ixA hu1 (de_slot 0) de_int)) de_int) de_int) (de_slot 1)))))))
theorem okR__law_same {base : Heap} (T : Txt P w K mg) : ∀ n : Nat, FnD P w K mg base (0 + n) T.p__law_same.f T.p__law_same.fd ["_law_found", "_law_due"] (R__law_same n)
  | 0 => fn_stuck
  | n + 1 => by
    have ih := okR__law_same (base := base) T n
    refine (fn_ok (k := 0 + n) T.p__law_same.F sc__law_same fun cdv A outer s H E hr => ?_)
    have nd := sc__law_same.nd
    have hu1 := hu_of hr
    have hu := hr.units
    have hu65 := hu65 hr
    have hp : PassesOwn _ _ _ (cxOf (L2.CX P w) P w K mg base N__law_same "_law_same" (defScope s__law_same) T.p__law_same.f cdv A outer s H E).xe := passes_of rfl
    exact (ss_cons (ds_if (dt_val (de_callB call_isiA rz_isi (by rfl) T.n_isinstance (by decide +kernel) (dan_cons (de_slot 1) (dan_cons (de_tyN (T := "dict") (by rfl) T.n_dict (by decide +kernel)) dan_nil)).da)) (ss_cons (ds_if (dt_w (dw_or (dt_not (dt_val (de_callB call_isiA rz_isi (by rfl) T.n_isinstance (by decide +kernel) (dan_cons (de_slot 0) (dan_cons (de_tyN (T := "dict") (by rfl) T.n_dict (by decide +kernel)) dan_nil)).da))) (dw_or1 (dt_cmp (op_neD hu) rz_ne (de_callB call_lenA rz_len (by rfl) T.n_len PySem.boot_len (dan_cons (de_slot 0) dan_nil).da) (de_callB call_lenA rz_len (by rfl) T.n_len PySem.boot_len (dan_cons (de_slot 1) dan_nil).da) (nomark _))))) (ss_one (ds_ret de_bl)) ss_nil)
 (ss_cons (ds_set nd (de_dictOf rfl (by rfl) T.n_dict (by decide +kernel) (de_frz (dl_comp (own := [("_law_key", 3)]) rfl nd (di_seq (de_slot 0)) (blkOk_by (N := N__law_same) (sc := defScope s__law_same) (by decide +kernel)) (fun _ _ _ _ _ => (dtg_name nd)) (fun _ _ _ _ _ => dts_nil) (fun _ _ _ _ _ => (de_tup (dan_cons (de_slot 3) (dan_cons (de_slot 3) dan_nil))))))))
 (ss_one (ds_ret (de_callB (cr_all rfl) rz_all (by rfl) T.n_all (by decide +kernel) (dan_cons (de_frz (dl_comp (own := [("_law_key", 3)]) rfl nd (di_seq (de_slot 1)) (blkOk_by (N := N__law_same) (sc := defScope s__law_same) (by decide +kernel)) (fun _ _ _ _ _ => (dtg_name nd)) (fun _ _ _ _ _ => dts_nil) (fun _ _ _ _ _ => (de_and (de_cmp (op_inDT hu65) (rz_in false) (de_slot 3) (de_slot 0) (by rfl)) (de_and (de_call ih (hr.mono (by omega)) (by rfl) T.p__law_same.g T.p__law_same.F.kp T.p__law_same.b (dan_cons (de_ixA hu1 (de_slot 2) (de_slot 3)) (dan_cons (de_slot 3) dan_nil))) (de_one (de_call ih (hr.mono (by omega)) (by rfl) T.p__law_same.g T.p__law_same.F.kp T.p__law_same.b (dan_cons (de_ixA hu1 (de_slot 0) (de_slot 3)) (dan_cons (de_ixA hu1 (de_slot 1) (de_slot 3)) dan_nil))))))))) dan_nil).da))))) ss_nil)
 (ss_cons (ds_if (dt_w (dw_or (dt_val (de_callB call_isiA rz_isi (by rfl) T.n_isinstance (by decide +kernel) (dan_cons (de_slot 1) (dan_cons (de_tyN (T := "list") (by rfl) T.n_list (by decide +kernel)) dan_nil)).da)) (dw_or1 (dt_val (de_callB call_isiA rz_isi (by rfl) T.n_isinstance (by decide +kernel) (dan_cons (de_slot 1) (dan_cons (de_tyN (T := "tuple") (by rfl) T.n_tuple (by decide +kernel)) dan_nil)).da))))) (ss_cons (ds_if (dt_w (dw_or (dt_cmp (op_neD hu) rz_ne (de_callB call_isiA rz_isi (by rfl) T.n_isinstance (by decide +kernel) (dan_cons (de_slot 0) (dan_cons (de_tyN (T := "list") (by rfl) T.n_list (by decide +kernel)) dan_nil)).da) (de_callB call_isiA rz_isi (by rfl) T.n_isinstance (by decide +kernel) (dan_cons (de_slot 1) (dan_cons (de_tyN (T := "list") (by rfl) T.n_list (by decide +kernel)) dan_nil)).da) (nomark _)) (dw_or1 (dt_cmp (op_neD hu) rz_ne (de_callB call_isiA rz_isi (by rfl) T.n_isinstance (by decide +kernel) (dan_cons (de_slot 0) (dan_cons (de_tyN (T := "tuple") (by rfl) T.n_tuple (by decide +kernel)) dan_nil)).da) (de_callB call_isiA rz_isi (by rfl) T.n_isinstance (by decide +kernel) (dan_cons (de_slot 1) (dan_cons (de_tyN (T := "tuple") (by rfl) T.n_tuple (by decide +kernel)) dan_nil)).da) (nomark _))))) (ss_one (ds_ret de_bl)) ss_nil)
 (ss_one (ds_ret (de_and (de_cmp (op_eqD hu) rz_eq (de_callB call_lenA rz_len (by rfl) T.n_len PySem.boot_len (dan_cons (de_slot 0) dan_nil).da) (de_callB call_lenA rz_len (by rfl) T.n_len PySem.boot_len (dan_cons (de_slot 1) dan_nil).da) (nomark _)) (de_one (de_callB (cr_all rfl) rz_all (by rfl) T.n_all (by decide +kernel) (dan_cons (de_frz (dl_comp (own := [("_law_one", 4), ("_law_other", 5)]) rfl nd (di_zip (by rfl) T.n_zip (dan_cons (de_slot 0) (dan_cons (de_slot 1) dan_nil)).da) (blkOk_by (N := N__law_same) (sc := defScope s__law_same) (by decide +kernel)) (fun _ _ _ _ _ => (dtg_tup rfl (dtgs_cons nd (dtgs_cons nd dtgs_nil)))) (fun _ _ _ _ _ => dts_nil) (fun _ _ _ _ _ => (de_call ih (hr.mono (by omega)) (by rfl) T.p__law_same.g T.p__law_same.F.kp T.p__law_same.b (dan_cons (de_slot 4) (dan_cons (de_slot 5) dan_nil)))))) dan_nil).da)))))) ss_nil)
 (ss_cons (ds_if (dt_cmp op_isN rz_isN (de_slot 1) de_non (nomark _)) (ss_one (ds_ret (de_cmp op_isN rz_isN (de_slot 0) de_non (nomark _)))) ss_nil)
 (ss_cons (ds_if (dt_val (de_callB call_isiA rz_isi (by rfl) T.n_isinstance (by decide +kernel) (dan_cons (de_slot 1) (dan_cons (de_tyN (T := "str") (by rfl) T.n_str (by decide +kernel)) dan_nil)).da)) (ss_one (ds_ret (de_and (de_callB call_isiA rz_isi (by rfl) T.n_isinstance (by decide +kernel) (dan_cons (de_slot 0) (dan_cons (de_tyN (T := "str") (by rfl) T.n_str (by decide +kernel)) dan_nil)).da) (de_one (de_cmp (op_eqD hu) rz_eq (de_slot 0) (de_slot 1) (nomark _)))))) ss_nil)
 (ss_cons (ds_if (dt_w (dw_or (dt_val (de_callB call_isiA rz_isi (by rfl) T.n_isinstance (by decide +kernel) (dan_cons (de_slot 1) (dan_cons (de_tyN (T := "bool") (by rfl) T.n_bool (by decide +kernel)) dan_nil)).da)) (dw_or1 (dt_val (de_callB call_isiA rz_isi (by rfl) T.n_isinstance (by decide +kernel) (dan_cons (de_slot 0) (dan_cons (de_tyN (T := "bool") (by rfl) T.n_bool (by decide +kernel)) dan_nil)).da))))) (ss_one (ds_ret (de_and (de_callB call_isiA rz_isi (by rfl) T.n_isinstance (by decide +kernel) (dan_cons (de_slot 0) (dan_cons (de_tyN (T := "bool") (by rfl) T.n_bool (by decide +kernel)) dan_nil)).da) (de_and (de_callB call_isiA rz_isi (by rfl) T.n_isinstance (by decide +kernel) (dan_cons (de_slot 1) (dan_cons (de_tyN (T := "bool") (by rfl) T.n_bool (by decide +kernel)) dan_nil)).da) (de_one (de_cmp (op_eqD hu) rz_eq (de_slot 0) (de_slot 1) (nomark _))))))) ss_nil)
 (ss_one (ds_ret (de_and (de_callB call_isiA rz_isi (by rfl) T.n_isinstance (by decide +kernel) (dan_cons (de_slot 0) (dan_cons (de_tyN (T := "int") (by rfl) T.n_int (by decide +kernel)) dan_nil)).da) (de_one (de_cmp (op_eqD hu) rz_eq (de_slot 0) (de_slot 1) (nomark _)))))))))))
theorem ok__law_same {base : Heap} (T : Txt P w K mg) : FnD P w K mg base 10 T.p__law_same.f T.p__law_same.fd ["_law_found", "_law_due"] F__law_same := okR__law_same T 10
theorem ok__law_any_rule {base : Heap} (T : Txt P w K mg) : FnD P w K mg base 2 T.p__law_any_rule.f T.p__law_any_rule.fd ["_law_left_here"] F__law_any_rule := by
  refine (fn_ok T.p__law_any_rule.F sc__law_any_rule fun cdv A outer s H E hr => ?_).drop
  have nd := sc__law_any_rule.nd
  have hu1 := hu_of hr
  have hu := hr.units
  have hu65 := hu65 hr
  have hp : PassesOwn _ _ _ (cxOf (L2.CX P w) P w K mg base N__law_any_rule "_law_any_rule" (defScope s__law_any_rule) T.p__law_any_rule.f cdv A outer s H E).xe := passes_of rfl
  exact (ss_cons (ds_set nd (de_ixA hu1 (de_frz (dl_lst (dan_cons de_str (dan_cons de_str (dan_cons de_str (dan_cons de_str (dan_cons de_str (dan_cons de_str dan_nil)))))))) (de_call (ok__law_pick T) (hr.mono (by decide)) (by rfl) T.p__law_pick.g T.p__law_pick.F.kp T.p__law_pick.b (dan_cons (de_slot 0) (dan_cons de_int dan_nil)))))
 (ss_cons (ds_par rfl nd (i := 2) (j := 3) rfl rfl (by decide) rfl rfl (dan_cons (de_call (ok__law_pick T) (hr.mono (by decide)) (by rfl) T.p__law_pick.g T.p__law_pick.F.kp T.p__law_pick.b (dan_cons (de_slot 0) (dan_cons de_int dan_nil))) (dan_cons (de_call (ok__law_pick T) (hr.mono (by decide)) (by rfl) T.p__law_pick.g T.p__law_pick.F.kp T.p__law_pick.b (dan_cons (de_slot 0) (dan_cons de_int dan_nil))) dan_nil)).da (by rfl))
 (ss_one (ds_ret (de_tup (dan_cons (de_slot 1) (dan_cons (de_slot 2) (dan_cons (de_op op_mulC rz_mulC (de_slot 3) (de_callTy call_int1 rz_int1 (by rfl) T.n_int (by decide +kernel) (dan_cons (de_cmp (op_eqD hu) rz_eq (de_slot 1) de_str (nomark _)) dan_nil).da)) (dan_cons (de_call (ok__law_pick T) (hr.mono (by decide)) (by rfl) T.p__law_pick.g T.p__law_pick.F.kp T.p__law_pick.b (dan_cons (de_slot 0) (dan_cons de_int dan_nil))) dan_nil)))))))))
theorem ok__law_any_room {base : Heap} (T : Txt P w K mg) : FnD P w K mg base 2 T.p__law_any_room.f T.p__law_any_room.fd ["_law_left_here", "_law_n"] F__law_any_room := by
  refine (fn_ok T.p__law_any_room.F sc__law_any_room fun cdv A outer s H E hr => ?_).drop
  have nd := sc__law_any_room.nd
  have hu1 := hu_of hr
  have hu := hr.units
  have hu65 := hu65 hr
  have hp : PassesOwn _ _ _ (cxOf (L2.CX P w) P w K mg base N__law_any_room "_law_any_room" (defScope s__law_any_room) T.p__law_any_room.f cdv A outer s H E).xe := passes_of rfl
  exact (ss_cons (ds_set nd (de_new (dl_lst dan_nil)))
 (ss_cons (ds_for hp rfl (di_range1 (by rfl) T.n_range (dan_cons (de_slot 1) dan_nil).da) (dtg_name nd) (ss_one (ds_expr (de_meth PySem.F.plainAttrs_list PySem.F.slot_list_append PySem.F.type_list_append mt_append rz_append (de_slot 2) (dan_cons (de_ixA hu1 (de_frz (dl_lst (dan_cons de_str (dan_cons de_str (dan_cons de_str (dan_cons de_str (dan_cons de_str (dan_cons de_str (dan_cons de_str dan_nil))))))))) (de_call (ok__law_pick T) (hr.mono (by decide)) (by rfl) T.p__law_pick.g T.p__law_pick.F.kp T.p__law_pick.b (dan_cons (de_slot 0) (dan_cons de_int dan_nil)))) dan_nil).da))))
 (ss_cons (ds_set nd (de_new (dl_lst dan_nil)))
 (ss_cons (ds_for hp rfl (di_seq (de_frz (dl_comp (own := [("_law_guest", 3)]) rfl nd (di_range1 (by rfl) T.n_range (dan_cons (de_slot 1) dan_nil).da) (blkOk_by (N := N__law_any_room) (sc := defScope s__law_any_room) (by decide +kernel)) (fun _ _ _ _ _ => (dtg_name nd)) (fun _ _ _ _ _ => (dts_one (dt_cmp (op_eqD hu) rz_eq (de_ixA hu1 (de_slot 2) (de_slot 3)) de_str (nomark _)))) (fun _ _ _ _ _ => (de_slot 3))))) (dtg_name nd) (ss_cons (ds_set nd (de_ixA hu1 (de_frz (dl_lst (dan_cons de_int (dan_cons de_int (dan_cons de_int (dan_cons de_int (dan_cons de_int (dan_cons de_int (dan_cons de_int (dan_cons de_int dan_nil)))))))))) (de_call (ok__law_pick T) (hr.mono (by decide)) (by rfl) T.p__law_pick.g T.p__law_pick.F.kp T.p__law_pick.b (dan_cons (de_slot 0) (dan_cons de_int dan_nil)))))
 (ss_cons (ds_set nd (de_ixA hu1 (de_frz (dl_lst (dan_cons de_non (dan_cons de_non (dan_cons de_int (dan_cons de_int (dan_cons (de_op op_addA rz_add de_int (de_call (ok__law_pick T) (hr.mono (by decide)) (by rfl) T.p__law_pick.g T.p__law_pick.F.kp T.p__law_pick.b (dan_cons (de_slot 0) (dan_cons de_int dan_nil)))) dan_nil))))))) (de_call (ok__law_pick T) (hr.mono (by decide)) (by rfl) T.p__law_pick.g T.p__law_pick.F.kp T.p__law_pick.b (dan_cons (de_slot 0) (dan_cons de_int dan_nil)))))
 (ss_one (ds_if (dt_cmp op_gt rz_gt (de_call (ok__law_pick T) (hr.mono (by decide)) (by rfl) T.p__law_pick.g T.p__law_pick.F.kp T.p__law_pick.b (dan_cons (de_slot 0) (dan_cons de_int dan_nil))) de_int (nomark _)) (ss_cons (ds_set nd (de_tup (dan_cons (de_slot 3) (dan_cons (de_ixA hu1 (de_frz (dl_lst (dan_cons de_str (dan_cons de_str dan_nil)))) (de_call (ok__law_pick T) (hr.mono (by decide)) (by rfl) T.p__law_pick.g T.p__law_pick.F.kp T.p__law_pick.b (dan_cons (de_slot 0) (dan_cons de_int dan_nil)))) (dan_cons (de_slot 5) (dan_cons (de_slot 6) dan_nil))))))
 (ss_one (ds_expr (de_meth PySem.F.plainAttrs_list PySem.F.slot_list_insert PySem.F.type_list_insert mt_insert rz_insert (de_slot 4) (dan_cons (de_call (ok__law_pick T) (hr.mono (by decide)) (by rfl) T.p__law_pick.g T.p__law_pick.F.kp T.p__law_pick.b (dan_cons (de_slot 0) (dan_cons (de_op op_addA rz_add (de_callB call_lenA rz_len (by rfl) T.n_len PySem.boot_len (dan_cons (de_slot 4) dan_nil).da) de_int) dan_nil))) (dan_cons (de_slot 7) dan_nil)).da)))) ss_nil)))))
 (ss_one (ds_ret (de_tup (dan_cons (de_callTy call_tupF rz_tuple (by rfl) T.n_tuple (by decide +kernel) (dan_cons (de_slot 2) dan_nil).da) (dan_cons (de_callTy call_tupF rz_tuple (by rfl) T.n_tuple (by decide +kernel) (dan_cons (de_slot 4) dan_nil).da) dan_nil)))))))))
theorem ok__law_rule_text {base : Heap} (T : Txt P w K mg) : FnD P w K mg base 1 T.p__law_rule_text.f T.p__law_rule_text.fd ["_law_rule"] F__law_rule_text := by
  refine (fn_ok T.p__law_rule_text.F sc__law_rule_text fun cdv A outer s H E hr => ?_).frz
  have nd := sc__law_rule_text.nd
  have hu1 := hu_of hr
  have hu := hr.units
  have hu65 := hu65 hr
  have hp : PassesOwn _ _ _ (cxOf (L2.CX P w) P w K mg base N__law_rule_text "_law_rule_text" (defScope s__law_rule_text) T.p__law_rule_text.f cdv A outer s H E).xe := passes_of rfl
  exact (ss_cons (ds_asg (de_slot 0) (dg_tup rfl (dgs_cons (dg_name nd) (dgs_cons (dg_name nd) (dgs_cons (dg_name nd) (dgs_cons (dg_name nd) dgs_nil))))))
 (ss_cons (ds_set nd (de_op op_addA rz_add (de_op op_addA rz_add (de_slot 1) (de_op op_mulC rz_mulC de_str (de_callTy call_int1 rz_int1 (by rfl) T.n_int (by decide +kernel) (dan_cons (de_cmp (op_eqD hu) rz_eq (de_slot 1) de_str (nomark _)) dan_nil).da))) (de_op op_mulC rz_mulC (de_callTy call_strA rz_str1 (by rfl) T.n_str (by decide +kernel) (dan_cons (de_slot 3) dan_nil).da) (de_callTy call_int1 rz_int1 (by rfl) T.n_int (by decide +kernel) (dan_cons (de_cmp (op_eqD hu) rz_eq (de_slot 1) de_str (nomark _)) dan_nil).da))))
 (ss_one (ds_ret (de_op op_addA rz_add (de_op op_addA rz_add (de_slot 5) (de_op op_mulC rz_mulC (de_op op_addA rz_add de_str (de_callTy call_strA rz_str1 (by rfl) T.n_str (by decide +kernel) (dan_cons (de_slot 2) dan_nil).da)) (de_callTy call_int1 rz_int1 (by rfl) T.n_int (by decide +kernel) (dan_cons (de_cmp op_gt rz_gt (de_slot 2) de_int (nomark _)) dan_nil).da))) (de_op op_mulC rz_mulC de_str (de_slot 4)))))))
theorem ok__law_room_text {base : Heap} (T : Txt P w K mg) : FnD P w K mg base 1 T.p__law_room_text.f T.p__law_room_text.fd ["_law_room"] F__law_room_text := by
  refine (fn_ok T.p__law_room_text.F sc__law_room_text fun cdv A outer s H E hr => ?_).frz
  have nd := sc__law_room_text.nd
  have hu1 := hu_of hr
  have hu := hr.units
  have hu65 := hu65 hr
  have hp : PassesOwn _ _ _ (cxOf (L2.CX P w) P w K mg base N__law_room_text "_law_room_text" (defScope s__law_room_text) T.p__law_room_text.f cdv A outer s H E).xe := passes_of rfl
  exact (ss_cons (ds_set nd (de_join de_str (de_ixA hu1 (de_slot 0) de_int)))
 (ss_cons (ds_for hp rfl (di_seq (de_ixA hu1 (de_slot 0) de_int)) (dtg_tup rfl (dtgs_cons nd (dtgs_cons nd (dtgs_cons nd (dtgs_cons nd dtgs_nil))))) (ss_one (ds_set nd (de_op op_addA rz_add (de_op op_addA rz_add (de_op op_addA rz_add (de_op op_addA rz_add (de_op op_addA rz_add (de_op op_addA rz_add (de_op op_addA rz_add (de_op op_addA rz_add (de_slot 1) de_str) (de_callTy call_strA rz_str1 (by rfl) T.n_str (by decide +kernel) (dan_cons (de_slot 2) dan_nil).da)) de_str) (de_slot 3)) de_str) (de_callTy call_strA rz_str1 (by rfl) T.n_str (by decide +kernel) (dan_cons (de_slot 4) dan_nil).da)) de_str) (de_ixA hu1 (de_frz (dl_lst (dan_cons de_str (dan_cons (de_callTy call_strA rz_str1 (by rfl) T.n_str (by decide +kernel) (dan_cons (de_slot 5) dan_nil).da) dan_nil)))) (de_callTy call_int1 rz_int1 (by rfl) T.n_int (by decide +kernel) (dan_cons (de_cmp op_notN rz_notN (de_slot 5) de_non (nomark _)) dan_nil).da))))))
 (ss_one (ds_ret (de_slot 1)))))
theorem ok__law_read {base : Heap} (T : Txt P w K mg) : FnD P w K mg base 7 T.p__law_read.f T.p__law_read.fd ["_law_reader", "_law_thing"] (F__law_read (faOf K)) := by
  refine (fn_ok T.p__law_read.F sc__law_read fun cdv A outer s H E hr => ?_).frz
  have nd := sc__law_read.nd
  have hu1 := hu_of hr
  have hu := hr.units
  have hu65 := hu65 hr
  have hp : PassesOwn _ _ _ (cxOf (L2.CX P w) P w K mg base N__law_read "_law_read" (defScope s__law_read) T.p__law_read.f cdv A outer s H E).xe := passes_of rfl
  exact (ss_cons (ds_set nd de_non)
 (ss_cons (ds_set nd de_non)
 (ss_cons (ds_note rfl rfl rfl nd (i := 4) (j := 2) rfl rfl rfl rfl (by rfl) T.e_GuestError.g (fun q hq => by
      simp only [List.mem_cons, List.not_mem_nil, or_false] at hq
      rcases hq with rfl | rfl | rfl | rfl | rfl
      · exact ⟨T.e_GuestError, (exm_of T.e_GuestError T.s_GuestError_GuestError).trans (by decide +kernel)⟩
      · exact ⟨T.e_NoDeed, (exm_of T.e_GuestError T.s_NoDeed_GuestError).trans (by decide +kernel)⟩
      · exact ⟨T.e_NoText, (exm_of T.e_GuestError T.s_NoText_GuestError).trans (by decide +kernel)⟩
      · exact ⟨T.e_TooMany, (exm_of T.e_GuestError T.s_TooMany_GuestError).trans (by decide +kernel)⟩
      · exact ⟨T.e_NoLine, (exm_of T.e_GuestError T.s_NoLine_GuestError).trans (by decide +kernel)⟩) (fun _ _ hp => (ss_one (ds_set nd (de_callT (fun q hq => by
      rcases List.mem_cons.mp hq with rfl | hq
      · exact de_callLA T.fa_read_rule (de_callL (ok_read_rule T) (hr.mono (by decide)) T.p_read_rule.F.kp T.p_read_rule.b rfl (dan_cons (de_slot 1) dan_nil))
      rcases List.mem_cons.mp hq with rfl | hq
      · exact de_callLA T.fa_read_room (de_callL (ok_read_room T) (hr.mono (by decide)) T.p_read_room.F.kp T.p_read_room.b rfl (dan_cons (de_slot 1) dan_nil))
      exact absurd hq (by simp)))))) (fun _ _ => ps_asg (pe_var rfl (Or.inl rfl)) (pg_name nd rfl (Or.inl rfl))))
 (ss_cons (ds_if (dt_cmp op_isN rz_isN (de_slot 2) de_non (nomark _)) (ss_one (ds_ret (de_slot 3))) ss_nil)
 (ss_cons (ds_if (dt_w (dw_or (dt_not (dt_val (de_xis (cs := ["GuestError", "NoDeed", "NoText", "TooMany", "NoLine"]) (c := "NoText") (cv := (.ref T.e_NoText.C)) (cu := (.ref T.e_NoText.C)) (by rfl) T.n_isinstance (de_slot 2) (pe_glob (v := .ref T.e_NoText.C) (u := .ref T.e_NoText.C) (by rfl) T.e_NoText.g rfl) (fun w hw => hw) (fun q hq => by
      simp only [List.mem_cons, List.not_mem_nil, or_false] at hq
      rcases hq with rfl | rfl | rfl | rfl | rfl
      · exact ⟨T.e_GuestError, ((kit_ref T.e_NoText T.s_GuestError_NoText (by intro z; have := Value.ref.inj z; exact absurd this (T.d_GuestError_NoText))).trans (by decide +kernel))⟩
      · exact ⟨T.e_NoDeed, ((kit_ref T.e_NoText T.s_NoDeed_NoText (by intro z; have := Value.ref.inj z; exact absurd this (T.d_NoDeed_NoText))).trans (by decide +kernel))⟩
      · exact ⟨T.e_NoText, ((kit_ref T.e_NoText T.s_NoText_NoText (by intro _; rfl)).trans (by decide +kernel))⟩
      · exact ⟨T.e_TooMany, ((kit_ref T.e_NoText T.s_TooMany_NoText (by intro z; have := Value.ref.inj z; exact absurd this (T.d_TooMany_NoText))).trans (by decide +kernel))⟩
      · exact ⟨T.e_NoLine, ((kit_ref T.e_NoText T.s_NoLine_NoText (by intro z; have := Value.ref.inj z; exact absurd this (T.d_NoLine_NoText))).trans (by decide +kernel))⟩)))) (dw_or1 (dt_val (de_xisT (cs := ["GuestError", "NoDeed", "NoText", "TooMany", "NoLine"]) (ws := ["NoDeed", "NoLine", "TooMany"]) (cvs := [(.ref T.e_NoDeed.C), (.ref T.e_NoLine.C), (.ref T.e_TooMany.C)]) (cus := [(.ref T.e_NoDeed.C), (.ref T.e_NoLine.C), (.ref T.e_TooMany.C)]) (by rfl) T.n_isinstance (de_slot 2) (pa_cons (pe_glob (v := .ref T.e_NoDeed.C) (u := .ref T.e_NoDeed.C) (by rfl) T.e_NoDeed.g rfl) (pa_cons (pe_glob (v := .ref T.e_NoLine.C) (u := .ref T.e_NoLine.C) (by rfl) T.e_NoLine.g rfl) (pa_cons (pe_glob (v := .ref T.e_TooMany.C) (u := .ref T.e_TooMany.C) (by rfl) T.e_TooMany.g rfl) pa_nil))) (Nat.le_of_ble_eq_true rfl) (.cons (fun w hw => hw) (.cons (fun w hw => hw) (.cons (fun w hw => hw) .nil))) (fun q hq => by
      simp only [List.mem_cons, List.not_mem_nil, or_false] at hq
      rcases hq with rfl | rfl | rfl | rfl | rfl
      · exact ⟨T.e_GuestError, kitAny_of (ws := ["NoDeed", "NoLine", "TooMany"]) (.cons ((kit_ref T.e_NoDeed T.s_GuestError_NoDeed (by intro z; have := Value.ref.inj z; exact absurd this (T.d_GuestError_NoDeed))).trans (by decide +kernel)) (.cons ((kit_ref T.e_NoLine T.s_GuestError_NoLine (by intro z; have := Value.ref.inj z; exact absurd this (T.d_GuestError_NoLine))).trans (by decide +kernel)) (.cons ((kit_ref T.e_TooMany T.s_GuestError_TooMany (by intro z; have := Value.ref.inj z; exact absurd this (T.d_GuestError_TooMany))).trans (by decide +kernel)) .nil)))⟩
      · exact ⟨T.e_NoDeed, kitAny_of (ws := ["NoDeed", "NoLine", "TooMany"]) (.cons ((kit_ref T.e_NoDeed T.s_NoDeed_NoDeed (by intro _; rfl)).trans (by decide +kernel)) (.cons ((kit_ref T.e_NoLine T.s_NoDeed_NoLine (by intro z; have := Value.ref.inj z; exact absurd this (T.d_NoDeed_NoLine))).trans (by decide +kernel)) (.cons ((kit_ref T.e_TooMany T.s_NoDeed_TooMany (by intro z; have := Value.ref.inj z; exact absurd this (T.d_NoDeed_TooMany))).trans (by decide +kernel)) .nil)))⟩
      · exact ⟨T.e_NoText, kitAny_of (ws := ["NoDeed", "NoLine", "TooMany"]) (.cons ((kit_ref T.e_NoDeed T.s_NoText_NoDeed (by intro z; have := Value.ref.inj z; exact absurd this (T.d_NoText_NoDeed))).trans (by decide +kernel)) (.cons ((kit_ref T.e_NoLine T.s_NoText_NoLine (by intro z; have := Value.ref.inj z; exact absurd this (T.d_NoText_NoLine))).trans (by decide +kernel)) (.cons ((kit_ref T.e_TooMany T.s_NoText_TooMany (by intro z; have := Value.ref.inj z; exact absurd this (T.d_NoText_TooMany))).trans (by decide +kernel)) .nil)))⟩
      · exact ⟨T.e_TooMany, kitAny_of (ws := ["NoDeed", "NoLine", "TooMany"]) (.cons ((kit_ref T.e_NoDeed T.s_TooMany_NoDeed (by intro z; have := Value.ref.inj z; exact absurd this (T.d_TooMany_NoDeed))).trans (by decide +kernel)) (.cons ((kit_ref T.e_NoLine T.s_TooMany_NoLine (by intro z; have := Value.ref.inj z; exact absurd this (T.d_TooMany_NoLine))).trans (by decide +kernel)) (.cons ((kit_ref T.e_TooMany T.s_TooMany_TooMany (by intro _; rfl)).trans (by decide +kernel)) .nil)))⟩
      · exact ⟨T.e_NoLine, kitAny_of (ws := ["NoDeed", "NoLine", "TooMany"]) (.cons ((kit_ref T.e_NoDeed T.s_NoLine_NoDeed (by intro z; have := Value.ref.inj z; exact absurd this (T.d_NoLine_NoDeed))).trans (by decide +kernel)) (.cons ((kit_ref T.e_NoLine T.s_NoLine_NoLine (by intro _; rfl)).trans (by decide +kernel)) (.cons ((kit_ref T.e_TooMany T.s_NoLine_TooMany (by intro z; have := Value.ref.inj z; exact absurd this (T.d_NoLine_TooMany))).trans (by decide +kernel)) .nil)))⟩)))))) (ss_one (ds_ret (de_tup (dan_cons de_str (dan_cons de_str dan_nil))))) ss_nil)
 (ss_one (ds_ret (de_if (dt_val (de_xis (cs := ["GuestError", "NoDeed", "NoText", "TooMany", "NoLine"]) (c := "ValueError") (cv := (.ty "ValueError")) (cu := (.type "ValueError")) (by rfl) T.n_isinstance (de_slot 2) (pe_bltn (v := .ty "ValueError") (u := .type "ValueError") (by rfl) T.n_ValueError (by decide +kernel) rfl) (fun w hw => hw) (fun q hq => by
      simp only [List.mem_cons, List.not_mem_nil, or_false] at hq
      rcases hq with rfl | rfl | rfl | rfl | rfl
      · exact ⟨T.e_GuestError, ((kit_ve T.s_GuestError_ValueError).trans (by decide +kernel))⟩
      · exact ⟨T.e_NoDeed, ((kit_ve T.s_NoDeed_ValueError).trans (by decide +kernel))⟩
      · exact ⟨T.e_NoText, ((kit_ve T.s_NoText_ValueError).trans (by decide +kernel))⟩
      · exact ⟨T.e_TooMany, ((kit_ve T.s_TooMany_ValueError).trans (by decide +kernel))⟩
      · exact ⟨T.e_NoLine, ((kit_ve T.s_NoLine_ValueError).trans (by decide +kernel))⟩))) (de_tup (dan_cons de_str (dan_cons (de_xfld (de_slot 2) (fun q hq => by
      simp only [List.mem_cons, List.not_mem_nil, or_false] at hq
      rcases hq with rfl
      · exact ⟨T.e_NoText, T.i_NoText.no⟩)) dan_nil))) (de_tup (dan_cons de_str (dan_cons de_str dan_nil)))))))))))
theorem ok__law_rules {base : Heap} (T : Txt P w K mg) : FnD P w K mg base 2 T.p__law_rules.f T.p__law_rules.fd [] F__law_rules := by
  refine (fn_ok T.p__law_rules.F sc__law_rules fun cdv A outer s H E hr => ?_)
  have nd := sc__law_rules.nd
  have hu1 := hu_of hr
  have hu := hr.units
  have hu65 := hu65 hr
  have hp : PassesOwn _ _ _ (cxOf (L2.CX P w) P w K mg base N__law_rules "_law_rules" (defScope s__law_rules) T.p__law_rules.f cdv A outer s H E).xe := passes_of rfl
  exact (ss_cons (ds_set nd de_dict0)
 (ss_cons (ds_for hp rfl (di_seq (de_tup (dan_cons de_str (dan_cons de_str (dan_cons de_str (dan_cons de_str (dan_cons de_str dan_nil))))))) (dtg_name nd) (ss_one (ds_for hp rfl (di_range1 (by rfl) T.n_range (dan_cons (de_ixA hu1 (de_frz (dl_lst (dan_cons de_int (dan_cons de_int dan_nil)))) (de_callTy call_int1 rz_int1 (by rfl) T.n_int (by decide +kernel) (dan_cons (de_cmp (op_eqD hu) rz_eq (de_slot 1) de_str (nomark _)) dan_nil).da)) dan_nil).da) (dtg_name nd) (ss_one (ds_for hp rfl (di_range1 (by rfl) T.n_range (dan_cons de_int dan_nil).da) (dtg_name nd) (ss_one (ds_for hp rfl (di_seq (de_tup (dan_cons de_int (dan_cons de_int dan_nil)))) (dtg_name nd) (ss_one (ds_asg (de_tup (dan_cons (de_slot 1) (dan_cons (de_slot 3) (dan_cons (de_slot 2) (dan_cons (de_slot 4) dan_nil))))) (dg_sub (de_slot 0) (de_call (ok__law_rule_text T) (hr.mono (by decide)) (by rfl) T.p__law_rule_text.g T.p__law_rule_text.F.kp T.p__law_rule_text.b (dan_cons (de_tup (dan_cons (de_slot 1) (dan_cons (de_slot 3) (dan_cons (de_slot 2) (dan_cons (de_slot 4) dan_nil))))) dan_nil)) (set_dict hu1) rz_setD))))))))))
 (ss_one (ds_ret (de_slot 0)))))
theorem ok__law_entry {base : Heap} (T : Txt P w K mg) : FnD P w K mg base 1 T.p__law_entry.f T.p__law_entry.fd ["_law_within", "_law_words"] F__law_entry := by
  refine (fn_ok T.p__law_entry.F sc__law_entry fun cdv A outer s H E hr => ?_)
  have nd := sc__law_entry.nd
  have hu1 := hu_of hr
  have hu := hr.units
  have hu65 := hu65 hr
  have hp : PassesOwn _ _ _ (cxOf (L2.CX P w) P w K mg base N__law_entry "_law_entry" (defScope s__law_entry) T.p__law_entry.f cdv A outer s H E).xe := passes_of rfl
  exact (ss_cons (ds_if (dt_w (dw_or (dt_cmp (op_neD hu) rz_ne (de_callB call_lenA rz_len (by rfl) T.n_len PySem.boot_len (dan_cons (de_slot 1) dan_nil).da) de_int (nomark _)) (dw_or (dt_cmp (op_notInDT hu65) (rz_in true) (de_ixA hu1 (de_slot 1) de_int) (de_tup (dan_cons de_str (dan_cons de_str dan_nil))) (by rfl)) (dw_or1 (dt_cmp (op_notInDT hu65) (rz_in true) (de_ixA hu1 (de_slot 1) de_int) (de_frz (dl_listC rfl (by rfl) T.n_list (by decide +kernel) de_str)) (by rfl)))))) (ss_one (ds_ret de_non)) ss_nil)
 (ss_cons (ds_if (dt_w (dw_or (dt_cmp (op_notInDT hu65) (rz_in true) (de_ixA hu1 (de_slot 1) de_int) (de_slice (de_frz (dl_listC rfl (by rfl) T.n_list (by decide +kernel) de_str)) do_none (do_some (de_callB call_lenA rz_len (by rfl) T.n_len PySem.boot_len (dan_cons (de_slot 0) dan_nil).da))) (by rfl)) (dw_or1 (dt_cmp (op_neD hu) rz_ne (de_ixA hu1 (de_slot 0) (de_intT (by rfl) T.n_int (by decide +kernel) (de_ixA hu1 (de_slot 1) de_int))) de_str (nomark _))))) (ss_one (ds_ret de_non)) ss_nil)
 (ss_cons (ds_if (dt_w (dw_or (dt_not (dt_chain op_lt op_lt rz_lt rz_lt de_int (de_callB call_lenA rz_len (by rfl) T.n_len PySem.boot_len (dan_cons (de_ixA hu1 (de_slot 1) de_int) dan_nil).da) de_int)) (dw_or (dt_cmp (op_neD hu) rz_ne (de_strip (de_ixA hu1 (de_slot 1) de_int) de_str) de_str (nomark _)) (dw_or1 (dt_w (dw_and (dt_cmp (op_eqD hu) rz_eq (de_ixA hu1 (de_ixA hu1 (de_slot 1) de_int) de_int) de_str (nomark _)) (dw_and1 (dt_cmp (op_neD hu) rz_ne (de_ixA hu1 (de_slot 1) de_int) de_str (nomark _))))))))) (ss_one (ds_ret de_non)) ss_nil)
 (ss_one (ds_ret (de_tup (dan_cons (de_intT (by rfl) T.n_int (by decide +kernel) (de_ixA hu1 (de_slot 1) de_int)) (dan_cons (de_ixA hu1 (de_slot 1) de_int) (dan_cons (de_intT (by rfl) T.n_int (by decide +kernel) (de_ixA hu1 (de_slot 1) de_int)) (dan_cons (de_if (dt_cmp (op_eqD hu) rz_eq (de_ixA hu1 (de_slot 1) de_int) de_str (nomark _)) de_non (de_intT (by rfl) T.n_int (by decide +kernel) (de_ixA hu1 (de_slot 1) de_int))) dan_nil))))))))))
theorem ok__law_room_of {base : Heap} (T : Txt P w K mg) : FnD P w K mg base 2 T.p__law_room_of.f T.p__law_room_of.fd ["_law_text"] F__law_room_of := by
  refine (fn_ok T.p__law_room_of.F sc__law_room_of fun cdv A outer s H E hr => ?_)
  have nd := sc__law_room_of.nd
  have hu1 := hu_of hr
  have hu := hr.units
  have hu65 := hu65 hr
  have hp : PassesOwn _ _ _ (cxOf (L2.CX P w) P w K mg base N__law_room_of "_law_room_of" (defScope s__law_room_of) T.p__law_room_of.f cdv A outer s H E).xe := passes_of rfl
  exact (ss_cons (ds_set nd (de_frz (dl_split (de_slot 0) de_str)))
 (ss_cons (ds_set nd (de_callTy call_tupF rz_tuple (by rfl) T.n_tuple (by decide +kernel) (dan_cons (de_frz (dl_split (de_ixA hu1 (de_slot 1) de_int) de_str)) dan_nil).da))
 (ss_cons (ds_if (dt_w (dw_or (dt_cmp op_gt rz_gt (de_callB call_lenA rz_len (by rfl) T.n_len PySem.boot_len (dan_cons (de_slot 2) dan_nil).da) de_int (nomark _)) (dw_or1 (dt_not (dt_val (de_callB (cr_all rfl) rz_all (by rfl) T.n_all (by decide +kernel) (dan_cons (de_frz (dl_comp (own := [("_law_word", 4)]) rfl nd (di_seq (de_slot 2)) (blkOk_by (N := N__law_room_of) (sc := defScope s__law_room_of) (by decide +kernel)) (fun _ _ _ _ _ => (dtg_name nd)) (fun _ _ _ _ _ => dts_nil) (fun _ _ _ _ _ => (de_cmp (op_inDT hu65) (rz_in false) (de_slot 4) (de_tup (dan_cons de_str (dan_cons de_str (dan_cons de_str (dan_cons de_str (dan_cons de_str dan_nil)))))) (by rfl))))) dan_nil).da)))))) (ss_one (ds_ret de_non)) ss_nil)
 (ss_cons (ds_setComp (own := [("_law_part", 5)]) (m := eFrz _) (i := 3) frz_of rfl nd rfl rfl (sw_true rfl rfl rfl (by decide +kernel)) (di_seq (de_slice (de_slot 1) (do_some de_int) do_none)) (blkOk_by (N := N__law_room_of) (sc := defScope s__law_room_of) (by decide +kernel)) (fun _ _ _ _ _ => (dtg_name nd)) (fun _ _ _ _ _ => dts_nil) (fun _ _ _ _ _ => (de_call (ok__law_entry T) (hr.mono (by decide)) (by rfl) T.p__law_entry.g T.p__law_entry.F.kp T.p__law_entry.b (dan_cons (de_slot 2) (dan_cons (de_frz (dl_split (de_slot 5) de_str)) dan_nil)))))
 (ss_cons (ds_if (dt_w (dw_or (dt_cmp (op_inDT hu65) (rz_in false) de_non (de_slot 3) (by rfl)) (dw_or1 (dt_cmp op_lt rz_lt (de_lenSet rfl (by rfl) T.n_len (by rfl) T.n_set (de_frz (dl_comp (own := [("_law_one", 6)]) rfl nd (di_seq (de_slot 3)) (blkOk_by (N := N__law_room_of) (sc := defScope s__law_room_of) (by decide +kernel)) (fun _ _ _ _ _ => (dtg_name nd)) (fun _ _ _ _ _ => dts_nil) (fun _ _ _ _ _ => (de_ixA hu1 (de_slot 6) de_int))))) (de_callB call_lenA rz_len (by rfl) T.n_len PySem.boot_len (dan_cons (de_slot 3) dan_nil).da) (nomark _))))) (ss_one (ds_ret de_non)) ss_nil)
 (ss_one (ds_ret (de_tup (dan_cons (de_slot 2) (dan_cons (de_callTy call_tupF rz_tuple (by rfl) T.n_tuple (by decide +kernel) (dan_cons (de_slot 3) dan_nil).da) dan_nil))))))))))
theorem ok__law_spoilt {base : Heap} (T : Txt P w K mg) : FnD P w K mg base 2 T.p__law_spoilt.f T.p__law_spoilt.fd ["_law_left_here", "_law_text"] F__law_spoilt := by
  refine (fn_ok T.p__law_spoilt.F sc__law_spoilt fun cdv A outer s H E hr => ?_)
  have nd := sc__law_spoilt.nd
  have hu1 := hu_of hr
  have hu := hr.units
  have hu65 := hu65 hr
  have hp : PassesOwn _ _ _ (cxOf (L2.CX P w) P w K mg base N__law_spoilt "_law_spoilt" (defScope s__law_spoilt) T.p__law_spoilt.f cdv A outer s H E).xe := passes_of rfl
  exact (ss_cons (ds_set nd (de_frz (dl_split (de_slot 1) de_str)))
 (ss_cons (ds_par rfl nd (i := 3) (j := 4) rfl rfl (by decide) rfl rfl (dan_cons (de_call (ok__law_pick T) (hr.mono (by decide)) (by rfl) T.p__law_pick.g T.p__law_pick.F.kp T.p__law_pick.b (dan_cons (de_slot 0) (dan_cons (de_op op_addA rz_add (de_callB call_lenA rz_len (by rfl) T.n_len PySem.boot_len (dan_cons (de_slot 1) dan_nil).da) de_int) dan_nil))) (dan_cons (de_call (ok__law_pick T) (hr.mono (by decide)) (by rfl) T.p__law_pick.g T.p__law_pick.F.kp T.p__law_pick.b (dan_cons (de_slot 0) (dan_cons (de_callB call_lenA rz_len (by rfl) T.n_len PySem.boot_len (dan_cons (de_slot 2) dan_nil).da) dan_nil))) dan_nil)).da (by rfl))
 (ss_cons (ds_set nd (de_ixA hu1 (de_frz (dl_listC rfl (by rfl) T.n_list (by decide +kernel) de_str)) (de_call (ok__law_pick T) (hr.mono (by decide)) (by rfl) T.p__law_pick.g T.p__law_pick.F.kp T.p__law_pick.b (dan_cons (de_slot 0) (dan_cons de_int dan_nil)))))
 (ss_cons (ds_set nd (de_frz (dl_lst (dan_cons de_str (dan_cons de_str (dan_cons de_str (dan_cons de_str (dan_cons de_str (dan_cons de_str (dan_cons de_str (dan_cons de_str (dan_cons de_str (dan_cons de_str (dan_cons de_str (dan_cons de_str (dan_cons de_str (dan_cons de_str dan_nil)))))))))))))))))
 (ss_cons (ds_set nd (de_ixA hu1 (de_slot 6) (de_call (ok__law_pick T) (hr.mono (by decide)) (by rfl) T.p__law_pick.g T.p__law_pick.F.kp T.p__law_pick.b (dan_cons (de_slot 0) (dan_cons de_int dan_nil)))))
 (ss_cons (ds_set nd (de_frz (dl_lst (dan_cons (de_op op_addA rz_add (de_slice (de_slot 1) do_none (do_some (de_slot 3))) (de_slice (de_slot 1) (do_some (de_op op_addA rz_add (de_slot 3) de_int)) do_none)) (dan_cons (de_op op_addA rz_add (de_op op_addA rz_add (de_slice (de_slot 1) do_none (do_some (de_slot 3))) (de_slot 5)) (de_slice (de_slot 1) (do_some (de_slot 3)) do_none)) (dan_cons (de_op op_addA rz_add (de_op op_addA rz_add (de_slice (de_slot 1) do_none (do_some (de_slot 3))) (de_slot 5)) (de_slice (de_slot 1) (do_some (de_op op_addA rz_add (de_slot 3) de_int)) do_none)) dan_nil))))))
 (ss_cons (ds_set nd (de_op op_addA rz_add (de_slot 7) (de_frz (dl_lst (dan_cons (de_join de_str (de_op op_addA rz_add (de_op op_addA rz_add (de_slice (de_slot 2) do_none (do_some (de_slot 4))) (de_frz (dl_lst (dan_cons (de_slot 6) dan_nil)))) (de_slice (de_slot 2) (do_some (de_op op_addA rz_add (de_slot 4) de_int)) do_none))) (dan_cons (de_join de_str (de_op op_addA rz_add (de_slice (de_slot 2) do_none (do_some (de_slot 4))) (de_slice (de_slot 2) (do_some (de_op op_addA rz_add (de_slot 4) de_int)) do_none))) dan_nil))))))
 (ss_cons (ds_set nd (de_op op_addA rz_add (de_slot 7) (de_frz (dl_lst (dan_cons (de_join de_str (de_op op_addA rz_add (de_slice (de_slot 2) do_none (do_some (de_op op_addA rz_add (de_slot 4) de_int))) (de_slice (de_slot 2) (do_some (de_slot 4)) do_none))) (dan_cons (de_join de_str (de_op op_addA rz_add (de_slice (de_slot 2) do_none (do_some (de_slot 4))) (de_rev (de_slice (de_slot 2) (do_some (de_slot 4)) do_none)))) (dan_cons (de_upper (de_slot 1)) dan_nil)))))))
 (ss_one (ds_ret (de_ixA hu1 (de_slot 7) (de_call (ok__law_pick T) (hr.mono (by decide)) (by rfl) T.p__law_pick.g T.p__law_pick.F.kp T.p__law_pick.b (dan_cons (de_slot 0) (dan_cons de_int dan_nil))))))))))))))
theorem ok_law {base : Heap} (T : Txt P w K mg) : FnD P w K mg base 11 T.p_law.f T.p_law.fd ["_law_script"] (F_law (faOf K)) := by
  unfold F_law
  rw [sepF_of (by simp [T.fa_read_room, T.fa_read_rule, T.fd_read_room_read_rule])]
  refine (fn_ok T.p_law.F sc_law fun cdv A outer s H E hr => ?_)
  have nd := sc_law.nd
  have hu1 := hu_of hr
  have hu := hr.units
  have hu65 := hu65 hr
  have hp : PassesOwn _ _ _ (cxOf (L2.CX P w) P w K mg base N_law "law" (defScope s_law) T.p_law.f cdv A outer s H E).xe := passes_of rfl
  exact (ss_cons (ds_set nd (de_call0 (ok__law_rules T) (hr.mono (by decide)) (by rfl) T.p__law_rules.g T.p__law_rules.F.kp T.p__law_rules.b))
 (ss_cons (ds_for hp rfl (di_range1 (by rfl) T.n_range (dan_cons (de_op op_addA rz_add de_int (de_callB (call_min2 rfl) rz_min2 (by rfl) T.n_min (by decide +kernel) (dan_cons de_int (dan_cons (de_callB call_lenA rz_len (by rfl) T.n_len PySem.boot_len (dan_cons (de_slot 0) dan_nil).da) dan_nil)).da)) dan_nil).da) (dtg_name nd) (ss_cons (ds_set nd (de_call (ok__law_left T) (hr.mono (by decide)) (by rfl) T.p__law_left.g T.p__law_left.F.kp T.p__law_left.b (dan_cons (de_slot 0) (dan_cons (de_slot 2) dan_nil))))
 (ss_cons (ds_set nd (de_call (ok__law_any_room T) (hr.mono (by decide)) (by rfl) T.p__law_any_room.g T.p__law_any_room.F.kp T.p__law_any_room.b (dan_cons (de_slot 3) (dan_cons (de_op op_addA rz_add de_int (de_call (ok__law_pick T) (hr.mono (by decide)) (by rfl) T.p__law_pick.g T.p__law_pick.F.kp T.p__law_pick.b (dan_cons (de_slot 3) (dan_cons de_int dan_nil)))) dan_nil))))
 (ss_one (ds_for hp rfl (di_range1 (by rfl) T.n_range (dan_cons de_int dan_nil).da) (dtg_name nd) (ss_cons (ds_set nd (de_call (ok__law_spoilt T) (hr.mono (by decide)) (by rfl) T.p__law_spoilt.g T.p__law_spoilt.F.kp T.p__law_spoilt.b (dan_cons (de_slot 3) (dan_cons (de_call (ok__law_rule_text T) (hr.mono (by decide)) (by rfl) T.p__law_rule_text.g T.p__law_rule_text.F.kp T.p__law_rule_text.b (dan_cons (de_call (ok__law_any_rule T) (hr.mono (by decide)) (by rfl) T.p__law_any_rule.g T.p__law_any_rule.F.kp T.p__law_any_rule.b (dan_cons (de_slot 3) dan_nil)) dan_nil)) dan_nil))))
 (ss_cons (ds_set nd (de_dget2 hu1 (de_slot 1) (de_slot 6) (de_tup (dan_cons de_str (dan_cons de_non dan_nil))) ⟨by rfl, by rfl, by rfl, by rfl⟩))
 (ss_cons (ds_if (dt_not (dt_val (de_call (ok__law_same T) (hr.mono (by decide)) (by rfl) T.p__law_same.g T.p__law_same.F.kp T.p__law_same.b (dan_cons (de_call (ok__law_read T) (hr.mono (by decide)) (by rfl) T.p__law_read.g T.p__law_read.F.kp T.p__law_read.b (dan_cons (de_fv (by rfl) T.p_read_rule T.fa_read_rule) (dan_cons (de_slot 6) dan_nil))) (dan_cons (de_slot 7) dan_nil))))) (ss_one (ds_ret de_bl)) ss_nil)
 (ss_cons (ds_set nd (de_call (ok__law_spoilt T) (hr.mono (by decide)) (by rfl) T.p__law_spoilt.g T.p__law_spoilt.F.kp T.p__law_spoilt.b (dan_cons (de_slot 3) (dan_cons (de_call (ok__law_room_text T) (hr.mono (by decide)) (by rfl) T.p__law_room_text.g T.p__law_room_text.F.kp T.p__law_room_text.b (dan_cons (de_slot 4) dan_nil)) dan_nil))))
 (ss_cons (ds_if (dt_cmp (op_eqD hu) rz_eq (de_call (ok__law_pick T) (hr.mono (by decide)) (by rfl) T.p__law_pick.g T.p__law_pick.F.kp T.p__law_pick.b (dan_cons (de_slot 3) (dan_cons de_int dan_nil))) de_int (nomark _)) (ss_one (ds_set nd (de_call (ok__law_spoilt T) (hr.mono (by decide)) (by rfl) T.p__law_spoilt.g T.p__law_spoilt.F.kp T.p__law_spoilt.b (dan_cons (de_slot 3) (dan_cons (de_slot 6) dan_nil))))) ss_nil)
 (ss_cons (ds_set nd (de_call (ok__law_room_of T) (hr.mono (by decide)) (by rfl) T.p__law_room_of.g T.p__law_room_of.F.kp T.p__law_room_of.b (dan_cons (de_slot 6) dan_nil)))
 (ss_one (ds_if (dt_not (dt_val (de_call (ok__law_same T) (hr.mono (by decide)) (by rfl) T.p__law_same.g T.p__law_same.F.kp T.p__law_same.b (dan_cons (de_call (ok__law_read T) (hr.mono (by decide)) (by rfl) T.p__law_read.g T.p__law_read.F.kp T.p__law_read.b (dan_cons (de_fv (by rfl) T.p_read_room T.fa_read_room) (dan_cons (de_slot 6) dan_nil))) (dan_cons (de_if (dt_cmp op_isN rz_isN (de_slot 7) de_non (nomark _)) (de_tup (dan_cons de_str (dan_cons de_non dan_nil))) (de_slot 7)) dan_nil))))) (ss_one (ds_ret de_bl)) ss_nil)))))))))))))
 (ss_cons (ds_for hp rfl (di_seq (de_tup (dan_cons de_non (dan_cons de_int (dan_cons de_bl (dan_cons (de_tup dan_nil) (dan_cons (de_frz (dl_lst dan_nil)) (dan_cons de_dict0 (dan_cons (de_tup (dan_cons de_str dan_nil)) (dan_cons (de_tup (dan_cons de_str (dan_cons de_int (dan_cons de_int (dan_cons de_int dan_nil))))) (dan_cons (de_tup (dan_cons (de_tup (dan_cons de_str dan_nil)) (dan_cons (de_tup dan_nil) dan_nil))) dan_nil))))))))))) (dtg_name nd) (ss_one (ds_if (dt_w (dw_or (dt_cmp (op_neD hu) rz_ne (de_call (ok__law_read T) (hr.mono (by decide)) (by rfl) T.p__law_read.g T.p__law_read.F.kp T.p__law_read.b (dan_cons (de_fv (by rfl) T.p_read_rule T.fa_read_rule) (dan_cons (de_slot 8) dan_nil))) (de_tup (dan_cons de_str (dan_cons de_non dan_nil))) (nomark _)) (dw_or1 (dt_cmp (op_neD hu) rz_ne (de_call (ok__law_read T) (hr.mono (by decide)) (by rfl) T.p__law_read.g T.p__law_read.F.kp T.p__law_read.b (dan_cons (de_fv (by rfl) T.p_read_room T.fa_read_room) (dan_cons (de_slot 8) dan_nil))) (de_tup (dan_cons de_str (dan_cons de_non dan_nil))) (nomark _))))) (ss_one (ds_ret de_bl)) ss_nil)))
 (ss_one (ds_ret de_bl)))))
end
end LK
end
section
set_option maxHeartbeats 4000000
set_option synthInstance.maxSize 100000
set_option synthInstance.maxHeartbeats 400000
namespace LK
open MR PySem PySem.Spec PyProof.Rows L2
set_option exponentiation.threshold 1000 in
theorem far_eq (h : Hh) : F__law_far [] h = .ok (.int (10 ^ 600)) h := by
  unfold F__law_far b__law_far L__law_far_0
  simp (decide := true) [rangeD, List.range, List.range.loop, mulE]
def v__law_cell_at (ns : List Int) (k : Int) : Int := if k < ns.length then (ns[k.toNat]?).getD 0 else 0
theorem t__law_cell_at (ns : List Int) (k : Int) (k0 : 0 ≤ k) (h : Hh) : F__law_cell_at [.scr ns, .int k] h = .ok (.int (v__law_cell_at ns k)) h := by
  unfold F__law_cell_at b__law_cell_at v__law_cell_at
  by_cases hk : k < ns.length
  · have e : (ns.map D.int)[k.toNat]? = some (.int (ns[k.toNat]'(by omega))) := by simp
    have e2 : (Option.map D.int ns[k.toNat]?) = some (.int (ns[k.toNat]'(by omega))) := by simpa using e
    have e3 : ns[k.toNat]? = some (ns[k.toNat]'(by omega)) := by simp
    simp [hk, k0, e2, e3]
  · simp [hk, k0]
/-- numbers that are left -/
def Lk (l : List Int) : Prop := ∃ a b c : Int, l = [a, b, c] ∧ 0 ≤ a ∧ 0 ≤ b ∧ b < 2147483648 ∧ 0 ≤ c
def v__law_left (ns : List Int) (k : Int) : List Int :=
  [(if v__law_cell_at ns (k % (if (ns.length : Int) > 1 then (ns.length : Int) else 1)) < 10 ^ 18 then 0 else v__law_cell_at ns (k % (if (ns.length : Int) > 1 then (ns.length : Int) else 1))) % (10 ^ 600), ((v__law_cell_at ns (k % (if (ns.length : Int) > 1 then (ns.length : Int) else 1)) % 2147483629 + 7919 * k * k + 11) * 48271 % 2147483647 * 39373 + 7 * k + 1) % 2147483629, 0]
def d__law_left (ns : List Int) (k : Int) : Prop := 0 ≤ k ∧ k < 1000000
theorem lk_left (ns : List Int) (k : Int) : Lk (v__law_left ns k) := ⟨_, _, _, rfl, Int.emod_nonneg _ (by decide), Int.emod_nonneg _ (by decide), Int.lt_trans (Int.emod_lt_of_pos _ (by decide)) (by decide), by decide⟩
set_option exponentiation.threshold 1000 in
theorem t__law_left (ns : List Int) (k : Int) (h : Hh) (ok : d__law_left ns k) : F__law_left [.scr ns, .int k] h = .ok (.ref h.length) (h ++ [oL D.int (v__law_left ns k)]) := by
  obtain ⟨k0, k1⟩ := ok
  have m0 : (0 : Int) < (if (ns.length : Int) > 1 then (ns.length : Int) else 1) := by split <;> omega
  have hv := fun h => t__law_cell_at ns (k % (if (ns.length : Int) > 1 then (ns.length : Int) else 1)) (Int.emod_nonneg _ (by omega)) h
  have m0' : (0 : Int) < (if 1 < (ns.length : Int) then (ns.length : Int) else 1) := m0
  unfold F__law_left b__law_left v__law_left oL
  generalize v__law_cell_at ns (k % (if (ns.length : Int) > 1 then (ns.length : Int) else 1)) = v at hv ⊢
  have p0 := Int.emod_nonneg v (show (2147483629 : Int) ≠ 0 by decide)
  have p1 := Int.emod_lt_of_pos v (show (0 : Int) < 2147483629 by decide)
  have far0 : (0 : Int) < 10 ^ 600 := by decide
  have s1 : -18446744073709551616 < k ∧ k < 18446744073709551616 := by omega
  generalize hs : (v % 2147483629 + 7919 * k * k + 11) * 48271 % 2147483647 = s
  generalize hq : (s * 39373 + 7 * k + 1) % 2147483629 = q
  generalize hF : (10 : Int) ^ 600 = far at far0 ⊢
  have fe : ∀ h, F__law_far [] h = .ok (.int far) h := fun h => by rw [far_eq, hF]
  clear hF
  simp [hv, m0', mulE, s1, hs, hq]
  by_cases hc : v < 1000000000000000000
  · simp [hc, fe, far0]
  · simp [hc, fe, far0]
def v__law_pick (l : List Int) (m : Int) : Int × List Int := match l with
  | [a, b, c] => if 0 < a then (a % m, [a / m, b, c]) else
    (((b * 48271 + 12345 + 7 * (c + 1)) % 2147483647) * ((b * 48271 + 12345 + 7 * (c + 1)) % 2147483647) % 1999999973 / 64 % m, [a, (b * 48271 + 12345 + 7 * (c + 1)) % 2147483647, c + 1])
  | l => (0, l)
def d__law_pick (l : List Int) (m : Int) : Prop := Lk l ∧ 0 < m ∧ m < 1073741824
theorem t__law_pick (l : List Int) (m : Int) (h : Hh) (p : Nat) (hp : h[p]? = some (oL D.int l)) (ok : d__law_pick l m) : F__law_pick (.ref p :: [.int m]) h = .ok (.int (v__law_pick l m).1) (h.set p (oL D.int (v__law_pick l m).2)) := by
  obtain ⟨⟨a, b, c, rfl, a0, b0, b1, c0⟩, m0, m1⟩ := ok
  have hl : p < h.length := (List.getElem?_eq_some_iff.mp hp).1
  unfold F__law_pick b__law_pick v__law_pick
  have e : h[p]? = some (.lst [.int a, .int b, .int c]) := hp
  by_cases ha : 0 < a
  · simp [e, ha, m0, m1, oL]
  · have q0 := Int.emod_nonneg (b * 48271 + 12345 + 7 * (c + 1)) (show (2147483647 : Int) ≠ 0 by decide)
    have q1 := Int.emod_lt_of_pos (b * 48271 + 12345 + 7 * (c + 1)) (show (0 : Int) < 2147483647 by decide)
    generalize hq : (b * 48271 + 12345 + 7 * (c + 1)) % 2147483647 = q at q0 q1
    have s1 : -18446744073709551616 < q ∧ q < 18446744073709551616 := by omega
    have g : ∀ o, (h.set p o)[p]? = some o := fun o => by simp [hl]
    clear hl
    simp [e, ha, m0, m1, mulE, hq, s1, g, oL]
theorem pk {l : List Int} {m : Int} (hl : Lk l) (m0 : 0 < m) : 0 ≤ (v__law_pick l m).1 ∧ (v__law_pick l m).1 < m ∧ Lk (v__law_pick l m).2 := by
  obtain ⟨a, b, c, rfl, a0, b0, b1, c0⟩ := hl
  unfold v__law_pick
  by_cases ha : 0 < a
  · simp only [ha, if_true]
    exact ⟨Int.emod_nonneg _ (by omega), Int.emod_lt_of_pos _ m0, a / m, b, c, rfl, Int.ediv_nonneg a0 (by omega), b0, b1, c0⟩
  · simp only [ha, if_false]
    exact ⟨Int.emod_nonneg _ (by omega), Int.emod_lt_of_pos _ m0, a, _, c + 1, rfl, a0, Int.emod_nonneg _ (by decide), Int.lt_trans (Int.emod_lt_of_pos _ (by decide)) (by decide), by omega⟩
theorem same_comp {F : MF} {h : Hh} (x : D) (a b : Option D) (env : DEnv) (hl : env.length = 6) : ∀ ds : List D, (∀ d ∈ ds, F [d, d] h = .ok (.bl true) h) →
    compL none (.tup [4, 5]) (fun _ h => .ok true h) (eCall F (aCons (eSlot 4) (aCons (eSlot 5) aNil))) env (zipD ds ds) h = .ok (ds.map fun _ => .bl true) h
  | [], _ => by simp
  | d :: ds, hd => by
    have ih := same_comp x a b env hl ds fun e m => hd e (List.mem_cons_of_mem _ m)
    obtain ⟨x0, x1, x2, x3, x4, x5, rfl⟩ : ∃ x0 x1 x2 x3 x4 x5, env = [x0, x1, x2, x3, x4, x5] := by
      match env, hl with
      | [x0, x1, x2, x3, x4, x5], _ => exact ⟨_, _, _, _, _, _, rfl⟩
    have e := hd d List.mem_cons_self
    simp [e, ih]
theorem same_self : ∀ (n : Nat) (d : D) (h : Hh), fit n d = true → R__law_same n [d, d] h = .ok (.bl true) h
  | 0, d, h, f => by cases f
  | n + 1, d, h, f => by
    unfold R__law_same b__law_same
    cases d with
    | non => simp [kit_all]
    | bl b => simp [kit_bool]
    | int i => simp [kit_int]
    | str x =>
      have f : PyData.strOk x = true := f
      simp [kit_str, ev_eqS, f]
    | tup ds =>
      have f : ds.all (fit n) = true := f
      rw [List.all_eq_true] at f
      have c := fun env hl => same_comp (F := R__law_same n) (h := h) .non none none env hl ds fun d m => same_self n d h (f d m)
      simp [kit_tuple, c, truths_all]
    | lst ds =>
      have f : ds.all (fit n) = true := f
      rw [List.all_eq_true] at f
      have c := fun env hl => same_comp (F := R__law_same n) (h := h) .non none none env hl ds fun d m => same_self n d h (f d m)
      simp [kit_list, c, truths_all]
    | ref i => cases f
    | glb v => cases f
    | scr ns => cases f
    | wtp ds => cases f
    | dct u w => cases f
theorem t__law_same {α : Type} {e : α → D} [i : FitE e] {x y : α} (hxy : x = y) (h : Hh) (hn : i.n ≤ 10 := by decide) : F__law_same [e x, e y] h = .ok (.bl true) h := by
  subst hxy
  exact same_self 10 (e x) h (fit_le hn (i.f x))
noncomputable def c_is_between (thing_ : Int) (low_ : Int) (high_ : Int) : Ctl Empty Empty Bool Empty := (.rt (true && ((!false) && (decide (low_ ≤ thing_) && decide (thing_ ≤ high_)))))
noncomputable def v_is_between (thing_ : Int) (low_ : Int) (high_ : Int) : Bool := (c_is_between thing_ low_ high_).get
theorem t_is_between (thing_ : Int) (low_ : Int) (high_ : Int) (h : Hh) : F_is_between [D.int thing_, D.int low_, D.int high_] h = .ok (D.bl (v_is_between thing_ low_ high_)) h :=
  fn_frz (c := c_is_between thing_ low_ high_) (hN := Nat.le_of_ble_eq_true rfl) (qs_retF (q_and (q_opN (qa_cons (q_slot 0 rfl) (qa_cons q_c qa_nil)) (o_isiII _)) (fun kb1 => (q_and (q_not (q_opN (qa_cons (q_slot 0 rfl) (qa_cons q_c qa_nil)) (o_isiIB _))) (fun kb2 => (q_chain (q_slot 1 rfl) (q_slot 0 rfl) (fun _ => (q_slot 2 rfl)) (fun _ => rfl) (fun _ => rfl)))))))
noncomputable def c_is_one_of (thing_ : Wd) (words_ : (List Wd)) : Ctl Empty Empty Bool Empty := (.rt (true && (decide (thing_ ∈ words_))))
noncomputable def v_is_one_of (thing_ : Wd) (words_ : (List Wd)) : Bool := (c_is_one_of thing_ words_).get
theorem t_is_one_of (thing_ : Wd) (words_ : (List Wd)) (h : Hh) : F_is_one_of [eW thing_, (eS eW) words_] h = .ok (D.bl (v_is_one_of thing_ words_)) h :=
  fn_frz (c := c_is_one_of thing_ words_) (hN := Nat.le_of_ble_eq_true rfl) (qs_retF (q_and (q_opN (qa_cons (q_slot 0 rfl) (qa_cons q_c qa_nil)) (o_isiWS _)) (fun kb1 => (q_op2 (q_slot 0 rfl) (q_slot 1 rfl) (o_inS eW _ _)))))
noncomputable def c_is_left (thing_ : (Option Int)) : Ctl Empty Empty Bool Empty := (.rt ((thing_).isNone || (v_is_between ((thing_).getD default) (1 : Int) (9 : Int))))
noncomputable def v_is_left (thing_ : (Option Int)) : Bool := (c_is_left thing_).get
def d_is_left (thing_ : (Option Int)) : Prop := (((thing_).isNone = false → ((thing_).isSome = true)))
theorem t_is_left (thing_ : (Option Int)) (h : Hh) (ok : d_is_left thing_) : F_is_left [(eO D.int) thing_] h = .ok (D.bl (v_is_left thing_)) h :=
  fn_frz (c := c_is_left thing_) (hN := Nat.le_of_ble_eq_true rfl) (qs_retF (q_or (q_op2 (q_slot 0 rfl) q_c (o_isN _)) (fun kb1 => (q_call (qa_cons (q_unopt (ok kb1) (q_slot 0 rfl)) (qa_cons (q_c (d := .int 1)) (qa_cons (q_c (d := D.int 9)) qa_nil))) (fun h => t_is_between ((thing_).getD default) (1 : Int) (9 : Int) h)))))
noncomputable def c_is_entry (n_ : Int) (thing_ : (Int × Wd × Int × (Option Int))) : Ctl Empty Empty Bool Empty := (if ((!true) || (!decide ((4 : Int) = (4 : Int)))) = true then (.rt false) else (letC thing_ (fun r4 : (Int × Wd × Int × (Option Int)) => (if ((!(v_is_between r4.1 (0 : Int) (n_ - (1 : Int)))) || (!(v_is_one_of r4.2.1 [Wd.read, Wd.write]))) = true then (.rt false) else (.rt ((v_is_between r4.2.2.1 (0 : Int) (999 : Int)) && (v_is_left r4.2.2.2)))))))
noncomputable def v_is_entry (n_ : Int) (thing_ : (Int × Wd × Int × (Option Int))) : Bool := (c_is_entry n_ thing_).get
def d_is_entry (n_ : Int) (thing_ : (Int × Wd × Int × (Option Int))) : Prop := ((((!true) || (!decide ((4 : Int) = (4 : Int)))) = false → (letC thing_ (fun r4 : (Int × Wd × Int × (Option Int)) => ((((!(v_is_between r4.1 (0 : Int) (n_ - (1 : Int)))) || (!(v_is_one_of r4.2.1 [Wd.read, Wd.write]))) = false → (((v_is_between r4.2.2.1 (0 : Int) (999 : Int)) = true → (d_is_left r4.2.2.2)))))))))
theorem t_is_entry (n_ : Int) (thing_ : (Int × Wd × Int × (Option Int))) (h : Hh) (ok : d_is_entry n_ thing_) : F_is_entry [D.int n_, (eT4 D.int eW D.int (eO D.int)) thing_] h = .ok (D.bl (v_is_entry n_ thing_)) h :=
  fn_frz (c := c_is_entry n_ thing_) (hN := Nat.le_of_ble_eq_true rfl) (qs_ifr (qt_or (qt_not (qt_e (q_opN (qa_cons (q_slot 1 rfl) (qa_cons q_c qa_nil)) (o_isiTup _)))) (fun kb1 => (qt_e (q_op2 (q_opN (qa_cons (q_slot 1 rfl) qa_nil) (fun _ => rfl)) (q_c (d := .int 4)) (o_ne D.int _ _))))) nv_ret (fun kb2 => (qs_retF (q_c (d := .bl false)))) (fun kb3 => (qs_unpL (is := [2, 3, 4, 5]) (r := thing_) (e := fun r : (Int × Wd × Int × (Option Int)) => (eT4 D.int eW D.int (eO D.int)) r) (ps := (fun r : (Int × Wd × Int × (Option Int)) => [D.int r.1, eW r.2.1, D.int r.2.2.1, (eO D.int) r.2.2.2])) (Ev := (fun r : (Int × Wd × Int × (Option Int)) => [some (Sl.v (D.int n_)), some (Sl.v ((eT4 D.int eW D.int (eO D.int)) thing_)), none, none, none, none])) (ok := (fun r4 : (Int × Wd × Int × (Option Int)) => ((((!(v_is_between r4.1 (0 : Int) (n_ - (1 : Int)))) || (!(v_is_one_of r4.2.1 [Wd.read, Wd.write]))) = false → (((v_is_between r4.2.2.1 (0 : Int) (999 : Int)) = true → (d_is_left r4.2.2.2))))))) (q_slot 1 rfl) (fun _ => rfl) rfl (fun _ => rfl) rfl (ok kb3) (fun r4 kr4 => (qs_ifr (qt_or (qt_not (qt_e (q_call (qa_cons (q_slot 2 rfl) (qa_cons (q_c (d := .int 0)) (qa_cons (q_op2 (q_slot 0 rfl) (q_c (d := .int 1)) (fun _ => rfl)) qa_nil))) (fun h => t_is_between r4.1 (0 : Int) (n_ - (1 : Int)) h)))) (fun kb6 => (qt_not (qt_e (q_call (qa_cons (q_slot 3 rfl) (qa_cons (q_c (d := eS eW [Wd.read, Wd.write])) qa_nil)) (fun h => t_is_one_of r4.2.1 [Wd.read, Wd.write] h)))))) nv_ret (fun kb7 => (qs_retF (q_c (d := .bl false)))) (fun kb8 => (qs_retF (q_and (q_call (qa_cons (q_slot 4 rfl) (qa_cons (q_c (d := .int 0)) (qa_cons (q_c (d := D.int 999)) qa_nil))) (fun h => t_is_between r4.2.2.1 (0 : Int) (999 : Int) h)) (fun kb9 => (q_call (qa_cons (q_slot 5 rfl) qa_nil) (fun h => t_is_left r4.2.2.2 h ((kr4 kb8) kb9))))))))))))
noncomputable def c_are_waits (n_ : Int) (within_ : (List Wd)) (thing_ : (List (Int × Wd × Int × (Option Int)))) : Ctl Empty Empty Bool Empty := (if ((!true) || (!(List.all thing_ (fun y2 : (Int × Wd × Int × (Option Int)) => (v_is_entry n_ y2))))) = true then (.rt false) else (letC (List.map (fun y7 : (Int × Wd × Int × (Option Int)) => y7.1) thing_) (fun r10 : (List Int) => (.rt ((decide (((setN r10 : Nat) : Int) = (r10.length : Int))) && (List.all r10 (fun y13 : Int => (decide ((atZ within_ y13) = Wd.out)))))))))
noncomputable def v_are_waits (n_ : Int) (within_ : (List Wd)) (thing_ : (List (Int × Wd × Int × (Option Int)))) : Bool := (c_are_waits n_ within_ thing_).get
def d_are_waits (n_ : Int) (within_ : (List Wd)) (thing_ : (List (Int × Wd × Int × (Option Int)))) : Prop := (((!true) = false → ((∀ y2 ∈ thing_, (d_is_entry n_ y2)))) ∧ (((!true) || (!(List.all thing_ (fun y2 : (Int × Wd × Int × (Option Int)) => (v_is_entry n_ y2))))) = false → (letC (List.map (fun y7 : (Int × Wd × Int × (Option Int)) => y7.1) thing_) (fun r10 : (List Int) => ((r10).length < 64 ∧ ((decide (((setN r10 : Nat) : Int) = (r10.length : Int))) = true → ((∀ y13 ∈ r10, (inR within_ y13)))))))))
theorem t_are_waits (n_ : Int) (within_ : (List Wd)) (thing_ : (List (Int × Wd × Int × (Option Int)))) (h : Hh) (ok : d_are_waits n_ within_ thing_) : F_are_waits [D.int n_, (eS eW) within_, (eS (eT4 D.int eW D.int (eO D.int))) thing_] h = .ok (D.bl (v_are_waits n_ within_ thing_)) h :=
  fn_frz (c := c_are_waits n_ within_ thing_) (hN := Nat.le_of_ble_eq_true rfl) (qs_ifr (qt_or (qt_not (qt_e (q_opN (qa_cons (q_slot 2 rfl) (qa_cons q_c qa_nil)) (o_isiTup _)))) (fun kb1 => (qt_not (qt_e (q_opN (qa_cons (ql_frz (ql_map (e := (eT4 D.int eW D.int (eO D.int))) (qi_S (e := (eT4 D.int eW D.int (eO D.int))) (q_slot 2 rfl)) (by decide) rfl (fun _ _ => trivial) (fun y2 m3 => (q_call (qa_cons (q_slot 0 rfl) (qa_cons (q_slot 4 rfl) qa_nil)) (fun h => t_is_entry n_ y2 h ((ok.1 kb1) y2 m3)))))) qa_nil) (o_all _ _)))))) nv_ret (fun kb5 => (qs_retF (q_c (d := .bl false)))) (fun kb6 => (qs_let (e := (eL D.int)) (ok := (fun r10 : (List Int) => ((r10).length < 64 ∧ ((decide (((setN r10 : Nat) : Int) = (r10.length : Int))) = true → ((∀ y13 ∈ r10, (inR within_ y13))))))) (ql_frz (ql_map (e := (eT4 D.int eW D.int (eO D.int))) (qi_S (e := (eT4 D.int eW D.int (eO D.int))) (q_slot 2 rfl)) (by decide) rfl (fun _ _ => trivial) (fun y7 m8 => (q_op2 (d3 := D.int y7.1) (q_slot 4 rfl) q_c (fun _ => rfl))))) (ok.2 kb6) (fun r10 kr10 => (qs_retF (q_and (q_op2 (q_lenSet (q_slot 3 rfl) (o_setI _ kr10.1)) (q_opN (qa_cons (q_slot 3 rfl) qa_nil) (o_lenL D.int _)) (o_eq D.int _ _)) (fun kb12 => (q_opN (qa_cons (ql_frz (ql_map (e := D.int) (qi_L (e := D.int) (q_slot 3 rfl)) (by decide) rfl (fun _ _ => trivial) (fun y13 m14 => (q_op2 (q_op2 (q_slot 1 rfl) (q_slot 5 rfl) (o_ixS eW _ _ ((kr10.2 kb12) y13 m14))) (q_c (d := eW Wd.out)) (o_eq eW _ _))))) qa_nil) (o_all _ _)))))))))
noncomputable def c_is_room (n_ : Int) (thing_ : ((List Wd) × (List (Int × Wd × Int × (Option Int))))) : Ctl Empty Empty Bool Empty := (if ((!true) || ((!decide ((2 : Int) = (2 : Int))) || ((!true) || (!decide ((thing_.1.length : Int) = n_))))) = true then (.rt false) else (.rt ((List.all thing_.1 (fun y6 : Wd => (v_is_one_of y6 [Wd.out, Wd.reads, Wd.rising, Wd.writes, Wd.raised]))) && (v_are_waits n_ thing_.1 thing_.2))))
noncomputable def v_is_room (n_ : Int) (thing_ : ((List Wd) × (List (Int × Wd × Int × (Option Int))))) : Bool := (c_is_room n_ thing_).get
def d_is_room (n_ : Int) (thing_ : ((List Wd) × (List (Int × Wd × Int × (Option Int))))) : Prop := ((((!true) || ((!decide ((2 : Int) = (2 : Int))) || ((!true) || (!decide ((thing_.1.length : Int) = n_))))) = false → (((List.all thing_.1 (fun y6 : Wd => (v_is_one_of y6 [Wd.out, Wd.reads, Wd.rising, Wd.writes, Wd.raised]))) = true → (d_are_waits n_ thing_.1 thing_.2)))))
theorem t_is_room (n_ : Int) (thing_ : ((List Wd) × (List (Int × Wd × Int × (Option Int))))) (h : Hh) (ok : d_is_room n_ thing_) : F_is_room [D.int n_, (eT2 (eS eW) (eS (eT4 D.int eW D.int (eO D.int)))) thing_] h = .ok (D.bl (v_is_room n_ thing_)) h :=
  fn_frz (c := c_is_room n_ thing_) (hN := Nat.le_of_ble_eq_true rfl) (qs_ifr (qt_or (qt_not (qt_e (q_opN (qa_cons (q_slot 1 rfl) (qa_cons q_c qa_nil)) (o_isiTup _)))) (fun kb1 => (qt_or (qt_e (q_op2 (q_opN (qa_cons (q_slot 1 rfl) qa_nil) (fun _ => rfl)) (q_c (d := .int 2)) (o_ne D.int _ _))) (fun kb2 => (qt_or (qt_not (qt_e (q_opN (qa_cons (q_op2 (d3 := (eS eW) thing_.1) (q_slot 1 rfl) q_c (fun _ => rfl)) (qa_cons q_c qa_nil)) (o_isiTup _)))) (fun kb3 => (qt_e (q_op2 (q_opN (qa_cons (q_op2 (d3 := (eS eW) thing_.1) (q_slot 1 rfl) q_c (fun _ => rfl)) qa_nil) (o_lenS eW _)) (q_slot 0 rfl) (o_ne D.int _ _))))))))) nv_ret (fun kb4 => (qs_retF (q_c (d := .bl false)))) (fun kb5 => (qs_retF (q_and (q_opN (qa_cons (ql_frz (ql_map (e := eW) (qi_S (e := eW) (q_op2 (d3 := (eS eW) thing_.1) (q_slot 1 rfl) q_c (fun _ => rfl))) (by decide) rfl (fun _ _ => trivial) (fun y6 m7 => (q_call (qa_cons (q_slot 2 rfl) (qa_cons (q_c (d := eS eW [Wd.out, Wd.reads, Wd.rising, Wd.writes, Wd.raised])) qa_nil)) (fun h => t_is_one_of y6 [Wd.out, Wd.reads, Wd.rising, Wd.writes, Wd.raised] h))))) qa_nil) (o_all _ _)) (fun kb9 => (q_call (qa_cons (q_slot 0 rfl) (qa_cons (q_op2 (d3 := (eS eW) thing_.1) (q_slot 1 rfl) q_c (fun _ => rfl)) (qa_cons (q_op2 (d3 := (eS (eT4 D.int eW D.int (eO D.int))) thing_.2) (q_slot 1 rfl) q_c (fun _ => rfl)) qa_nil))) (fun h => t_are_waits n_ thing_.1 thing_.2 h ((ok kb5) kb9))))))))
noncomputable def c_rule_text (rule_ : (Wd × Int × Int × Int)) : Ctl Empty Empty Tx Empty := (letC rule_ (fun r1 : (Wd × Int × Int × Int) => (letC [(tW r1.1)] (fun r3 : (List Tx) => (letC (if (decide (r1.1 = Wd.passes)) = true then (r3 ++ [(tI r1.2.2.1)]) else r3) (fun s7 : (List Tx) => (letC (if (decide ((0 : Int) < r1.2.1)) = true then (s7 ++ [(tS "most"), (tI r1.2.1)]) else s7) (fun s11 : (List Tx) => (letC (if (decide (r1.2.2.2 = (1 : Int))) = true then (s11 ++ [(tS "ups")]) else s11) (fun s15 : (List Tx) => (.rt (tJoin (tS " ") s15))))))))))))
noncomputable def v_rule_text (rule_ : (Wd × Int × Int × Int)) : Tx := (c_rule_text rule_).get
def d_rule_text (rule_ : (Wd × Int × Int × Int)) : Prop := (letC rule_ (fun r1 : (Wd × Int × Int × Int) => (letC [(tW r1.1)] (fun r3 : (List Tx) => (((decide (r1.1 = Wd.passes)) = true → ((r1.2.2.1).natAbs.log2 < 1920 ∧ (r3).length < 16777216)) ∧ letC (if (decide (r1.1 = Wd.passes)) = true then (r3 ++ [(tI r1.2.2.1)]) else r3) (fun s7 : (List Tx) => (((decide ((0 : Int) < r1.2.1)) = true → ((r1.2.1).natAbs.log2 < 1920 ∧ (s7).length + ([(tS "most"), (tI r1.2.1)]).length ≤ 16777216)) ∧ letC (if (decide ((0 : Int) < r1.2.1)) = true then (s7 ++ [(tS "most"), (tI r1.2.1)]) else s7) (fun s11 : (List Tx) => (((decide (r1.2.2.2 = (1 : Int))) = true → ((s11).length < 16777216)) ∧ letC (if (decide (r1.2.2.2 = (1 : Int))) = true then (s11 ++ [(tS "ups")]) else s11) (fun s15 : (List Tx) => (JoinB (tS " ") s15)))))))))))
theorem t_rule_text (rule_ : (Wd × Int × Int × Int)) (h : Hh) (ok : d_rule_text rule_) : F_rule_text [(eT4 eW D.int D.int D.int) rule_] h = .ok (eX (v_rule_text rule_)) h :=
  fn_frz (c := c_rule_text rule_) (hN := Nat.le_of_ble_eq_true rfl) (qs_unpL (is := [1, 2, 3, 4]) (r := rule_) (e := fun r : (Wd × Int × Int × Int) => (eT4 eW D.int D.int D.int) r) (ps := (fun r : (Wd × Int × Int × Int) => [eW r.1, D.int r.2.1, D.int r.2.2.1, D.int r.2.2.2])) (Ev := (fun r : (Wd × Int × Int × Int) => [some (Sl.v ((eT4 eW D.int D.int D.int) rule_)), none, none, none, none, none])) (ok := (fun r1 : (Wd × Int × Int × Int) => (letC [(tW r1.1)] (fun r3 : (List Tx) => (((decide (r1.1 = Wd.passes)) = true → ((r1.2.2.1).natAbs.log2 < 1920 ∧ (r3).length < 16777216)) ∧ letC (if (decide (r1.1 = Wd.passes)) = true then (r3 ++ [(tI r1.2.2.1)]) else r3) (fun s7 : (List Tx) => (((decide ((0 : Int) < r1.2.1)) = true → ((r1.2.1).natAbs.log2 < 1920 ∧ (s7).length + ([(tS "most"), (tI r1.2.1)]).length ≤ 16777216)) ∧ letC (if (decide ((0 : Int) < r1.2.1)) = true then (s7 ++ [(tS "most"), (tI r1.2.1)]) else s7) (fun s11 : (List Tx) => (((decide (r1.2.2.2 = (1 : Int))) = true → ((s11).length < 16777216)) ∧ letC (if (decide (r1.2.2.2 = (1 : Int))) = true then (s11 ++ [(tS "ups")]) else s11) (fun s15 : (List Tx) => (JoinB (tS " ") s15))))))))))) (q_slot 0 rfl) (fun _ => rfl) rfl (fun _ => rfl) rfl ok (fun r1 kr1 => (qs_new (e := eX) (ok := (fun r3 : (List Tx) => (((decide (r1.1 = Wd.passes)) = true → ((r1.2.2.1).natAbs.log2 < 1920 ∧ (r3).length < 16777216)) ∧ letC (if (decide (r1.1 = Wd.passes)) = true then (r3 ++ [(tI r1.2.2.1)]) else r3) (fun s7 : (List Tx) => (((decide ((0 : Int) < r1.2.1)) = true → ((r1.2.1).natAbs.log2 < 1920 ∧ (s7).length + ([(tS "most"), (tI r1.2.1)]).length ≤ 16777216)) ∧ letC (if (decide ((0 : Int) < r1.2.1)) = true then (s7 ++ [(tS "most"), (tI r1.2.1)]) else s7) (fun s11 : (List Tx) => (((decide (r1.2.2.2 = (1 : Int))) = true → ((s11).length < 16777216)) ∧ letC (if (decide (r1.2.2.2 = (1 : Int))) = true then (s11 ++ [(tS "ups")]) else s11) (fun s15 : (List Tx) => (JoinB (tS " ") s15))))))))) (ql_cons (q_w2t (q_slot 1 rfl)) ql_nil) kr1 (fun r3 kr3 => (qs_seqV (v := (if (decide (r1.1 = Wd.passes)) = true then (r3 ++ [(tI r1.2.2.1)]) else r3)) (E1 := (fun st : (List Tx) => [some (Sl.v ((eT4 eW D.int D.int D.int) rule_)), some (Sl.v (eW r1.1)), some (Sl.v (D.int r1.2.1)), some (Sl.v (D.int r1.2.2.1)), some (Sl.v (D.int r1.2.2.2)), some (Sl.own (oL eX st))])) (ok := (fun s7 : (List Tx) => (((decide ((0 : Int) < r1.2.1)) = true → ((r1.2.1).natAbs.log2 < 1920 ∧ (s7).length + ([(tS "most"), (tI r1.2.1)]).length ≤ 16777216)) ∧ letC (if (decide ((0 : Int) < r1.2.1)) = true then (s7 ++ [(tS "most"), (tI r1.2.1)]) else s7) (fun s11 : (List Tx) => (((decide (r1.2.2.2 = (1 : Int))) = true → ((s11).length < 16777216)) ∧ letC (if (decide (r1.2.2.2 = (1 : Int))) = true then (s11 ++ [(tS "ups")]) else s11) (fun s15 : (List Tx) => (JoinB (tS " ") s15))))))) (qs_ifv (qt_e (q_op2 (q_slot 1 rfl) (q_c (d := eW Wd.passes)) (o_eq eW _ _))) (fun kb5 => (qs_doE (q_methS (i := 5) (qa_cons (q_opN (qa_cons (q_slot 3 rfl) qa_nil) (o_str _ (kr3.1 kb5).1)) qa_nil) ⟨_, (.inl rfl)⟩ (.inl rfl) (fun h p o hp ho => isL_own (e := eX) (.inl rfl) h p o hp ho) (o_appendO _ _ (kr3.1 kb5).2)) (.same (.same (.same (.same (.same (.same .nil)))))))) (fun kb6 => (qs_next (.same (.same (.same (.same (.same (.same .nil))))))))) kr3.2 (fun s7 ks7 => (qs_seqV (v := (if (decide ((0 : Int) < r1.2.1)) = true then (s7 ++ [(tS "most"), (tI r1.2.1)]) else s7)) (E1 := (fun st : (List Tx) => [some (Sl.v ((eT4 eW D.int D.int D.int) rule_)), some (Sl.v (eW r1.1)), some (Sl.v (D.int r1.2.1)), some (Sl.v (D.int r1.2.2.1)), some (Sl.v (D.int r1.2.2.2)), some (Sl.own (oL eX st))])) (ok := (fun s11 : (List Tx) => (((decide (r1.2.2.2 = (1 : Int))) = true → ((s11).length < 16777216)) ∧ letC (if (decide (r1.2.2.2 = (1 : Int))) = true then (s11 ++ [(tS "ups")]) else s11) (fun s15 : (List Tx) => (JoinB (tS " ") s15))))) (qs_ifv (qt_e (q_op2 (q_slot 2 rfl) (q_c (d := .int 0)) (fun _ => rfl))) (fun kb9 => (qs_doE (q_methS (i := 5) (qa_cons (ql_frz (ql_cons (q_c (d := eX (tS "most"))) (ql_cons (q_opN (qa_cons (q_slot 2 rfl) qa_nil) (o_str _ (ks7.1 kb9).1)) ql_nil))) qa_nil) ⟨_, (.inl rfl)⟩ (.inl rfl) (fun h p o hp ho => isL_own (e := eX) (.inl rfl) h p o hp ho) (o_extendO _ _ (ks7.1 kb9).2)) (.same (.same (.same (.same (.same (.same .nil)))))))) (fun kb10 => (qs_next (.same (.same (.same (.same (.same (.same .nil))))))))) ks7.2 (fun s11 ks11 => (qs_seqV (v := (if (decide (r1.2.2.2 = (1 : Int))) = true then (s11 ++ [(tS "ups")]) else s11)) (E1 := (fun st : (List Tx) => [some (Sl.v ((eT4 eW D.int D.int D.int) rule_)), some (Sl.v (eW r1.1)), some (Sl.v (D.int r1.2.1)), some (Sl.v (D.int r1.2.2.1)), some (Sl.v (D.int r1.2.2.2)), some (Sl.own (oL eX st))])) (ok := (fun s15 : (List Tx) => (JoinB (tS " ") s15))) (qs_ifv (qt_e (q_op2 (q_slot 4 rfl) (q_c (d := .int 1)) (o_eq D.int _ _))) (fun kb13 => (qs_doE (q_methS (i := 5) (qa_cons (q_c (d := eX (tS "ups"))) qa_nil) ⟨_, (.inl rfl)⟩ (.inl rfl) (fun h p o hp ho => isL_own (e := eX) (.inl rfl) h p o hp ho) (o_appendO _ _ (ks11.1 kb13))) (.same (.same (.same (.same (.same (.same .nil)))))))) (fun kb14 => (qs_next (.same (.same (.same (.same (.same (.same .nil))))))))) ks11.2 (fun s15 ks15 => (qs_retF (q_joinO (q_c (d := eX (tS " "))) (.inl rfl) ks15))))))))))))
noncomputable def c_wait_text (wait_ : (Int × Wd × Int × (Option Int))) : Ctl Empty Empty Tx Empty := (letC wait_ (fun r1 : (Int × Wd × Int × (Option Int)) => (.rt (List.foldl tApp tZ [(tI r1.1), (tS " "), (tW r1.2.1), (tS " "), (tI r1.2.2.1), (tS " "), (tD r1.2.2.2)]))))
noncomputable def v_wait_text (wait_ : (Int × Wd × Int × (Option Int))) : Tx := (c_wait_text wait_).get
def d_wait_text (wait_ : (Int × Wd × Int × (Option Int))) : Prop := (letC wait_ (fun r1 : (Int × Wd × Int × (Option Int)) => ((r1.1).natAbs.log2 < 1920 ∧ ((tW r1.2.1)).len ≤ 16777216 ∧ (r1.2.2.1).natAbs.log2 < 1920 ∧ ((r1.2.2.2).isSome = true → ((r1.2.2.2).getD default).natAbs.log2 < 1920) ∧ (List.map Tx.len [(tI r1.1), (tS " "), (tW r1.2.1), (tS " "), (tI r1.2.2.1), (tS " "), (tD r1.2.2.2)]).sum ≤ 16777216)))
theorem t_wait_text (wait_ : (Int × Wd × Int × (Option Int))) (h : Hh) (ok : d_wait_text wait_) : F_wait_text [(eT4 D.int eW D.int (eO D.int)) wait_] h = .ok (eX (v_wait_text wait_)) h :=
  fn_frz (c := c_wait_text wait_) (hN := Nat.le_of_ble_eq_true rfl) (qs_unpL (is := [1, 2, 3, 4]) (r := wait_) (e := fun r : (Int × Wd × Int × (Option Int)) => (eT4 D.int eW D.int (eO D.int)) r) (ps := (fun r : (Int × Wd × Int × (Option Int)) => [D.int r.1, eW r.2.1, D.int r.2.2.1, (eO D.int) r.2.2.2])) (Ev := (fun r : (Int × Wd × Int × (Option Int)) => [some (Sl.v ((eT4 D.int eW D.int (eO D.int)) wait_)), none, none, none, none])) (ok := (fun r1 : (Int × Wd × Int × (Option Int)) => ((r1.1).natAbs.log2 < 1920 ∧ ((tW r1.2.1)).len ≤ 16777216 ∧ (r1.2.2.1).natAbs.log2 < 1920 ∧ ((r1.2.2.2).isSome = true → ((r1.2.2.2).getD default).natAbs.log2 < 1920) ∧ (List.map Tx.len [(tI r1.1), (tS " "), (tW r1.2.1), (tS " "), (tI r1.2.2.1), (tS " "), (tD r1.2.2.2)]).sum ≤ 16777216))) (q_slot 0 rfl) (fun _ => rfl) rfl (fun _ => rfl) rfl ok (fun r1 kr1 => (qs_dash rfl q_c (qs_retF (q_joined (qj_cons (q_fmtI (q_slot 1 rfl) kr1.1) (qj_cons (q_c (d := eX (tS " "))) (qj_cons (q_fmtX (q_w2t (q_slot 2 rfl)) kr1.2.1) (qj_cons (q_c (d := eX (tS " "))) (qj_cons (q_fmtI (q_slot 3 rfl) kr1.2.2.1) (qj_cons (q_c (d := eX (tS " "))) (qj_cons (q_fmtD (q_slot 4 rfl) kr1.2.2.2.1) qj_nil))))))) kr1.2.2.2.2)))))
noncomputable def c_room_text (room_ : ((List Wd) × (List (Int × Wd × Int × (Option Int))))) : Ctl Empty Empty Tx Empty := (letC room_ (fun r1 : ((List Wd) × (List (Int × Wd × Int × (Option Int)))) => (.rt (tJoin (tS ", ") ([(tJoin (tS " ") (List.map tW r1.1))] ++ (List.map (fun y6 : (Int × Wd × Int × (Option Int)) => (v_wait_text y6)) r1.2))))))
noncomputable def v_room_text (room_ : ((List Wd) × (List (Int × Wd × Int × (Option Int))))) : Tx := (c_room_text room_).get
def d_room_text (room_ : ((List Wd) × (List (Int × Wd × Int × (Option Int))))) : Prop := (letC room_ (fun r1 : ((List Wd) × (List (Int × Wd × Int × (Option Int)))) => (JoinB (tS " ") (List.map tW r1.1) ∧ (∀ y3 ∈ r1.2, (d_wait_text y3)) ∧ ([(tJoin (tS " ") (List.map tW r1.1))]).length + ((List.map (fun y3 : (Int × Wd × Int × (Option Int)) => (v_wait_text y3)) r1.2)).length ≤ 16777216 ∧ JoinB (tS " ") (List.map tW r1.1) ∧ (∀ y6 ∈ r1.2, (d_wait_text y6)) ∧ ([(tJoin (tS " ") (List.map tW r1.1))]).length + ((List.map (fun y6 : (Int × Wd × Int × (Option Int)) => (v_wait_text y6)) r1.2)).length ≤ 16777216 ∧ JoinB (tS ", ") ([(tJoin (tS " ") (List.map tW r1.1))] ++ (List.map (fun y6 : (Int × Wd × Int × (Option Int)) => (v_wait_text y6)) r1.2)))))
theorem t_room_text (room_ : ((List Wd) × (List (Int × Wd × Int × (Option Int))))) (h : Hh) (ok : d_room_text room_) : F_room_text [(eT2 (eS eW) (eS (eT4 D.int eW D.int (eO D.int)))) room_] h = .ok (eX (v_room_text room_)) h :=
  fn_frz (c := c_room_text room_) (hN := Nat.le_of_ble_eq_true rfl) (qs_unpL (is := [1, 2]) (r := room_) (e := fun r : ((List Wd) × (List (Int × Wd × Int × (Option Int)))) => (eT2 (eS eW) (eS (eT4 D.int eW D.int (eO D.int)))) r) (ps := (fun r : ((List Wd) × (List (Int × Wd × Int × (Option Int)))) => [(eS eW) r.1, (eS (eT4 D.int eW D.int (eO D.int))) r.2])) (Ev := (fun r : ((List Wd) × (List (Int × Wd × Int × (Option Int)))) => [some (Sl.v ((eT2 (eS eW) (eS (eT4 D.int eW D.int (eO D.int)))) room_)), none, none, none])) (ok := (fun r1 : ((List Wd) × (List (Int × Wd × Int × (Option Int)))) => (JoinB (tS " ") (List.map tW r1.1) ∧ (∀ y3 ∈ r1.2, (d_wait_text y3)) ∧ ([(tJoin (tS " ") (List.map tW r1.1))]).length + ((List.map (fun y3 : (Int × Wd × Int × (Option Int)) => (v_wait_text y3)) r1.2)).length ≤ 16777216 ∧ JoinB (tS " ") (List.map tW r1.1) ∧ (∀ y6 ∈ r1.2, (d_wait_text y6)) ∧ ([(tJoin (tS " ") (List.map tW r1.1))]).length + ((List.map (fun y6 : (Int × Wd × Int × (Option Int)) => (v_wait_text y6)) r1.2)).length ≤ 16777216 ∧ JoinB (tS ", ") ([(tJoin (tS " ") (List.map tW r1.1))] ++ (List.map (fun y6 : (Int × Wd × Int × (Option Int)) => (v_wait_text y6)) r1.2))))) (q_slot 0 rfl) (fun _ => rfl) rfl (fun _ => rfl) rfl ok (fun r1 kr1 => (qs_retF (q_join (q_c (d := eX (tS ", "))) (q_op2 (ql_frz (ql_cons (q_join (q_c (d := eX (tS " "))) (q_slot 1 rfl) (sx_SW _) kr1.2.2.2.1) ql_nil)) (ql_frz (ql_map (e := (eT4 D.int eW D.int (eO D.int))) (qi_S (e := (eT4 D.int eW D.int (eO D.int))) (q_slot 2 rfl)) (by decide) rfl (fun _ _ => trivial) (fun y6 m7 => (q_call (qa_cons (q_slot 3 rfl) qa_nil) (fun h => t_wait_text y6 h (kr1.2.2.2.2.1 y6 m7)))))) (o_addL eX _ _ kr1.2.2.2.2.2.1)) (sx_L _) kr1.2.2.2.2.2.2))))
def v_number_in (w : Tx) (m : Int) : Option Int := numT w m
def d_number_in (w : Tx) (m : Int) : Prop := NumB w m
theorem frz_oI (n : Nat) (h : Hh) (o : Option Int) : frzD n h (eO D.int o) = some (eO D.int o) := by cases o <;> rfl
theorem num_len (w : Tx) (h : Hh) (k : w.len ≤ 640) : lenO [.str w.1] h = some (.int (w.len : Int)) := if_pos (by rw [sizeLine_eq]; exact Nat.le_trans k (by decide))
theorem num_src (w : Tx) (h : Hh) (k : w.len ≤ 640) : srcOf (.str w.1) h = some ⟨w.1.cps.toList.map fun c => D.str ⟨#[c]⟩, none⟩ := by
  show (if w.1.cps.size ≤ sizeLine then _ else _) = _
  rw [if_pos (by rw [sizeLine_eq]; exact Nat.le_trans k (by decide))]
theorem num_cmp (x y : D) (l : List Nat) (h : Hh) : compL none (.name 2) (fun _ h => .ok true h) (eOp2 inSgO (eSlot 2) (eC c_FIGURES)) [some x, some y, none] (l.map fun c => D.str ⟨#[c]⟩) h = .ok (sgL l) h := by
  induction l with
  | nil => exact ev_comp_nil _ _ _ _ _
  | cons c l ih =>
    rw [List.map_cons, ev_comp_cons]
    show (compL none (.name 2) (fun _ h => .ok true h) (eOp2 inSgO (eSlot 2) (eC c_FIGURES)) [some x, some y, none] (l.map fun c => D.str ⟨#[c]⟩) h).bind (fun ys h3 => .ok (_ :: ys) h3) = _
    rw [ih]; rfl
theorem t_number_in (word_ : Tx) (most_ : Int) (h : Hh) (ok : d_number_in word_ most_) : F_number_in [eX word_, D.int most_] h = .ok ((eO D.int) (v_number_in word_ most_)) h := by
  refine frzF_of (g := []) (d := eO D.int (numT word_ most_)) ?_ (frz_oI _ _ _)
  rw [List.append_nil]
  show runF 2 N_number_in b_number_in [.str word_.1, .int most_] h = _
  rw [ev_run2]
  unfold b_number_in numT
  have k2 := ok.2
  by_cases c1 : (1 : Int) ≤ word_.len
  · by_cases c2 : (word_.len : Int) ≤ most_
    · cases c3 : sgOk word_ with
      | true =>
        have k3 := k2 (by rw [decide_eq_true c1, decide_eq_true c2, c3]; rfl)
        obtain ⟨n, en⟩ := Option.isSome_iff_exists.mp k3
        simp [num_len _ _ ok.1, num_src _ _ ok.1, num_cmp, signs_all, all_signs, c1, c2, c3, en, eIntT, show word_.1.length ≤ 640 from ok.1]; rfl
      | false => simp [num_len _ _ ok.1, num_src _ _ ok.1, num_cmp, signs_all, all_signs, c1, c2, c3]; rfl
    · simp [num_len _ _ ok.1, c1, c2]; rfl
  · simp [num_len _ _ ok.1, c1]; rfl

-- HAND _law_cell_at
-- HAND _law_far
-- HAND _law_left
-- HAND _law_pick
noncomputable def c__law_any_rule (left_here_ : (List Int)) : Ctl Empty Empty ((Wd × Int × Int × Int) × List Int) Empty := (letC ((atZ [Wd.rows, Wd.readers, Wd.writers, Wd.turns, Wd.passes, Wd.passes] (v__law_pick left_here_ (6 : Int)).1), (v__law_pick left_here_ (6 : Int)).2) (fun r1 : Wd × (List Int) => (letC (((v__law_pick r1.2 (6 : Int)).1, (v__law_pick (v__law_pick r1.2 (6 : Int)).2 (10 : Int)).1), (v__law_pick (v__law_pick r1.2 (6 : Int)).2 (10 : Int)).2) (fun r3 : ((Int × Int) × (List Int)) => (.rt ((r1.1, r3.1.1, (r3.1.2 * (if (decide (r1.1 = Wd.passes)) = true then (1 : Int) else 0)), (v__law_pick r3.2 (2 : Int)).1), (v__law_pick r3.2 (2 : Int)).2))))))
noncomputable def v__law_any_rule (left_here_ : (List Int)) : ((Wd × Int × Int × Int) × List Int) := (c__law_any_rule left_here_).get
def d__law_any_rule (left_here_ : (List Int)) : Prop := (d__law_pick left_here_ (6 : Int) ∧ inR [Wd.rows, Wd.readers, Wd.writers, Wd.turns, Wd.passes, Wd.passes] (v__law_pick left_here_ (6 : Int)).1 ∧ letC ((atZ [Wd.rows, Wd.readers, Wd.writers, Wd.turns, Wd.passes, Wd.passes] (v__law_pick left_here_ (6 : Int)).1), (v__law_pick left_here_ (6 : Int)).2) (fun r1 : Wd × (List Int) => (d__law_pick r1.2 (6 : Int) ∧ d__law_pick (v__law_pick r1.2 (6 : Int)).2 (10 : Int) ∧ letC (((v__law_pick r1.2 (6 : Int)).1, (v__law_pick (v__law_pick r1.2 (6 : Int)).2 (10 : Int)).1), (v__law_pick (v__law_pick r1.2 (6 : Int)).2 (10 : Int)).2) (fun r3 : ((Int × Int) × (List Int)) => ((((-18446744073709551616 < r3.1.2 ∧ r3.1.2 < 18446744073709551616) ∨ (-18446744073709551616 < (if (decide (r1.1 = Wd.passes)) = true then (1 : Int) else 0) ∧ (if (decide (r1.1 = Wd.passes)) = true then (1 : Int) else 0) < 18446744073709551616)) ∨ (r3.1.2).natAbs.log2 + ((if (decide (r1.1 = Wd.passes)) = true then (1 : Int) else 0)).natAbs.log2 < 1000000) ∧ d__law_pick r3.2 (2 : Int))))))
theorem t__law_any_rule (left_here_ : (List Int)) (h : Hh) (p : Nat) (hp : h[p]? = some (oL D.int left_here_)) (ok : d__law_any_rule left_here_) : F__law_any_rule (.ref p :: []) h = .ok ((eT4 eW D.int D.int D.int) (v__law_any_rule left_here_).1) (h.set p (oL D.int (v__law_any_rule left_here_).2)) :=
  fn_bor (c := c__law_any_rule left_here_) (hN := Nat.le_of_ble_eq_true rfl) hp (qs_letX (r := ((atZ [Wd.rows, Wd.readers, Wd.writers, Wd.turns, Wd.passes, Wd.passes] (v__law_pick left_here_ (6 : Int)).1), (v__law_pick left_here_ (6 : Int)).2)) (ed := fun r : Wd × (List Int) => eW r.1) (Ev := (fun r : Wd × (List Int) => [some (Sl.bor p (oL D.int r.2)), none, none, none])) (ok := (fun r1 : Wd × (List Int) => (d__law_pick r1.2 (6 : Int) ∧ d__law_pick (v__law_pick r1.2 (6 : Int)).2 (10 : Int) ∧ letC (((v__law_pick r1.2 (6 : Int)).1, (v__law_pick (v__law_pick r1.2 (6 : Int)).2 (10 : Int)).1), (v__law_pick (v__law_pick r1.2 (6 : Int)).2 (10 : Int)).2) (fun r3 : ((Int × Int) × (List Int)) => ((((-18446744073709551616 < r3.1.2 ∧ r3.1.2 < 18446744073709551616) ∨ (-18446744073709551616 < (if (decide (r1.1 = Wd.passes)) = true then (1 : Int) else 0) ∧ (if (decide (r1.1 = Wd.passes)) = true then (1 : Int) else 0) < 18446744073709551616)) ∨ (r3.1.2).natAbs.log2 + ((if (decide (r1.1 = Wd.passes)) = true then (1 : Int) else 0)).natAbs.log2 < 1000000) ∧ d__law_pick r3.2 (2 : Int)))))) (q_op2 (ql_frz (ql_cons (q_c (d := eW Wd.rows)) (ql_cons (q_c (d := eW Wd.readers)) (ql_cons (q_c (d := eW Wd.writers)) (ql_cons (q_c (d := eW Wd.turns)) (ql_cons (q_c (d := eW Wd.passes)) (ql_cons (q_c (d := eW Wd.passes)) ql_nil))))))) (q_callB2 (.inr ⟨_, rfl⟩) (qa_cons (q_c (d := .int 6)) qa_nil) (.inr ⟨_, rfl⟩) (fun h p hp => t__law_pick left_here_ (6 : Int) h p hp ok.1)) (o_ixL eW _ _ ok.2.1)) ok.2.2 (fun r1 kr1 => (qs_parX (r := (((v__law_pick r1.2 (6 : Int)).1, (v__law_pick (v__law_pick r1.2 (6 : Int)).2 (10 : Int)).1), (v__law_pick (v__law_pick r1.2 (6 : Int)).2 (10 : Int)).2)) (da := fun r : ((Int × Int) × (List Int)) => D.int r.1.1) (db := fun r : ((Int × Int) × (List Int)) => D.int r.1.2) (Ev := (fun r : ((Int × Int) × (List Int)) => [some (Sl.bor p (oL D.int r.2)), some (Sl.v (eW r1.1)), none, none])) (ok := (fun r3 : ((Int × Int) × (List Int)) => ((((-18446744073709551616 < r3.1.2 ∧ r3.1.2 < 18446744073709551616) ∨ (-18446744073709551616 < (if (decide (r1.1 = Wd.passes)) = true then (1 : Int) else 0) ∧ (if (decide (r1.1 = Wd.passes)) = true then (1 : Int) else 0) < 18446744073709551616)) ∨ (r3.1.2).natAbs.log2 + ((if (decide (r1.1 = Wd.passes)) = true then (1 : Int) else 0)).natAbs.log2 < 1000000) ∧ d__law_pick r3.2 (2 : Int)))) (qa_cons (q_callB2 (.inr ⟨_, rfl⟩) (qa_cons (q_c (d := .int 6)) qa_nil) (.inr ⟨_, rfl⟩) (fun h p hp => t__law_pick r1.2 (6 : Int) h p hp kr1.1)) (qa_cons (q_callB2 (.inr ⟨_, rfl⟩) (qa_cons (q_c (d := .int 10)) qa_nil) (.inr ⟨_, rfl⟩) (fun h p hp => t__law_pick (v__law_pick r1.2 (6 : Int)).2 (10 : Int) h p hp kr1.2.1)) qa_nil)) kr1.2.2 (fun r3 kr3 => (qs_retB (i := 0) (q_t4 (q_slot 1 rfl) (q_slot 2 rfl) (q_op2 (q_slot 3 rfl) (q_opN (qa_cons (q_op2 (q_slot 1 rfl) (q_c (d := eW Wd.passes)) (o_eq eW _ _)) qa_nil) (o_intB _)) (o_mulI _ _ kr3.1)) (q_callB2 (.inr ⟨_, rfl⟩) (qa_cons (q_c (d := .int 2)) qa_nil) (.inr ⟨_, rfl⟩) (fun h p hp => t__law_pick r3.2 (2 : Int) h p hp kr3.2))) rfl)))))
noncomputable def B__law_any_room_0 (x4 : Int) (st3 : (List Wd) × (List Int)) : (List Wd) × (List Int) := ((st3.1 ++ [(atZ [Wd.out, Wd.out, Wd.out, Wd.reads, Wd.rising, Wd.writes, Wd.raised] (v__law_pick st3.2 (7 : Int)).1)]), (v__law_pick st3.2 (7 : Int)).2)
def K__law_any_room_1 (x4 : Int) (st3 : (List Wd) × (List Int)) : Prop := (d__law_pick st3.2 (7 : Int) ∧ inR [Wd.out, Wd.out, Wd.out, Wd.reads, Wd.rising, Wd.writes, Wd.raised] (v__law_pick st3.2 (7 : Int)).1 ∧ (st3.1).length < 16777216)
noncomputable def B__law_any_room_2 (x16 : Int) (st15 : (List Int) × (List (Int × Wd × Int × (Option Int)))) : (List Int) × (List (Int × Wd × Int × (Option Int))) := (letC ((atZ [(0 : Int), (0 : Int), (1 : Int), (9 : Int), (10 : Int), (99 : Int), (100 : Int), (999 : Int)] (v__law_pick st15.1 (8 : Int)).1), (v__law_pick st15.1 (8 : Int)).2) (fun r19 : Int × (List Int) => (letC ((atZ [(none : (Option Int)), (none : (Option Int)), (some (1 : Int)), (some (9 : Int)), (some ((1 : Int) + (v__law_pick r19.2 (9 : Int)).1))] (v__law_pick (v__law_pick r19.2 (9 : Int)).2 (5 : Int)).1), (v__law_pick (v__law_pick r19.2 (9 : Int)).2 (5 : Int)).2) (fun r21 : (Option Int) × (List Int) => (if (decide ((0 : Int) < (v__law_pick r21.2 (4 : Int)).1)) = true then (letC ((x16, (atZ [Wd.read, Wd.write] (v__law_pick (v__law_pick r21.2 (4 : Int)).2 (2 : Int)).1), r19.1, r21.1), (v__law_pick (v__law_pick r21.2 (4 : Int)).2 (2 : Int)).2) (fun r24 : (Int × Wd × Int × (Option Int)) × (List Int) => ((v__law_pick r24.2 ((st15.2.length : Int) + (1 : Int))).2, (insT st15.2 (v__law_pick r24.2 ((st15.2.length : Int) + (1 : Int))).1 r24.1)))) else ((v__law_pick r21.2 (4 : Int)).2, st15.2))))))
def K__law_any_room_3 (x16 : Int) (st15 : (List Int) × (List (Int × Wd × Int × (Option Int)))) : Prop := (d__law_pick st15.1 (8 : Int) ∧ inR [(0 : Int), (0 : Int), (1 : Int), (9 : Int), (10 : Int), (99 : Int), (100 : Int), (999 : Int)] (v__law_pick st15.1 (8 : Int)).1 ∧ letC ((atZ [(0 : Int), (0 : Int), (1 : Int), (9 : Int), (10 : Int), (99 : Int), (100 : Int), (999 : Int)] (v__law_pick st15.1 (8 : Int)).1), (v__law_pick st15.1 (8 : Int)).2) (fun r19 : Int × (List Int) => (d__law_pick r19.2 (9 : Int) ∧ d__law_pick (v__law_pick r19.2 (9 : Int)).2 (5 : Int) ∧ inR [(none : (Option Int)), (none : (Option Int)), (some (1 : Int)), (some (9 : Int)), (some ((1 : Int) + (v__law_pick r19.2 (9 : Int)).1))] (v__law_pick (v__law_pick r19.2 (9 : Int)).2 (5 : Int)).1 ∧ letC ((atZ [(none : (Option Int)), (none : (Option Int)), (some (1 : Int)), (some (9 : Int)), (some ((1 : Int) + (v__law_pick r19.2 (9 : Int)).1))] (v__law_pick (v__law_pick r19.2 (9 : Int)).2 (5 : Int)).1), (v__law_pick (v__law_pick r19.2 (9 : Int)).2 (5 : Int)).2) (fun r21 : (Option Int) × (List Int) => (d__law_pick r21.2 (4 : Int) ∧ ((decide ((0 : Int) < (v__law_pick r21.2 (4 : Int)).1)) = true → (d__law_pick (v__law_pick r21.2 (4 : Int)).2 (2 : Int) ∧ inR [Wd.read, Wd.write] (v__law_pick (v__law_pick r21.2 (4 : Int)).2 (2 : Int)).1 ∧ letC ((x16, (atZ [Wd.read, Wd.write] (v__law_pick (v__law_pick r21.2 (4 : Int)).2 (2 : Int)).1), r19.1, r21.1), (v__law_pick (v__law_pick r21.2 (4 : Int)).2 (2 : Int)).2) (fun r24 : (Int × Wd × Int × (Option Int)) × (List Int) => (d__law_pick r24.2 ((st15.2.length : Int) + (1 : Int)) ∧ ((st15.2).length < 16777216 ∧ 0 ≤ (v__law_pick r24.2 ((st15.2.length : Int) + (1 : Int))).1 ∧ (v__law_pick r24.2 ((st15.2.length : Int) + (1 : Int))).1 < 1000000000))))))))))
noncomputable def c__law_any_room (left_here_ : (List Int)) (n_ : Int) : Ctl Empty Empty (((List Wd) × (List (Int × Wd × Int × (Option Int)))) × List Int) Empty := (letC ([] : List Wd) (fun r1 : (List Wd) => (letC (foldV B__law_any_room_0 (rngT 0 n_) (r1, left_here_)) (fun s7 : (List Wd) × (List Int) => (letC ([] : List (Int × Wd × Int × (Option Int))) (fun r9 : (List (Int × Wd × Int × (Option Int))) => (letC (foldV B__law_any_room_2 ((List.filter (fun y11 : Int => (decide ((atZ s7.1 y11) = Wd.out))) (rngT 0 n_)).map (fun y11 : Int => y11)) (s7.2, r9)) (fun s27 : (List Int) × (List (Int × Wd × Int × (Option Int))) => (.rt ((s7.1, s27.2), s27.1))))))))))
noncomputable def v__law_any_room (left_here_ : (List Int)) (n_ : Int) : (((List Wd) × (List (Int × Wd × Int × (Option Int)))) × List Int) := (c__law_any_room left_here_ n_).get
def d__law_any_room (left_here_ : (List Int)) (n_ : Int) : Prop := (letC ([] : List Wd) (fun r1 : (List Wd) => ((-1000000 ≤ n_ ∧ n_ ≤ 1000000) ∧ okFold B__law_any_room_0 K__law_any_room_1 (rngT 0 n_) (r1, left_here_) ∧ letC (foldV B__law_any_room_0 (rngT 0 n_) (r1, left_here_)) (fun s7 : (List Wd) × (List Int) => (letC ([] : List (Int × Wd × Int × (Option Int))) (fun r9 : (List (Int × Wd × Int × (Option Int))) => ((-1000000 ≤ n_ ∧ n_ ≤ 1000000) ∧ (∀ y11 ∈ (rngT 0 n_), (inR s7.1 y11)) ∧ okFold B__law_any_room_2 K__law_any_room_3 ((List.filter (fun y11 : Int => (decide ((atZ s7.1 y11) = Wd.out))) (rngT 0 n_)).map (fun y11 : Int => y11)) (s7.2, r9))))))))
theorem t__law_any_room (left_here_ : (List Int)) (n_ : Int) (h : Hh) (p : Nat) (hp : h[p]? = some (oL D.int left_here_)) (ok : d__law_any_room left_here_ n_) : F__law_any_room (.ref p :: [D.int n_]) h = .ok ((eT2 (eS eW) (eS (eT4 D.int eW D.int (eO D.int)))) (v__law_any_room left_here_ n_).1) (h.set p (oL D.int (v__law_any_room left_here_ n_).2)) :=
  fn_bor (c := c__law_any_room left_here_ n_) (hN := Nat.le_of_ble_eq_true rfl) hp (qs_new (e := eW) (ok := (fun r1 : (List Wd) => ((-1000000 ≤ n_ ∧ n_ ≤ 1000000) ∧ okFold B__law_any_room_0 K__law_any_room_1 (rngT 0 n_) (r1, left_here_) ∧ letC (foldV B__law_any_room_0 (rngT 0 n_) (r1, left_here_)) (fun s7 : (List Wd) × (List Int) => (letC ([] : List (Int × Wd × Int × (Option Int))) (fun r9 : (List (Int × Wd × Int × (Option Int))) => ((-1000000 ≤ n_ ∧ n_ ≤ 1000000) ∧ (∀ y11 ∈ (rngT 0 n_), (inR s7.1 y11)) ∧ okFold B__law_any_room_2 K__law_any_room_3 ((List.filter (fun y11 : Int => (decide ((atZ s7.1 y11) = Wd.out))) (rngT 0 n_)).map (fun y11 : Int => y11)) (s7.2, r9)))))))) ql_nil ok (fun r1 kr1 => (qs_seqV (v := (foldV B__law_any_room_0 (rngT 0 n_) (r1, left_here_))) (E1 := (fun st : (List Wd) × (List Int) => [some (Sl.bor p (oL D.int st.2)), some (Sl.v (D.int n_)), some (Sl.own (oL eW st.1)), none, none, none, none, none])) (ok := (fun s7 : (List Wd) × (List Int) => (letC ([] : List (Int × Wd × Int × (Option Int))) (fun r9 : (List (Int × Wd × Int × (Option Int))) => ((-1000000 ≤ n_ ∧ n_ ≤ 1000000) ∧ (∀ y11 ∈ (rngT 0 n_), (inR s7.1 y11)) ∧ okFold B__law_any_room_2 K__law_any_room_3 ((List.filter (fun y11 : Int => (decide ((atZ s7.1 y11) = Wd.out))) (rngT 0 n_)).map (fun y11 : Int => y11)) (s7.2, r9)))))) (qs_forv (e := D.int) (f := B__law_any_room_0) (ok := K__law_any_room_1) (E := (fun st : (List Wd) × (List Int) => [some (Sl.bor p (oL D.int st.2)), some (Sl.v (D.int n_)), some (Sl.own (oL eW st.1)), none, none, none, none, none])) (s0 := (r1, left_here_)) (qi_rng1 (q_slot 1 rfl) kr1.1) (.same (.same (.same (.drop (.drop (.drop (.drop (.drop .nil)))))))) (fun _ _ => trivial) (fun x4 m5 st3 kst3 => (qs_doE (q_methS (i := 2) (qa_cons (q_op2 (ql_frz (ql_cons (q_c (d := eW Wd.out)) (ql_cons (q_c (d := eW Wd.out)) (ql_cons (q_c (d := eW Wd.out)) (ql_cons (q_c (d := eW Wd.reads)) (ql_cons (q_c (d := eW Wd.rising)) (ql_cons (q_c (d := eW Wd.writes)) (ql_cons (q_c (d := eW Wd.raised)) ql_nil)))))))) (q_callB2 (.inr ⟨_, rfl⟩) (qa_cons (q_c (d := .int 7)) qa_nil) (.inr ⟨_, rfl⟩) (fun h p hp => t__law_pick st3.2 (7 : Int) h p hp kst3.1)) (o_ixL eW _ _ kst3.2.1)) qa_nil) ⟨_, (.inl rfl)⟩ (.inl rfl) (fun h p o hp ho => isL_own (e := eW) (.inl rfl) h p o hp ho) (o_appendO _ _ kst3.2.2)) (.same (.same (.same (.drop (.drop (.drop (.drop (.drop .nil)))))))))) kr1.2.1) kr1.2.2 (fun s7 ks7 => (qs_new (e := (eT4 D.int eW D.int (eO D.int))) (ok := (fun r9 : (List (Int × Wd × Int × (Option Int))) => ((-1000000 ≤ n_ ∧ n_ ≤ 1000000) ∧ (∀ y11 ∈ (rngT 0 n_), (inR s7.1 y11)) ∧ okFold B__law_any_room_2 K__law_any_room_3 ((List.filter (fun y11 : Int => (decide ((atZ s7.1 y11) = Wd.out))) (rngT 0 n_)).map (fun y11 : Int => y11)) (s7.2, r9)))) ql_nil ks7 (fun r9 kr9 => (qs_seqV (v := (foldV B__law_any_room_2 ((List.filter (fun y11 : Int => (decide ((atZ s7.1 y11) = Wd.out))) (rngT 0 n_)).map (fun y11 : Int => y11)) (s7.2, r9))) (E1 := (fun st : (List Int) × (List (Int × Wd × Int × (Option Int))) => [some (Sl.bor p (oL D.int st.1)), some (Sl.v (D.int n_)), some (Sl.own (oL eW s7.1)), none, some (Sl.own (oL (eT4 D.int eW D.int (eO D.int)) st.2)), none, none, none])) (ok := (fun s27 : (List Int) × (List (Int × Wd × Int × (Option Int))) => True)) (qs_forv (e := D.int) (f := B__law_any_room_2) (ok := K__law_any_room_3) (E := (fun st : (List Int) × (List (Int × Wd × Int × (Option Int))) => [some (Sl.bor p (oL D.int st.1)), some (Sl.v (D.int n_)), some (Sl.own (oL eW s7.1)), none, some (Sl.own (oL (eT4 D.int eW D.int (eO D.int)) st.2)), none, none, none])) (s0 := (s7.2, r9)) (qi_L (e := D.int) (ql_frz (ql_comp (e := D.int) (qi_rng1 (q_slot 1 rfl) kr9.1) (by decide) rfl (fun _ _ => trivial) (fun y11 m12 => (qt_e (q_op2 (q_op2L (.inl rfl) (q_slot 3 rfl) (.inl (.inl rfl)) (o_ixO eW _ _ (kr9.2.1 y11 m12))) (q_c (d := eW Wd.out)) (o_eq eW _ _)))) (fun y11 m12 kbc => (q_slot 3 rfl))))) (.same (.same (.same (.drop (.same (.drop (.drop (.drop .nil)))))))) (fun _ _ => trivial) (fun x16 m17 st15 kst15 => (qs_letXV (r := ((atZ [(0 : Int), (0 : Int), (1 : Int), (9 : Int), (10 : Int), (99 : Int), (100 : Int), (999 : Int)] (v__law_pick st15.1 (8 : Int)).1), (v__law_pick st15.1 (8 : Int)).2)) (ed := fun r : Int × (List Int) => D.int r.1) (Ev := (fun r : Int × (List Int) => [some (Sl.bor p (oL D.int r.2)), some (Sl.v (D.int n_)), some (Sl.own (oL eW s7.1)), some (Sl.v (D.int x16)), some (Sl.own (oL (eT4 D.int eW D.int (eO D.int)) st15.2)), none, none, none])) (ok := (fun r19 : Int × (List Int) => (d__law_pick r19.2 (9 : Int) ∧ d__law_pick (v__law_pick r19.2 (9 : Int)).2 (5 : Int) ∧ inR [(none : (Option Int)), (none : (Option Int)), (some (1 : Int)), (some (9 : Int)), (some ((1 : Int) + (v__law_pick r19.2 (9 : Int)).1))] (v__law_pick (v__law_pick r19.2 (9 : Int)).2 (5 : Int)).1 ∧ letC ((atZ [(none : (Option Int)), (none : (Option Int)), (some (1 : Int)), (some (9 : Int)), (some ((1 : Int) + (v__law_pick r19.2 (9 : Int)).1))] (v__law_pick (v__law_pick r19.2 (9 : Int)).2 (5 : Int)).1), (v__law_pick (v__law_pick r19.2 (9 : Int)).2 (5 : Int)).2) (fun r21 : (Option Int) × (List Int) => (d__law_pick r21.2 (4 : Int) ∧ ((decide ((0 : Int) < (v__law_pick r21.2 (4 : Int)).1)) = true → (d__law_pick (v__law_pick r21.2 (4 : Int)).2 (2 : Int) ∧ inR [Wd.read, Wd.write] (v__law_pick (v__law_pick r21.2 (4 : Int)).2 (2 : Int)).1 ∧ letC ((x16, (atZ [Wd.read, Wd.write] (v__law_pick (v__law_pick r21.2 (4 : Int)).2 (2 : Int)).1), r19.1, r21.1), (v__law_pick (v__law_pick r21.2 (4 : Int)).2 (2 : Int)).2) (fun r24 : (Int × Wd × Int × (Option Int)) × (List Int) => (d__law_pick r24.2 ((st15.2.length : Int) + (1 : Int)) ∧ ((st15.2).length < 16777216 ∧ 0 ≤ (v__law_pick r24.2 ((st15.2.length : Int) + (1 : Int))).1 ∧ (v__law_pick r24.2 ((st15.2.length : Int) + (1 : Int))).1 < 1000000000)))))))))) (q_op2 (ql_frz (ql_cons (q_c (d := .int 0)) (ql_cons (q_c (d := .int 0)) (ql_cons (q_c (d := .int 1)) (ql_cons (q_c (d := .int 9)) (ql_cons (q_c (d := .int 10)) (ql_cons (q_c (d := .int 99)) (ql_cons (q_c (d := .int 100)) (ql_cons (q_c (d := .int 999)) ql_nil))))))))) (q_callB2 (.inr ⟨_, rfl⟩) (qa_cons (q_c (d := .int 8)) qa_nil) (.inr ⟨_, rfl⟩) (fun h p hp => t__law_pick st15.1 (8 : Int) h p hp kst15.1)) (o_ixL D.int _ _ kst15.2.1)) kst15.2.2 (fun r19 kr19 => (qs_letXV (r := ((atZ [(none : (Option Int)), (none : (Option Int)), (some (1 : Int)), (some (9 : Int)), (some ((1 : Int) + (v__law_pick r19.2 (9 : Int)).1))] (v__law_pick (v__law_pick r19.2 (9 : Int)).2 (5 : Int)).1), (v__law_pick (v__law_pick r19.2 (9 : Int)).2 (5 : Int)).2)) (ed := fun r : (Option Int) × (List Int) => (eO D.int) r.1) (Ev := (fun r : (Option Int) × (List Int) => [some (Sl.bor p (oL D.int r.2)), some (Sl.v (D.int n_)), some (Sl.own (oL eW s7.1)), some (Sl.v (D.int x16)), some (Sl.own (oL (eT4 D.int eW D.int (eO D.int)) st15.2)), some (Sl.v (D.int r19.1)), none, none])) (ok := (fun r21 : (Option Int) × (List Int) => (d__law_pick r21.2 (4 : Int) ∧ ((decide ((0 : Int) < (v__law_pick r21.2 (4 : Int)).1)) = true → (d__law_pick (v__law_pick r21.2 (4 : Int)).2 (2 : Int) ∧ inR [Wd.read, Wd.write] (v__law_pick (v__law_pick r21.2 (4 : Int)).2 (2 : Int)).1 ∧ letC ((x16, (atZ [Wd.read, Wd.write] (v__law_pick (v__law_pick r21.2 (4 : Int)).2 (2 : Int)).1), r19.1, r21.1), (v__law_pick (v__law_pick r21.2 (4 : Int)).2 (2 : Int)).2) (fun r24 : (Int × Wd × Int × (Option Int)) × (List Int) => (d__law_pick r24.2 ((st15.2.length : Int) + (1 : Int)) ∧ ((st15.2).length < 16777216 ∧ 0 ≤ (v__law_pick r24.2 ((st15.2.length : Int) + (1 : Int))).1 ∧ (v__law_pick r24.2 ((st15.2.length : Int) + (1 : Int))).1 < 1000000000)))))))) (q_op2 (ql_frz (ql_cons (q_none (e := D.int)) (ql_cons (q_none (e := D.int)) (ql_cons (q_some (q_c (d := .int 1))) (ql_cons (q_some (q_c (d := .int 9))) (ql_cons (q_some (q_op2 (q_c (d := .int 1)) (q_callB2 (.inr ⟨_, rfl⟩) (qa_cons (q_c (d := .int 9)) qa_nil) (.inr ⟨_, rfl⟩) (fun h p hp => t__law_pick r19.2 (9 : Int) h p hp kr19.1)) (fun _ => rfl))) ql_nil)))))) (q_callB2 (.inr ⟨_, rfl⟩) (qa_cons (q_c (d := .int 5)) qa_nil) (.inr ⟨_, rfl⟩) (fun h p hp => t__law_pick (v__law_pick r19.2 (9 : Int)).2 (5 : Int) h p hp kr19.2.1)) (o_ixL (eO D.int) _ _ kr19.2.2.1)) kr19.2.2.2 (fun r21 kr21 => (qs_ifv (qt_e (q_op2 (q_callB2 (.inr ⟨_, rfl⟩) (qa_cons (q_c (d := .int 4)) qa_nil) (.inr ⟨_, rfl⟩) (fun h p hp => t__law_pick r21.2 (4 : Int) h p hp kr21.1)) (q_c (d := .int 0)) (fun _ => rfl))) (fun kb23 => (qs_letXV (r := ((x16, (atZ [Wd.read, Wd.write] (v__law_pick (v__law_pick r21.2 (4 : Int)).2 (2 : Int)).1), r19.1, r21.1), (v__law_pick (v__law_pick r21.2 (4 : Int)).2 (2 : Int)).2)) (ed := fun r : (Int × Wd × Int × (Option Int)) × (List Int) => (eT4 D.int eW D.int (eO D.int)) r.1) (Ev := (fun r : (Int × Wd × Int × (Option Int)) × (List Int) => [some (Sl.bor p (oL D.int r.2)), some (Sl.v (D.int n_)), some (Sl.own (oL eW s7.1)), some (Sl.v (D.int x16)), some (Sl.own (oL (eT4 D.int eW D.int (eO D.int)) st15.2)), some (Sl.v (D.int r19.1)), some (Sl.v ((eO D.int) r21.1)), none])) (ok := (fun r24 : (Int × Wd × Int × (Option Int)) × (List Int) => (d__law_pick r24.2 ((st15.2.length : Int) + (1 : Int)) ∧ ((st15.2).length < 16777216 ∧ 0 ≤ (v__law_pick r24.2 ((st15.2.length : Int) + (1 : Int))).1 ∧ (v__law_pick r24.2 ((st15.2.length : Int) + (1 : Int))).1 < 1000000000)))) (q_t4 (q_slot 3 rfl) (q_op2 (ql_frz (ql_cons (q_c (d := eW Wd.read)) (ql_cons (q_c (d := eW Wd.write)) ql_nil))) (q_callB2 (.inr ⟨_, rfl⟩) (qa_cons (q_c (d := .int 2)) qa_nil) (.inr ⟨_, rfl⟩) (fun h p hp => t__law_pick (v__law_pick r21.2 (4 : Int)).2 (2 : Int) h p hp (kr21.2 kb23).1)) (o_ixL eW _ _ (kr21.2 kb23).2.1)) (q_slot 5 rfl) (q_slot 6 rfl)) (kr21.2 kb23).2.2 (fun r24 kr24 => (qs_doE (q_methS (i := 4) (qa_cons (q_callB2 (.inr ⟨_, rfl⟩) (qa_cons (q_op2 (q_opN1 (.inl rfl) (o_lenO (eT4 D.int eW D.int (eO D.int)) _)) (q_c (d := .int 1)) (fun _ => rfl)) qa_nil) (.inr ⟨_, rfl⟩) (fun h p hp => t__law_pick r24.2 ((st15.2.length : Int) + (1 : Int)) h p hp kr24.1)) (qa_cons (q_slot 7 rfl) qa_nil)) ⟨_, (.inl rfl)⟩ (.inl rfl) (fun h p o hp ho => isL_own (e := (eT4 D.int eW D.int (eO D.int))) (.inl rfl) h p o hp ho) (o_insertO _ _ _ kr24.2)) (.same (.same (.same (.drop (.same (.drop (.drop (.drop .nil)))))))))))) (fun kb26 => (qs_next (.same (.same (.same (.drop (.same (.drop (.drop (.drop .nil)))))))))))))))) kr9.2.2) trivial (fun s27 ks27 => (qs_retB (i := 0) (q_t2 (q_opN1 (.inl rfl) (o_tupO eW _)) (q_opN1 (.inl rfl) (o_tupO (eT4 D.int eW D.int (eO D.int)) _))) rfl)))))))))
noncomputable def c__law_rule_text (rule_ : (Wd × Int × Int × Int)) : Ctl Empty Empty Tx Empty := (letC rule_ (fun r1 : (Wd × Int × Int × Int) => (letC (tApp (tApp (tW r1.1) (tRep (tS " ") (if (decide (r1.1 = Wd.passes)) = true then (1 : Int) else 0))) (tRep (tI r1.2.2.1) (if (decide (r1.1 = Wd.passes)) = true then (1 : Int) else 0))) (fun r3 : Tx => (.rt (tApp (tApp r3 (tRep (tApp (tS " most ") (tI r1.2.1)) (if (decide ((0 : Int) < r1.2.1)) = true then (1 : Int) else 0))) (tRep (tS " ups") r1.2.2.2)))))))
noncomputable def v__law_rule_text (rule_ : (Wd × Int × Int × Int)) : Tx := (c__law_rule_text rule_).get
def d__law_rule_text (rule_ : (Wd × Int × Int × Int)) : Prop := (letC rule_ (fun r1 : (Wd × Int × Int × Int) => ((0 ≤ (if (decide (r1.1 = Wd.passes)) = true then (1 : Int) else 0) ∧ (if (decide (r1.1 = Wd.passes)) = true then (1 : Int) else 0) ≤ 1) ∧ ((tW r1.1)).len + ((tRep (tS " ") (if (decide (r1.1 = Wd.passes)) = true then (1 : Int) else 0))).len ≤ 16777216 ∧ (r1.2.2.1).natAbs.log2 < 1920 ∧ (0 ≤ (if (decide (r1.1 = Wd.passes)) = true then (1 : Int) else 0) ∧ (if (decide (r1.1 = Wd.passes)) = true then (1 : Int) else 0) ≤ 1) ∧ ((tApp (tW r1.1) (tRep (tS " ") (if (decide (r1.1 = Wd.passes)) = true then (1 : Int) else 0)))).len + ((tRep (tI r1.2.2.1) (if (decide (r1.1 = Wd.passes)) = true then (1 : Int) else 0))).len ≤ 16777216 ∧ letC (tApp (tApp (tW r1.1) (tRep (tS " ") (if (decide (r1.1 = Wd.passes)) = true then (1 : Int) else 0))) (tRep (tI r1.2.2.1) (if (decide (r1.1 = Wd.passes)) = true then (1 : Int) else 0))) (fun r3 : Tx => ((r1.2.1).natAbs.log2 < 1920 ∧ ((tS " most ")).len + ((tI r1.2.1)).len ≤ 16777216 ∧ (0 ≤ (if (decide ((0 : Int) < r1.2.1)) = true then (1 : Int) else 0) ∧ (if (decide ((0 : Int) < r1.2.1)) = true then (1 : Int) else 0) ≤ 1) ∧ (r3).len + ((tRep (tApp (tS " most ") (tI r1.2.1)) (if (decide ((0 : Int) < r1.2.1)) = true then (1 : Int) else 0))).len ≤ 16777216 ∧ (0 ≤ r1.2.2.2 ∧ r1.2.2.2 ≤ 1) ∧ ((tApp r3 (tRep (tApp (tS " most ") (tI r1.2.1)) (if (decide ((0 : Int) < r1.2.1)) = true then (1 : Int) else 0)))).len + ((tRep (tS " ups") r1.2.2.2)).len ≤ 16777216)))))
theorem t__law_rule_text (rule_ : (Wd × Int × Int × Int)) (h : Hh) (ok : d__law_rule_text rule_) : F__law_rule_text [(eT4 eW D.int D.int D.int) rule_] h = .ok (eX (v__law_rule_text rule_)) h :=
  fn_frz (c := c__law_rule_text rule_) (hN := Nat.le_of_ble_eq_true rfl) (qs_unpL (is := [1, 2, 3, 4]) (r := rule_) (e := fun r : (Wd × Int × Int × Int) => (eT4 eW D.int D.int D.int) r) (ps := (fun r : (Wd × Int × Int × Int) => [eW r.1, D.int r.2.1, D.int r.2.2.1, D.int r.2.2.2])) (Ev := (fun r : (Wd × Int × Int × Int) => [some (Sl.v ((eT4 eW D.int D.int D.int) rule_)), none, none, none, none, none])) (ok := (fun r1 : (Wd × Int × Int × Int) => ((0 ≤ (if (decide (r1.1 = Wd.passes)) = true then (1 : Int) else 0) ∧ (if (decide (r1.1 = Wd.passes)) = true then (1 : Int) else 0) ≤ 1) ∧ ((tW r1.1)).len + ((tRep (tS " ") (if (decide (r1.1 = Wd.passes)) = true then (1 : Int) else 0))).len ≤ 16777216 ∧ (r1.2.2.1).natAbs.log2 < 1920 ∧ (0 ≤ (if (decide (r1.1 = Wd.passes)) = true then (1 : Int) else 0) ∧ (if (decide (r1.1 = Wd.passes)) = true then (1 : Int) else 0) ≤ 1) ∧ ((tApp (tW r1.1) (tRep (tS " ") (if (decide (r1.1 = Wd.passes)) = true then (1 : Int) else 0)))).len + ((tRep (tI r1.2.2.1) (if (decide (r1.1 = Wd.passes)) = true then (1 : Int) else 0))).len ≤ 16777216 ∧ letC (tApp (tApp (tW r1.1) (tRep (tS " ") (if (decide (r1.1 = Wd.passes)) = true then (1 : Int) else 0))) (tRep (tI r1.2.2.1) (if (decide (r1.1 = Wd.passes)) = true then (1 : Int) else 0))) (fun r3 : Tx => ((r1.2.1).natAbs.log2 < 1920 ∧ ((tS " most ")).len + ((tI r1.2.1)).len ≤ 16777216 ∧ (0 ≤ (if (decide ((0 : Int) < r1.2.1)) = true then (1 : Int) else 0) ∧ (if (decide ((0 : Int) < r1.2.1)) = true then (1 : Int) else 0) ≤ 1) ∧ (r3).len + ((tRep (tApp (tS " most ") (tI r1.2.1)) (if (decide ((0 : Int) < r1.2.1)) = true then (1 : Int) else 0))).len ≤ 16777216 ∧ (0 ≤ r1.2.2.2 ∧ r1.2.2.2 ≤ 1) ∧ ((tApp r3 (tRep (tApp (tS " most ") (tI r1.2.1)) (if (decide ((0 : Int) < r1.2.1)) = true then (1 : Int) else 0)))).len + ((tRep (tS " ups") r1.2.2.2)).len ≤ 16777216))))) (q_slot 0 rfl) (fun _ => rfl) rfl (fun _ => rfl) rfl ok (fun r1 kr1 => (qs_let (e := eX) (ok := (fun r3 : Tx => ((r1.2.1).natAbs.log2 < 1920 ∧ ((tS " most ")).len + ((tI r1.2.1)).len ≤ 16777216 ∧ (0 ≤ (if (decide ((0 : Int) < r1.2.1)) = true then (1 : Int) else 0) ∧ (if (decide ((0 : Int) < r1.2.1)) = true then (1 : Int) else 0) ≤ 1) ∧ (r3).len + ((tRep (tApp (tS " most ") (tI r1.2.1)) (if (decide ((0 : Int) < r1.2.1)) = true then (1 : Int) else 0))).len ≤ 16777216 ∧ (0 ≤ r1.2.2.2 ∧ r1.2.2.2 ≤ 1) ∧ ((tApp r3 (tRep (tApp (tS " most ") (tI r1.2.1)) (if (decide ((0 : Int) < r1.2.1)) = true then (1 : Int) else 0)))).len + ((tRep (tS " ups") r1.2.2.2)).len ≤ 16777216))) (q_op2 (q_op2 (q_w2t (q_slot 1 rfl)) (q_op2 (q_c (d := eX (tS " "))) (q_opN (qa_cons (q_op2 (q_slot 1 rfl) (q_c (d := eW Wd.passes)) (o_eq eW _ _)) qa_nil) (o_intB _)) (o_mulX _ _ kr1.1)) (o_addX _ _ kr1.2.1)) (q_op2 (q_opN (qa_cons (q_slot 3 rfl) qa_nil) (o_str _ kr1.2.2.1)) (q_opN (qa_cons (q_op2 (q_slot 1 rfl) (q_c (d := eW Wd.passes)) (o_eq eW _ _)) qa_nil) (o_intB _)) (o_mulX _ _ kr1.2.2.2.1)) (o_addX _ _ kr1.2.2.2.2.1)) kr1.2.2.2.2.2 (fun r3 kr3 => (qs_retF (q_op2 (q_op2 (q_slot 5 rfl) (q_op2 (q_op2 (q_c (d := eX (tS " most "))) (q_opN (qa_cons (q_slot 2 rfl) qa_nil) (o_str _ kr3.1)) (o_addX _ _ kr3.2.1)) (q_opN (qa_cons (q_op2 (q_slot 2 rfl) (q_c (d := .int 0)) (fun _ => rfl)) qa_nil) (o_intB _)) (o_mulX _ _ kr3.2.2.1)) (o_addX _ _ kr3.2.2.2.1)) (q_op2 (q_c (d := eX (tS " ups"))) (q_slot 4 rfl) (o_mulX _ _ kr3.2.2.2.2.1)) (o_addX _ _ kr3.2.2.2.2.2)))))))
noncomputable def B__law_room_text_0 (x4 : (Int × Wd × Int × (Option Int))) (st3 : Tx) : Tx := (tApp (tApp (tApp (tApp (tApp (tApp (tApp (tApp st3 (tS ", ")) (tI x4.1)) (tS " ")) (tW x4.2.1)) (tS " ")) (tI x4.2.2.1)) (tS " ")) (atZ [(tS "-"), (tO x4.2.2.2)] (if (x4.2.2.2).isSome = true then (1 : Int) else 0)))
def K__law_room_text_1 (x4 : (Int × Wd × Int × (Option Int))) (st3 : Tx) : Prop := ((st3).len + ((tS ", ")).len ≤ 16777216 ∧ (x4.1).natAbs.log2 < 1920 ∧ ((tApp st3 (tS ", "))).len + ((tI x4.1)).len ≤ 16777216 ∧ ((tApp (tApp st3 (tS ", ")) (tI x4.1))).len + ((tS " ")).len ≤ 16777216 ∧ ((tApp (tApp (tApp st3 (tS ", ")) (tI x4.1)) (tS " "))).len + ((tW x4.2.1)).len ≤ 16777216 ∧ ((tApp (tApp (tApp (tApp st3 (tS ", ")) (tI x4.1)) (tS " ")) (tW x4.2.1))).len + ((tS " ")).len ≤ 16777216 ∧ (x4.2.2.1).natAbs.log2 < 1920 ∧ ((tApp (tApp (tApp (tApp (tApp st3 (tS ", ")) (tI x4.1)) (tS " ")) (tW x4.2.1)) (tS " "))).len + ((tI x4.2.2.1)).len ≤ 16777216 ∧ ((tApp (tApp (tApp (tApp (tApp (tApp st3 (tS ", ")) (tI x4.1)) (tS " ")) (tW x4.2.1)) (tS " ")) (tI x4.2.2.1))).len + ((tS " ")).len ≤ 16777216 ∧ ((x4.2.2.2).isSome = true → ((x4.2.2.2).getD default).natAbs.log2 < 1920) ∧ inR [(tS "-"), (tO x4.2.2.2)] (if (x4.2.2.2).isSome = true then (1 : Int) else 0) ∧ ((tApp (tApp (tApp (tApp (tApp (tApp (tApp st3 (tS ", ")) (tI x4.1)) (tS " ")) (tW x4.2.1)) (tS " ")) (tI x4.2.2.1)) (tS " "))).len + ((atZ [(tS "-"), (tO x4.2.2.2)] (if (x4.2.2.2).isSome = true then (1 : Int) else 0))).len ≤ 16777216)
noncomputable def c__law_room_text (room_ : ((List Wd) × (List (Int × Wd × Int × (Option Int))))) : Ctl Empty Empty Tx Empty := (letC (tJoin (tS " ") (List.map tW room_.1)) (fun r1 : Tx => (letC (foldV B__law_room_text_0 room_.2 r1) (fun s7 : Tx => (.rt s7)))))
noncomputable def v__law_room_text (room_ : ((List Wd) × (List (Int × Wd × Int × (Option Int))))) : Tx := (c__law_room_text room_).get
def d__law_room_text (room_ : ((List Wd) × (List (Int × Wd × Int × (Option Int))))) : Prop := (JoinB (tS " ") (List.map tW room_.1) ∧ letC (tJoin (tS " ") (List.map tW room_.1)) (fun r1 : Tx => (okFold B__law_room_text_0 K__law_room_text_1 room_.2 r1)))
theorem t__law_room_text (room_ : ((List Wd) × (List (Int × Wd × Int × (Option Int))))) (h : Hh) (ok : d__law_room_text room_) : F__law_room_text [(eT2 (eS eW) (eS (eT4 D.int eW D.int (eO D.int)))) room_] h = .ok (eX (v__law_room_text room_)) h :=
  fn_frz (c := c__law_room_text room_) (hN := Nat.le_of_ble_eq_true rfl) (qs_let (e := eX) (ok := (fun r1 : Tx => (okFold B__law_room_text_0 K__law_room_text_1 room_.2 r1))) (q_join (q_c (d := eX (tS " "))) (q_op2 (d3 := (eS eW) room_.1) (q_slot 0 rfl) q_c (fun _ => rfl)) (sx_SW _) ok.1) ok.2 (fun r1 kr1 => (qs_seqV (v := (foldV B__law_room_text_0 room_.2 r1)) (E1 := (fun st : Tx => [some (Sl.v ((eT2 (eS eW) (eS (eT4 D.int eW D.int (eO D.int)))) room_)), some (Sl.v (eX st)), none, none, none, none])) (ok := (fun s7 : Tx => True)) (qs_forv (e := (eT4 D.int eW D.int (eO D.int))) (f := B__law_room_text_0) (ok := K__law_room_text_1) (E := (fun st : Tx => [some (Sl.v ((eT2 (eS eW) (eS (eT4 D.int eW D.int (eO D.int)))) room_)), some (Sl.v (eX st)), none, none, none, none])) (s0 := r1) (qi_S (e := (eT4 D.int eW D.int (eO D.int))) (q_op2 (d3 := (eS (eT4 D.int eW D.int (eO D.int))) room_.2) (q_slot 0 rfl) q_c (fun _ => rfl))) (.same (.same (.drop (.drop (.drop (.drop .nil)))))) (fun _ _ => rfl) (fun x4 m5 st3 kst3 => (qs_setE (q_op2 (q_op2 (q_op2 (q_op2 (q_op2 (q_op2 (q_op2 (q_op2 (q_slot 1 rfl) (q_c (d := eX (tS ", "))) (o_addX _ _ kst3.1)) (q_opN (qa_cons (q_slot 2 rfl) qa_nil) (o_str _ kst3.2.1)) (o_addX _ _ kst3.2.2.1)) (q_c (d := eX (tS " "))) (o_addX _ _ kst3.2.2.2.1)) (q_w2t (q_slot 3 rfl)) (o_addX _ _ kst3.2.2.2.2.1)) (q_c (d := eX (tS " "))) (o_addX _ _ kst3.2.2.2.2.2.1)) (q_opN (qa_cons (q_slot 4 rfl) qa_nil) (o_str _ kst3.2.2.2.2.2.2.1)) (o_addX _ _ kst3.2.2.2.2.2.2.2.1)) (q_c (d := eX (tS " "))) (o_addX _ _ kst3.2.2.2.2.2.2.2.2.1)) (q_op2 (ql_frz (ql_cons (q_c (d := eX (tS "-"))) (ql_cons (q_opN (qa_cons (q_slot 5 rfl) qa_nil) (o_strO _ kst3.2.2.2.2.2.2.2.2.2.1)) ql_nil))) (q_opN (qa_cons (q_op2 (q_slot 5 rfl) q_c (o_notN _)) qa_nil) (o_intB _)) (o_ixL eX _ _ kst3.2.2.2.2.2.2.2.2.2.2.1)) (o_addX _ _ kst3.2.2.2.2.2.2.2.2.2.2.2)) (.same (.same (.drop (.drop (.drop (.drop .nil)))))))) kr1) trivial (fun s7 ks7 => (qs_retF (q_slot 1 rfl))))))

theorem dpk {l : List Int} {m : Int} (hl : Lk l) (m0 : 0 < m) (m1 : m < 1073741824) : d__law_pick l m := ⟨hl, m0, m1⟩
/-- a rule that is well formed -/
structure ROk (r : TRule) : Prop where
  w : r.1 = .rows ∨ r.1 = .readers ∨ r.1 = .writers ∨ r.1 = .turns ∨ r.1 = .passes
  m : 0 ≤ r.2.1 ∧ r.2.1 ≤ 5
  k : 0 ≤ r.2.2.1 ∧ r.2.2.1 ≤ 9
  kp : r.1 = .passes ∨ r.2.2.1 = 0
  u : r.2.2.2 = 0 ∨ r.2.2.2 = 1

theorem tx_assoc (a b c : Tx) : tApp (tApp a b) c = tApp a (tApp b c) := Tx.ext (str_assoc _ _ _)
theorem tx_nil (a : Tx) : tApp a tZ = a := Tx.ext (str_nil _)
theorem nil_tx (a : Tx) : tApp tZ a = a := Tx.ext (nil_str _)
theorem tx_rep0 (a : Tx) : tRep a 0 = tZ := if_neg (by decide)
theorem tx_rep1 (a : Tx) : tRep a 1 = a := if_pos rfl
theorem tx_join1 (s x : Tx) : tJoin s [x] = x := rfl
theorem tx_join2 (s x y : Tx) (r : List Tx) : tJoin s (x :: y :: r) = tApp x (tApp s (tJoin s (y :: r))) := by
  rw [← tx_assoc]; rfl
theorem len_tZ : tZ.len = 0 := rfl
theorem len_rep (a : Tx) (k : Int) : (tRep a k).len ≤ a.len := by
  unfold tRep
  split
  · exact Nat.le_refl _
  · rw [len_tZ]; exact Nat.zero_le _
theorem len_small : ∀ k : Nat, k < 1000 → (Str.ofString (toString ((k : Nat) : Int))).length ≤ 4 := by decide +kernel
theorem len_I {i : Int} (h0 : 0 ≤ i) (h1 : i < 1000) : (tI i).len ≤ 4 := by
  obtain ⟨k, rfl⟩ : ∃ k : Nat, i = k := ⟨i.toNat, by omega⟩
  exact len_small k (by omega)
theorem len_W (w : Wd) : (tW w).len ≤ 10 := by cases w <;> decide +kernel
theorem log_I {i : Int} (h0 : 0 ≤ i) (h1 : i < 1000) : i.natAbs.log2 < 1920 := by
  have := Nat.log2_le_self i.natAbs
  omega
theorem len_join (s : Tx) : ∀ ys : List Tx, (tJoin s ys).len ≤ (ys.map Tx.len).sum + ys.length * s.len
  | [] => Nat.zero_le _
  | [x] => by rw [tx_join1]; simp
  | x :: y :: r => by
    have := len_join s (y :: r)
    rw [tx_join2, len_app, len_app, List.map_cons, List.sum_cons, List.length_cons, Nat.succ_mul]
    omega
theorem joinB_of {s : Tx} {ys : List Tx} {m : Nat} (h : ∀ y ∈ ys, y.len ≤ m) (hm : ys.length * (m + s.len) ≤ 16777216) : JoinB s ys := by
  have : (ys.map Tx.len).sum ≤ ys.length * m := by
    clear hm
    induction ys with
    | nil => simp
    | cons y ys ih =>
      rw [List.map_cons, List.sum_cons, List.length_cons, Nat.succ_mul]
      have := h y List.mem_cons_self
      have := ih fun z hz => h z (List.mem_cons_of_mem _ hz)
      omega
  unfold JoinB
  rw [Nat.mul_add] at hm
  omega

theorem t_most : tS " most " = tApp (tS " ") (tApp (tS "most") (tS " ")) := Tx.ext (by decide +kernel)
theorem t_ups : tS " ups" = tApp (tS " ") (tS "ups") := Tx.ext (by decide +kernel)
theorem l_most : (tS "most").len = 4 := by decide +kernel
theorem l_mosts : (tS " most ").len = 6 := by decide +kernel
theorem l_ups : (tS "ups").len = 3 := by decide +kernel
theorem l_upss : (tS " ups").len = 4 := by decide +kernel
theorem l_sp : (tS " ").len = 1 := by decide +kernel
structure Rule6 (r : TRule) : Prop where
  m : 0 ≤ r.2.1 ∧ r.2.1 ≤ 9
  k : 0 ≤ r.2.2.1 ∧ r.2.2.1 ≤ 9
  u : r.2.2.2 = 0 ∨ r.2.2.2 = 1
theorem rule_eq {r : TRule} (ro : Rule6 r) : v_rule_text r = v__law_rule_text r := by
  obtain ⟨w, m, k, u⟩ := r
  obtain ⟨hm, hk, hu⟩ := ro
  dsimp only at hm hk hu
  unfold v_rule_text c_rule_text v__law_rule_text c__law_rule_text
  dsimp only [letC, Ctl.get]
  by_cases h1 : w = Wd.passes
  · by_cases h2 : 0 < m
    · rcases hu with rfl | rfl <;> simp [h1, h2, tx_join1, tx_join2, tx_assoc, tx_rep0, tx_rep1, tx_nil, nil_tx, t_most, t_ups]
    · rcases hu with rfl | rfl <;> simp [h1, h2, tx_join1, tx_join2, tx_assoc, tx_rep0, tx_rep1, tx_nil, nil_tx, t_most, t_ups]
  · by_cases h2 : 0 < m
    · rcases hu with rfl | rfl <;> simp [h1, h2, tx_join1, tx_join2, tx_assoc, tx_rep0, tx_rep1, tx_nil, nil_tx, t_most, t_ups]
    · rcases hu with rfl | rfl <;> simp [h1, h2, tx_join1, tx_join2, tx_assoc, tx_rep0, tx_rep1, tx_nil, nil_tx, t_most, t_ups]
theorem lrule_d {r : TRule} (ro : Rule6 r) : d__law_rule_text r := by
  obtain ⟨w, m, k, u⟩ := r
  obtain ⟨hm, hk, hu⟩ := ro
  dsimp only at hm hk hu
  have lm := len_I (i := m) hm.1 (by omega)
  have lk := len_I (i := k) hk.1 (by omega)
  have lw := len_W w
  have gm := log_I (i := m) hm.1 (by omega)
  have gk := log_I (i := k) hk.1 (by omega)
  have b01 : ∀ b : Bool, 0 ≤ (if b = true then (1 : Int) else 0) ∧ (if b = true then (1 : Int) else 0) ≤ 1 := fun b => by cases b <;> decide
  unfold d__law_rule_text
  dsimp only [letC]
  have r1 := fun z => len_rep (tS " ") z
  have r2 := fun z => len_rep (tI k) z
  have r3 := fun z => len_rep (tApp (tS " most ") (tI m)) z
  have r4 := fun z => len_rep (tS " ups") z
  simp only [len_app, l_sp, l_mosts, l_upss] at r1 r2 r3 r4 ⊢
  have a1 := r1 (if (decide (w = Wd.passes)) = true then (1 : Int) else 0)
  have a2 := r2 (if (decide (w = Wd.passes)) = true then (1 : Int) else 0)
  have a3 := r3 (if (decide ((0 : Int) < m)) = true then (1 : Int) else 0)
  have a4 := r4 u
  exact ⟨b01 _, by omega, gk, b01 _, by omega, gm, by omega, b01 _, by omega, by omega, by omega⟩

theorem l_cm : (tS ", ").len = 2 := by decide +kernel
theorem l_da : (tS "-").len = 1 := by decide +kernel
structure En47 (e : TEn) : Prop where
  g : 0 ≤ e.1 ∧ e.1 < 1000
  m : 0 ≤ e.2.2.1 ∧ e.2.2.1 < 1000
  l : e.2.2.2.isSome = true → 0 ≤ e.2.2.2.getD default ∧ e.2.2.2.getD default < 1000
structure Rm47 (m : TRoom) : Prop where
  w : m.1.length ≤ 10
  n : m.2.length ≤ 10
  e : ∀ e ∈ m.2, En47 e
theorem len_D {o : Option Int} (h : o.isSome = true → 0 ≤ o.getD default ∧ o.getD default < 1000) : (tD o).len ≤ 4 := by
  cases o with
  | none => show (tS "-").len ≤ 4; rw [l_da]; decide
  | some i => exact len_I (h rfl).1 (h rfl).2
theorem wait_v (e : TEn) : v_wait_text e = tApp (tI e.1) (tApp (tS " ") (tApp (tW e.2.1) (tApp (tS " ") (tApp (tI e.2.2.1) (tApp (tS " ") (tD e.2.2.2)))))) := by
  unfold v_wait_text c_wait_text
  dsimp only [letC, Ctl.get]
  simp only [List.foldl_cons, List.foldl_nil, nil_tx, tx_assoc]
theorem wait_all {e : TEn} (h : En47 e) : d_wait_text e ∧ (v_wait_text e).len ≤ 30 := by
  have lg := len_I h.g.1 h.g.2
  have lm := len_I h.m.1 h.m.2
  have lw := len_W e.2.1
  have ld := len_D h.l
  constructor
  · unfold d_wait_text
    dsimp only [letC]
    refine ⟨log_I h.g.1 h.g.2, by omega, log_I h.m.1 h.m.2, fun z => log_I (h.l z).1 (h.l z).2, ?_⟩
    simp only [List.map_cons, List.map_nil, List.sum_cons, List.sum_nil, l_sp]
    omega
  · rw [wait_v]
    simp only [len_app, l_sp]
    omega
theorem join_head (s a b : Tx) (r : List Tx) : tJoin s (tApp a b :: r) = tApp a (tJoin s (b :: r)) := by
  cases r with
  | nil => rfl
  | cons y r => rw [tx_join2, tx_join2, tx_assoc]
theorem tstep_eq (e : TEn) (st : Tx) : B__law_room_text_0 e st = tApp st (tApp (tS ", ") (v_wait_text e)) := by
  have hd : atZ [(tS "-"), (tO e.2.2.2)] (if e.2.2.2.isSome = true then (1 : Int) else 0) = tD e.2.2.2 := by
    cases e.2.2.2 <;> rfl
  unfold B__law_room_text_0
  rw [wait_v, hd]
  simp only [tx_assoc]
theorem tfold_eq : ∀ (es : List TEn) (x : Tx), foldV B__law_room_text_0 es x = tJoin (tS ", ") (x :: es.map fun e : TEn => v_wait_text e)
  | [], x => rfl
  | e :: es, x => by
    rw [foldV_cons, tstep_eq, tfold_eq es, List.map_cons, tx_join2, join_head, join_head]
theorem words_len (ws : List Wd) (h : ws.length ≤ 10) : JoinB (tS " ") (ws.map tW) ∧ (tJoin (tS " ") (ws.map tW)).len ≤ 200 := by
  have jb : ∀ y ∈ ws.map tW, y.len ≤ 10 := fun y hy => by
    obtain ⟨w, _, rfl⟩ := List.mem_map.mp hy
    exact len_W w
  have B := joinB_of (s := tS " ") (m := 10) jb (by rw [l_sp, List.length_map]; omega)
  refine ⟨B, ?_⟩
  have := len_join (tS " ") (ws.map tW)
  rw [l_sp, List.length_map] at this
  have : ((ws.map tW).map Tx.len).sum ≤ ws.length * 10 := by
    clear this B jb h
    induction ws with
    | nil => simp
    | cons w ws ih =>
      simp only [List.map_cons, List.sum_cons, List.length_cons]
      have := len_W w
      omega
  omega
theorem room_v (m : TRoom) : v_room_text m = v__law_room_text m := by
  unfold v_room_text c_room_text v__law_room_text c__law_room_text
  dsimp only [letC, Ctl.get]
  rw [tfold_eq]; rfl
theorem room_d {m : TRoom} (h : Rm47 m) : d_room_text m := by
  obtain ⟨j1, j2⟩ := words_len m.1 h.w
  have hn := h.n
  have jb : JoinB (tS ", ") ([(tJoin (tS " ") (List.map tW m.1))] ++ (List.map (fun y : TEn => (v_wait_text y)) m.2)) := joinB_of (m := 200) (fun y hy => by
    rcases List.mem_append.mp hy with q | q
    · rw [List.mem_singleton.mp q]; exact j2
    · obtain ⟨e, he, rfl⟩ := List.mem_map.mp q
      have := (wait_all (h.e e he)).2
      omega) (by rw [l_cm, List.length_append, List.length_map, List.length_singleton]; omega)
  have ll : ([(tJoin (tS " ") (List.map tW m.1))]).length + ((List.map (fun y : TEn => (v_wait_text y)) m.2)).length ≤ 16777216 := by
    rw [List.length_map, List.length_singleton]; omega
  unfold d_room_text
  dsimp only [letC]
  exact ⟨j1, fun e he => (wait_all (h.e e he)).1, ll, j1, fun e he => (wait_all (h.e e he)).1, ll, jb⟩
theorem law_okf : ∀ (es : List TEn) (st : Tx), (∀ e ∈ es, En47 e) → st.len + es.length * 40 ≤ 100000 → okFold B__law_room_text_0 K__law_room_text_1 es st
  | [], _, _, _ => trivial
  | e :: es, st, h, hl => by
    have he := h e List.mem_cons_self
    obtain ⟨d1, d2⟩ := wait_all he
    rw [List.length_cons] at hl
    have lg := len_I he.g.1 he.g.2
    have lm := len_I he.m.1 he.m.2
    have lw := len_W e.2.1
    refine ⟨?_, law_okf es _ (fun x hx => h x (List.mem_cons_of_mem _ hx)) (by rw [tstep_eq, len_app, len_app, l_cm]; omega)⟩
    have hat : inR [(tS "-"), (tO e.2.2.2)] (if e.2.2.2.isSome = true then (1 : Int) else 0) := inR_of (by split <;> decide) (by split <;> (show _ < ((2 : Nat) : Int); decide))
    have la : (atZ [(tS "-"), (tO e.2.2.2)] (if e.2.2.2.isSome = true then (1 : Int) else 0)).len ≤ 4 := by
      have hd : atZ [(tS "-"), (tO e.2.2.2)] (if e.2.2.2.isSome = true then (1 : Int) else 0) = tD e.2.2.2 := by
        cases e.2.2.2 <;> rfl
      rw [hd]; exact len_D he.l
    unfold K__law_room_text_1
    simp only [len_app, l_sp, l_cm]
    exact ⟨by omega, log_I he.g.1 he.g.2, by omega, by omega, by omega, by omega, log_I he.m.1 he.m.2, by omega, by omega, fun z => log_I (he.l z).1 (he.l z).2, hat, by omega⟩
theorem law_d {m : TRoom} (h : Rm47 m) : d__law_room_text m := by
  obtain ⟨j1, j2⟩ := words_len m.1 h.w
  have hn := h.n
  unfold d__law_room_text
  dsimp only [letC]
  exact ⟨j1, law_okf m.2 _ h.e (by omega)⟩

def MarkE (e : TEn) : Prop := (0 ≤ e.2.2.1 ∧ e.2.2.1 ≤ 999) ∧ (e.2.2.2 = none ∨ ∃ k : Int, e.2.2.2 = some k ∧ 1 ≤ k ∧ k ≤ 9)
def MarkT (m : TRoom) : Prop := ∀ e ∈ m.2, MarkE e
theorem between_eq (x a b : Int) : v_is_between x a b = (decide (a ≤ x) && decide (x ≤ b)) := by
  unfold v_is_between c_is_between
  simp
theorem left_eq {l : Option Int} (h : l = none ∨ ∃ k : Int, l = some k ∧ 1 ≤ k ∧ k ≤ 9) : v_is_left l = true ∧ d_is_left l := by
  unfold v_is_left c_is_left d_is_left
  rw [between_eq]
  rcases h with rfl | ⟨k, rfl, h1, h2⟩
  · exact ⟨rfl, fun z => by cases z⟩
  · refine ⟨?_, fun _ => rfl⟩
    simp [h1, h2]
theorem entry_eq {n : Nat} {e : TEn} (hg : 0 ≤ e.1 ∧ e.1 < n) (hw : e.2.1 = Wd.read ∨ e.2.1 = Wd.write) (hm : MarkE e) : v_is_entry n e = true ∧ d_is_entry n e := by
  obtain ⟨l1, l2⟩ := left_eq hm.2
  have b1 : (decide (0 ≤ e.1) && decide (e.1 ≤ (n : Int) - 1)) = true := by rw [decide_eq_true hg.1, decide_eq_true (by omega)]; rfl
  have b2 : (decide ((0 : Int) ≤ e.2.2.1) && decide (e.2.2.1 ≤ 999)) = true := by rw [decide_eq_true hm.1.1, decide_eq_true hm.1.2]; rfl
  have b3 : v_is_one_of e.2.1 [Wd.read, Wd.write] = true := by
    unfold v_is_one_of c_is_one_of
    rcases hw with h | h <;> rw [h] <;> rfl
  unfold v_is_entry c_is_entry d_is_entry
  simp only [letC]
  rw [between_eq, between_eq, b1, b2, b3, l1]
  exact ⟨rfl, fun _ _ _ => l2⟩
theorem waits_eq {n : Nat} {m : TRoom} (R : RmOk n m) (hn : n < 64) (M : MarkT m) : v_are_waits n m.1 m.2 = true ∧ d_are_waits n m.1 m.2 := by
  have few := R.few
  have len := R.len
  have all : List.all m.2 (fun y : TEn => v_is_entry n y) = true := List.all_eq_true.mpr fun e he => (entry_eq (R.gs e he) (R.rw e he) (M e he)).1
  unfold v_are_waits c_are_waits d_are_waits
  dsimp only [letC]
  rw [all]
  refine ⟨?_, fun _ e he => (entry_eq (R.gs e he) (R.rw e he) (M e he)).2, fun _ => ⟨by rw [List.length_map]; omega, fun _ g hg => ?_⟩⟩
  · show (decide (((setN (m.2.map fun y : TEn => y.1) : Nat) : Int) = _) && _) = true
    rw [setN_nodup R.nd, decide_eq_true rfl, Bool.true_and]
    refine List.all_eq_true.mpr fun g hg => ?_
    obtain ⟨e, he, rfl⟩ := List.mem_map.mp hg
    exact decide_eq_true (atZ_of (R.gs e he).1 (R.out e he))
  · obtain ⟨e, he, rfl⟩ := List.mem_map.mp hg
    have := R.gs e he
    exact inR_of this.1 (by omega)
theorem room_eq {n : Nat} {m : TRoom} (R : RmOk n m) (hn : n < 64) (M : MarkT m) : v_is_room n m = true ∧ d_is_room n m := by
  obtain ⟨w1, w2⟩ := waits_eq R hn M
  have len := R.len
  have all : List.all m.1 (fun y : Wd => v_is_one_of y [Wd.out, Wd.reads, Wd.rising, Wd.writes, Wd.raised]) = true := List.all_eq_true.mpr fun w hw => by
    unfold v_is_one_of c_is_one_of
    show (true && decide (w ∈ [Wd.out, Wd.reads, Wd.rising, Wd.writes, Wd.raised])) = true
    rw [decide_eq_true (show w ∈ [Wd.out, Wd.reads, Wd.rising, Wd.writes, Wd.raised] from R.pl w hw)]; rfl
  unfold v_is_room c_is_room d_is_room
  rw [all, w1, len]
  exact ⟨by simp, fun _ _ => w2⟩

section
open PySem.Builtin PySem.Builtin.Str PySem.StrLaws
theorem kind_low (x y : Str) (h : y.cps.all (· < 256) = true) : ¬ PySem.Builtin.Str.strKind x < PySem.Builtin.Str.strKind y := by
  have e : PySem.Builtin.Str.strKind y = 1 := by unfold PySem.Builtin.Str.strKind; rw [if_pos h]
  rw [e]
  unfold PySem.Builtin.Str.strKind
  split
  · omega
  · split <;> omega
theorem join_two (y p q : Str) (r : List Str) : Str.join y (p :: q :: r) = p ++ y ++ Str.join y (q :: r) := rfl
theorem cuts_parts (x y : Str) (c : Nat) (ys : List Nat) (hy : y.cps.toList = c :: ys) : ∀ (r : List Str) (p : Str) (cuts : List Nat) (a f : Nat), a ≤ x.cps.toList.length → x.cps.toList.drop a = (Str.join y (p :: r)).cps.toList → (∀ q ∈ p :: r, c ∉ q.cps.toList) →
    ChainG x y x.length a cuts f → (∀ k, f ≤ k → ¬ At x y x.length k) → partsFrom x y.length a cuts = p :: r := by
  have hl : y.length = ys.length + 1 := by show y.cps.size = _; rw [← Array.length_toList, hy]; rfl
  have hxl : x.length = x.cps.toList.length := by show x.cps.size = _; rw [Array.length_toList]
  have atc : ∀ k, At x y x.length k → x.cps.toList[k]? = some c := fun k h => by
    have h2 := h.2
    rw [subAt_eq, hy, hl] at h2
    have h3 := eq_of_beq h2
    have h4 : ((x.cps.toList.drop k).take (ys.length + 1))[0]? = some c := by rw [h3]; rfl
    rw [List.getElem?_take_of_lt (by omega), List.getElem?_drop] at h4
    exact h4
  intro r
  induction r with
  | nil =>
    intro p cuts a f ha hd hf hc hn
    have hd : x.cps.toList.drop a = p.cps.toList := hd
    have free : ∀ k, a ≤ k → x.cps.toList[k]? ≠ some c := fun k hk z => by
      have : (x.cps.toList.drop a)[k - a]? = some c := by rw [List.getElem?_drop, show a + (k - a) = k by omega]; exact z
      rw [hd] at this
      exact hf p List.mem_cons_self (List.mem_of_getElem? this)
    cases cuts with
    | nil =>
      show [strSub x a x.length] = [p]
      congr 1
      apply Str.ext'
      apply Array.toList_inj.mp
      rw [strSub_toList, hd, ← hd, List.take_of_length_le (by rw [List.length_drop, hxl]; omega)]
    | cons d cs => exact absurd (atc d hc.2.1) (free d hc.1)
  | cons q r ih =>
    intro p cuts a f ha hd hf hc hn
    have hd : x.cps.toList.drop a = p.cps.toList ++ y.cps.toList ++ (Str.join y (q :: r)).cps.toList := by
      rw [hd, join_two]
      show (p.cps ++ y.cps ++ (Str.join y (q :: r)).cps).toList = _
      rw [Array.toList_append, Array.toList_append]
    have len := congrArg List.length hd
    rw [List.length_drop, List.length_append, List.length_append, Array.length_toList (xs := y.cps)] at len
    have hyl : y.cps.size = y.length := rfl
    have hat : At x y x.length (a + p.cps.toList.length) := by
      refine ⟨by rw [hxl]; omega, ?_⟩
      rw [subAt_eq]
      have : x.cps.toList.drop (a + p.cps.toList.length) = y.cps.toList ++ (Str.join y (q :: r)).cps.toList := by
        rw [← List.drop_drop, hd, List.append_assoc, List.drop_left]
      rw [this]
      have : y.length = y.cps.toList.length := by rw [Array.length_toList]; rfl
      rw [this, List.take_left]
      exact beq_self_eq_true _
    have free : ∀ k, a ≤ k → k < a + p.cps.toList.length → x.cps.toList[k]? ≠ some c := fun k hk hk2 z => by
      have : (x.cps.toList.drop a)[k - a]? = some c := by rw [List.getElem?_drop, show a + (k - a) = k by omega]; exact z
      rw [hd, List.append_assoc, List.getElem?_append_left (by omega)] at this
      exact hf p List.mem_cons_self (List.mem_of_getElem? this)
    cases cuts with
    | nil =>
      have e : f = a := hc
      exact absurd hat (hn _ (by omega))
    | cons d cs =>
      obtain ⟨c1, c2, c3, c4⟩ := hc
      have e : d = a + p.cps.toList.length := by
        rcases Nat.lt_trichotomy d (a + p.cps.toList.length) with h | h | h
        · exact absurd (atc d c2) (free d c1 h)
        · exact h
        · exact absurd hat (c3 _ (by omega) h)
      subst e
      show strSub x a _ :: partsFrom x y.length _ cs = _
      rw [ih q cs (a + p.cps.toList.length + y.length) f (by omega) ?_ (fun z hz => hf z (List.mem_cons_of_mem _ hz)) c4 hn]
      · congr 1
        apply Str.ext'
        apply Array.toList_inj.mp
        rw [strSub_toList, hd, List.append_assoc, show a + p.cps.toList.length - a = p.cps.toList.length by omega, List.take_left]
      · rw [← List.drop_drop, ← List.drop_drop, hd, List.append_assoc, List.drop_left]
        have : y.length = y.cps.toList.length := by rw [Array.length_toList]; rfl
        rw [this, List.drop_left]
theorem split_join (y : Str) (c : Nat) (ys : List Nat) (hy : y.cps.toList = c :: ys) (hk : y.cps.all (· < 256) = true) (p : Str) (r : List Str) (hf : ∀ q ∈ p :: r, c ∉ q.cps.toList) : Txt.split (Str.join y (p :: r)) y = p :: r := by
  have hl : 1 ≤ y.length := by show 1 ≤ y.cps.size; rw [← Array.length_toList, hy]; simp
  obtain ⟨f, hG, hn⟩ := occ_tight (Str.join y (p :: r)) y hl
  have key := cuts_parts (Str.join y (p :: r)) y c ys hy r p _ 0 f (Nat.zero_le _) (List.drop_zero ..) hf hG hn
  unfold Txt.split
  by_cases hc : (decide ((Str.join y (p :: r)).length < y.length) || decide (PySem.Builtin.Str.strKind (Str.join y (p :: r)) < PySem.Builtin.Str.strKind y)) = true
  · rw [if_pos hc]
    rw [Bool.or_eq_true, decide_eq_true_eq, decide_eq_true_eq] at hc
    have hc := hc.resolve_right (kind_low _ _ hk)
    cases r with
    | nil => rfl
    | cons q r =>
      rw [join_two] at hc
      rw [Str.length_append, Str.length_append] at hc
      omega
  · rw [if_neg hc]
    by_cases he : (occurrences (Str.join y (p :: r)) y 0 (Str.join y (p :: r)).length ((Str.join y (p :: r)).length + 1)).isEmpty = true
    · rw [if_pos he]
      rw [List.isEmpty_iff.mp he] at key
      refine Eq.trans ?_ key
      show _ = [strSub _ 0 _]
      rw [sub_whole]
    · rw [if_neg he, partsBetween_eq]; exact key
end

theorem one_num : ∀ k : Nat, k < 10 → numT (tI (k : Int)) 1 = some (k : Int) := by decide +kernel
theorem three_num : ∀ k : Nat, k < 1000 → numT (tI (k : Int)) 3 = some (k : Int) := by decide +kernel
def clean (t : Tx) : Bool := t.1.cps.toList.all fun c => decide (c ≠ 32) && (decide (c ≠ 44) && decide (c ≠ 10))
theorem clean_num : ∀ k : Nat, k < 1000 → clean (tI (k : Int)) = true := by decide +kernel
theorem clean_W (w : Wd) : clean (tW w) = true := by cases w <;> decide +kernel
theorem numB_of {w : Tx} {m : Int} (hl : w.len ≤ 640) (h : (numT w m).isSome = true) : NumB w m := ⟨hl, fun c => by
  unfold numT at h
  rw [if_pos c] at h; exact h⟩
theorem num1 {i : Int} (h0 : 0 ≤ i) (h1 : i ≤ 9) : numT (tI i) 1 = some i ∧ NumB (tI i) 1 := by
  have hl := len_I (i := i) h0 (by omega)
  obtain ⟨k, rfl⟩ : ∃ k : Nat, i = k := ⟨i.toNat, by omega⟩
  have e := one_num k (by omega)
  exact ⟨e, numB_of (by omega) (by rw [e]; rfl)⟩
theorem num3 {i : Int} (h0 : 0 ≤ i) (h1 : i ≤ 999) : numT (tI i) 3 = some i ∧ NumB (tI i) 3 := by
  have hl := len_I (i := i) h0 (by omega)
  obtain ⟨k, rfl⟩ : ∃ k : Nat, i = k := ⟨i.toNat, by omega⟩
  have e := three_num k (by omega)
  exact ⟨e, numB_of (by omega) (by rw [e]; rfl)⟩
theorem clean_I {i : Int} (h0 : 0 ≤ i) (h1 : i < 1000) : clean (tI i) = true := by
  obtain ⟨k, rfl⟩ : ∃ k : Nat, i = k := ⟨i.toNat, by omega⟩
  exact clean_num k (by omega)
theorem clean_not {t : Tx} (h : clean t = true) : 32 ∉ t.1.cps.toList ∧ 44 ∉ t.1.cps.toList ∧ 10 ∉ t.1.cps.toList := by
  have := List.all_eq_true.mp h
  refine ⟨fun m => ?_, fun m => ?_, fun m => ?_⟩
  · have := this _ m; simp at this
  · have := this _ m; simp at this
  · have := this _ m; simp at this
theorem split_tx (y : Tx) (c : Nat) (ys : List Nat) (hy : y.1.cps.toList = c :: ys) (hk : y.1.cps.all (· < 256) = true) (p : Tx) (r : List Tx) (hf : ∀ q ∈ p :: r, c ∉ q.1.cps.toList) (hl : (tJoin y (p :: r)).len + 2 ≤ 16777216) : tSplit (tJoin y (p :: r)) y = p :: r ∧ SplB (tJoin y (p :: r)) y := by
  have e : Txt.split (tJoin y (p :: r)).1 y.1 = (p :: r).map (fun t : Tx => t.1) := split_join y.1 c ys hy hk p.1 (r.map fun t : Tx => t.1) (fun q hq => by
    obtain ⟨t, ht, rfl⟩ := List.mem_map.mp (show q ∈ (p :: r).map (fun t : Tx => t.1) from hq)
    exact hf t ht)
  refine ⟨?_, ?_, hl, ?_⟩
  · unfold tSplit
    rw [e, List.map_map]
    exact (List.map_congr_left fun t _ => tOf_self t).trans (List.map_id _)
  · have : y.len = ys.length + 1 := by show y.1.cps.size = _; rw [← Array.length_toList, hy]; rfl
    rw [this]; rfl
  · rw [e]
    intro s hs
    obtain ⟨t, _, rfl⟩ := List.mem_map.mp hs
    exact t.2
theorem free_app {c : Nat} {a b : Tx} (ha : c ∉ a.1.cps.toList) (hb : c ∉ b.1.cps.toList) : c ∉ (tApp a b).1.cps.toList := by
  show c ∉ (a.1.cps ++ b.1.cps).toList
  rw [Array.toList_append, List.mem_append]
  rintro (h | h)
  · exact ha h
  · exact hb h
theorem free_join {c : Nat} {s : Tx} (hs : c ∉ s.1.cps.toList) : ∀ ys : List Tx, (∀ y ∈ ys, c ∉ y.1.cps.toList) → c ∉ (tJoin s ys).1.cps.toList
  | [], _ => by show c ∉ ((#[] : Array Nat)).toList; simp
  | [x], h => h x List.mem_cons_self
  | x :: y :: r, h => by
    rw [tx_join2]
    exact free_app (h x List.mem_cons_self) (free_app hs (free_join hs (y :: r) fun z hz => h z (List.mem_cons_of_mem _ hz)))
theorem split_sp (p : Tx) (r : List Tx) (hf : ∀ q ∈ p :: r, clean q = true) (hl : ((p :: r).map Tx.len).sum + (p :: r).length ≤ 100000) : tSplit (tJoin (tS " ") (p :: r)) (tS " ") = p :: r ∧ SplB (tJoin (tS " ") (p :: r)) (tS " ") := by
  have := len_join (tS " ") (p :: r)
  rw [l_sp] at this
  exact split_tx (tS " ") 32 [] rfl (by decide +kernel) p r (fun q hq => (clean_not (hf q hq)).1) (by omega)

def ruK (w0 : Tx) (l : List Tx) : Option Int × List Tx := match l with
  | x :: r => if w0 = tW .passes then (numT x 1, r) else (some 0, x :: r)
  | [] => (some 0, [])
def ruM (l : List Tx) : Option Int × List Tx := match l with
  | m :: x :: r => if m = tS "most" then (numT x 1, r) else (some 0, m :: x :: r)
  | l => (some 0, l)
theorem ev_popAt0 (j : Nat) (h : Hh) (x : D) (xs : List D) (e : h[j]? = some (.lst (x :: xs))) : popAtO (.ref j) [.int 0] h = some (x, h.set j (.lst xs)) := by
  show refCh _ j h h[j]? = _
  rw [e]
  show Option.map _ (if _ then (match seqIndex? 0 (xs.length + 1) with | some k => _ | none => none) else none) = _
  have : seqIndex? 0 (xs.length + 1) = some 0 := by unfold seqIndex?; simp
  rw [if_pos (by decide), this]
  rfl
noncomputable def ruTail : MS :=
 (sSeq (sIf (tAnd (tE (eOp2 gtO (eOpN lenO (aCons (eSlot 1) aNil)) (eC (.int 1)))) (tE (eOp2 eqO (eOp2 ixA (eSlot 1) (eC (.int 0))) (eC (.str "most"))))) (sSeq (sAsg (eCall F_number_in (aCons (eOp2 ixA (eSlot 1) (eC (.int 1))) (aCons (eC (.int 1)) aNil))) (gName 3))
 (sAsg (eSlice (eSlot 1) (oSome (eC (.int 2))) oNone) (gName 1))) MR.sNext)
 (sRet (eTup (aCons (eOp2 ixA (eSlot 0) (eC (.int 0))) (aCons (eSlot 3) (aCons (eSlot 2) (aCons (eOpN int1O (aCons (eOp2 (inO false) (eC (.str "ups")) (eSlot 1)) aNil)) aNil)))))))
theorem ru_tail (w0 kd : D) (wr : List D) (l : List Tx) (hn : ∀ x ∈ l, NumB x 1) (h : Hh) (p : Nat) (hp : h[p]? = some (.lst (l.map eX))) : ruTail [some (.lst (w0 :: wr)), some (.ref p), some kd, some (.int 0)] h = .rt (.tup [w0, eO D.int (ruM l).1, kd, .int (if tS "ups" ∈ (ruM l).2 then 1 else 0)]) h := by
  have n1 : ∀ x ∈ l, ∀ h, F_number_in [.str x.1, .int 1] h = .ok (eO D.int (numT x 1)) h := fun x m h => t_number_in x 1 h (hn x m)
  have e2 : ∀ (m : Tx) h, eqO (.str m.1) (.str "most") h = some (.bl (decide (m = tS "most"))) := fun m h => o_eq eX m (tS "most") (h := h)
  have e3 : ∀ (l : List Tx) h, inO false (.str "ups") (.lst (l.map eX)) h = some (.bl (decide (tS "ups" ∈ l))) := fun l h => o_inL eX (tS "ups") l (h := h)
  have e4 : inO false (.str "ups") (.ref p) h = some (.bl (decide (tS "ups" ∈ l))) := o_inO eX (tS "ups") l (h := h) (p := p) (hp := hp)
  have hx : ∀ m : Tx, eX m = D.str m.1 := fun _ => rfl
  have e7 : ∀ b : Bool, int1O [.bl b] h = some (.int (if b = true then 1 else 0)) := fun b => o_intB b h
  unfold ruTail
  match l, hp, e4, n1 with
  | [], hp, e4, n1 => simp [hp, e4, e7, ruM]; rfl
  | [m], hp, e4, n1 => simp [hp, e4, e7, ruM]; rfl
  | m :: x :: r, hp, e4, n1 =>
    have n2 := n1 x (by simp)
    have sl : sliceO (.ref p) (some 2) none h = some (.lst (r.map eX)) := by
      rw [o_slO eX (m :: x :: r) (some 2) none h p hp, cutFrom _ (by decide)]; rfl
    have hl : (1 : Int) < (r.length : Int) + 1 + 1 := by omega
    have e2m := e2 m h
    by_cases hm : m = tS "most"
    · rw [decide_eq_true hm] at e2m
      have er : ruM (m :: x :: r) = (numT x 1, r) := if_pos hm
      rw [er]
      simp [hp, e4, e7, hx, n2, sl, hl, e2m, e3]
    · rw [decide_eq_false hm] at e2m
      have er : ruM (m :: x :: r) = (some 0, m :: x :: r) := if_neg hm
      rw [er]
      simp [hp, e4, e7, hx, n2, sl, hl, e2m, e3]; rfl
theorem ru_run (w0 : Tx) (l : List Tx) (hn : ∀ x ∈ l, NumB x 1) (h : Hh) : ∃ g, runF 1 N_rule_in b_rule_in [.lst (D.str w0.1 :: l.map eX)] h = .ok (.tup [D.str w0.1, eO D.int (ruM (ruK w0 l).2).1, eO D.int (ruK w0 l).1, .int (if tS "ups" ∈ (ruM (ruK w0 l).2).2 then 1 else 0)]) (h ++ g) := by
  have n1 : ∀ x ∈ l, ∀ h, F_number_in [.str x.1, .int 1] h = .ok (eO D.int (numT x 1)) h := fun x m h => t_number_in x 1 h (hn x m)
  have e5 : ∀ (l : List D), cutG (D.str w0.1 :: l) (some 1) none = l := fun l => by rw [cutFrom _ (by decide)]; rfl
  have hx : ∀ m : Tx, eX m = D.str m.1 := fun _ => rfl
  have hb : b_rule_in = (sSeq (sAsg (eNew (aSeq (eSlice (eSlot 0) (oSome (eC (.int 1))) oNone))) (gName 1))
 (sSeq (sAsg (eC (.int 0)) (gName 2))
 (sSeq (sAsg (eC (.int 0)) (gName 3))
 (sSeq (sIf (tAnd (tE (eOp2 eqO (eOp2 ixA (eSlot 0) (eC (.int 0))) (eC (.str "passes")))) (tE (eOp2 gtO (eOpN lenO (aCons (eSlot 1) aNil)) (eC (.int 0))))) (sAsg (eCall F_number_in (aCons (eMeth isL popAtO (eSlot 1) (aCons (eC (.int 0)) aNil)) (aCons (eC (.int 1)) aNil))) (gName 2)) MR.sNext)
 ruTail)))) := rfl
  rw [ev_run1, hb]
  by_cases hp : w0 = tW .passes
  · have e1 : ∀ h, eqO (.str w0.1) (.str "passes") h = some (.bl true) := fun h => by rw [← decide_eq_true hp]; exact o_eq eX w0 (tW .passes) (h := h)
    cases l with
    | nil =>
      refine ⟨[.lst []], ?_⟩
      have t := ru_tail (.str w0.1) (.int 0) [] [] (by simp) (h ++ [.lst []]) h.length (by simp)
      simp [e1, e5, ruK, t]; exact ⟨rfl, rfl⟩
    | cons x r =>
      refine ⟨[.lst (r.map eX)], ?_⟩
      have er : ruK w0 (x :: r) = (numT x 1, r) := if_pos hp
      rw [er]
      have n2 := n1 x (by simp)
      have hl : (0 : Int) < (r.length : Int) + 1 := by omega
      have t := ru_tail (.str w0.1) (eO D.int (numT x 1)) ((x :: r).map eX) r (fun y m => hn y (List.mem_cons_of_mem _ m)) (h ++ [.lst (r.map eX)]) h.length (by simp)
      have pz : popAtO (.ref h.length) [.int 0] (h ++ [.lst (D.str x.1 :: r.map eX)]) = some (D.str x.1, h ++ [.lst (r.map eX)]) := by
        rw [ev_popAt0 h.length _ (D.str x.1) (r.map eX) (by simp)]; simp
      simp [hx] at t
      simp [e1, e5, hx, n2, hl, pz, t]
  · have e1 : ∀ h, eqO (.str w0.1) (.str "passes") h = some (.bl false) := fun h => by rw [← decide_eq_false hp]; exact o_eq eX w0 (tW .passes) (h := h)
    have er : ruK w0 l = (some 0, l) := by
      cases l with
      | nil => rfl
      | cons x r => exact if_neg hp
    rw [er]
    refine ⟨[.lst (l.map eX)], ?_⟩
    have t := ru_tail (.str w0.1) (.int 0) (l.map eX) l hn (h ++ [.lst (l.map eX)]) h.length (by simp)
    simp [e1, e5, t]; rfl
structure RuleF (r : TRule) : Prop where
  w : r.1 ∈ [Wd.rows, Wd.readers, Wd.writers, Wd.turns, Wd.passes]
  m : 0 ≤ r.2.1 ∧ r.2.1 ≤ 5
  k : 0 ≤ r.2.2.1 ∧ r.2.2.1 ≤ 9
  n : r.1 ≠ Wd.passes → r.2.2.1 = 0
  u : r.2.2.2 = 0 ∨ r.2.2.2 = 1
theorem RuleF.six {r : TRule} (F : RuleF r) : Rule6 r := ⟨⟨F.m.1, by have := F.m.2; omega⟩, F.k, F.u⟩
def rW (r : TRule) : List Tx := tW r.1 :: ((if r.1 = Wd.passes then [tI r.2.2.1] else []) ++ ((if 0 < r.2.1 then [tS "most", tI r.2.1] else []) ++ (if r.2.2.2 = 1 then [tS "ups"] else [])))
theorem rule_words {r : TRule} (F : RuleF r) : v_rule_text r = tJoin (tS " ") (rW r) := by
  obtain ⟨w, m, k, u⟩ := r
  obtain ⟨_, hm, hk, _, hu⟩ := F
  dsimp only at hm hk hu
  unfold v_rule_text c_rule_text rW
  dsimp only [letC, Ctl.get]
  by_cases h1 : w = Wd.passes <;> by_cases h2 : 0 < m <;> rcases hu with rfl | rfl <;> simp [h1, h2]
theorem tW_inj {a b : Wd} (h : tW a = tW b) : a = b := Wd.val_inj (congrArg (fun t : Tx => t.1) h)
theorem rest_M {m u : Int} (hm : 0 ≤ m ∧ m ≤ 5) (hu : u = 0 ∨ u = 1) : ruM ((if 0 < m then [tS "most", tI m] else []) ++ (if u = 1 then [tS "ups"] else [])) = (some m, if u = 1 then [tS "ups"] else []) := by
  obtain ⟨m1, m2⟩ := num1 (i := m) hm.1 (by omega)
  by_cases h2 : 0 < m
  · rcases hu with rfl | rfl <;> simp [ruM, h2, m1]
  · have : m = 0 := by omega
    subst this
    rcases hu with rfl | rfl <;> simp [ruM]
theorem len_rW {r : TRule} (F : RuleF r) : ((rW r).map Tx.len).sum + (rW r).length ≤ 100000 ∧ ∀ q ∈ rW r, clean q = true := by
  obtain ⟨w, m, k, u⟩ := r
  obtain ⟨hw, hm, hk, hn, hu⟩ := F
  dsimp only at hm hk hn hu
  have lw := len_W w
  have lm := len_I (i := m) hm.1 (by omega)
  have lk := len_I (i := k) hk.1 (by omega)
  have c1 := clean_I (i := m) hm.1 (by omega)
  have c2 := clean_I (i := k) hk.1 (by omega)
  unfold rW
  dsimp only
  constructor
  · (repeat' split) <;> simp only [List.map_append, List.map_cons, List.map_nil, List.sum_append, List.sum_cons, List.sum_nil, List.length_append, List.length_cons, List.length_nil, List.nil_append, List.cons_append, l_most, l_ups] <;> omega
  · intro q hq
    rcases List.mem_cons.mp hq with rfl | hq
    · exact clean_W w
    rcases List.mem_append.mp hq with h | h
    · split at h
      · rw [List.mem_singleton.mp h]; exact c2
      · cases h
    rcases List.mem_append.mp h with h | h
    · split at h
      · simp only [List.mem_cons, List.not_mem_nil, or_false] at h
        rcases h with rfl | rfl
        · decide +kernel
        · exact c1
      · cases h
    · split at h
      · rw [List.mem_singleton.mp h]; decide +kernel
      · cases h

abbrev RawR := Tx × Option Int × Option Int × Int
def upsT (l : List Tx) : Int := if tS "ups" ∈ l then 1 else 0
def rawR (ws : List Tx) : RawR := match ws with
  | w0 :: l => (w0, (ruM (ruK w0 l).2).1, (ruK w0 l).1, upsT (ruM (ruK w0 l).2).2)
  | [] => (tZ, none, none, 0)
def eRaw (x : RawR) : D := .tup [.str x.1.1, eO D.int x.2.1, eO D.int x.2.2.1, .int x.2.2.2]
theorem ups01 (ws : List Tx) : (rawR ws).2.2.2 = 0 ∨ (rawR ws).2.2.2 = 1 := by
  cases ws with
  | nil => exact .inl rfl
  | cons w l =>
    show upsT _ = 0 ∨ upsT _ = 1
    unfold upsT
    split
    · exact .inr rfl
    · exact .inl rfl
theorem frz_raw (n : Nat) (h : Hh) (x : RawR) : frzD n h (eRaw x) = some (eRaw x) := by
  obtain ⟨w, a, b, u⟩ := x
  cases a <;> cases b <;> rfl
theorem raw_run (ws : List Tx) (hw : ws ≠ []) (hn : ∀ x ∈ ws, NumB x 1) (h : Hh) : F_rule_in [.lst (ws.map eX)] h = .ok (eRaw (rawR ws)) h := by
  cases ws with
  | nil => exact absurd rfl hw
  | cons w0 l =>
    obtain ⟨g, e⟩ := ru_run w0 l (fun x m => hn x (List.mem_cons_of_mem _ m)) h
    exact frzF_of (g := g) (d := eRaw (rawR (w0 :: l))) e (frz_raw _ _ _)
def oB (o : Option Int) (hi : Int) : Bool := match o with
  | some i => decide (0 ≤ i) && decide (i ≤ hi)
  | none => false
def ruleWs : List Wd := [.rows, .readers, .writers, .turns, .passes]
def isR (x : RawR) : Bool := decide (x.1 ∈ ruleWs.map tW) && (oB x.2.1 5 && oB x.2.2.1 9) && (decide (x.1 = tW .passes) || decide (x.2.2.1 = some 0))
theorem between_non' (a b : D) (h : Hh) : F_is_between [.non, a, b] h = .ok (.bl false) h := by
  refine frz_bl ?_
  unfold b_is_between
  simp (decide := true) [kit_all]
theorem bet_int (i lo hi : Int) (h : Hh) : F_is_between [.int i, .int lo, .int hi] h = .ok (.bl (decide (lo ≤ i) && decide (i ≤ hi))) h := by
  have e : v_is_between i lo hi = (decide (lo ≤ i) && decide (i ≤ hi)) := by
    unfold v_is_between c_is_between
    simp [Ctl.get, letC]
  rw [← e]
  exact t_is_between i lo hi h
theorem bet_raw (o : Option Int) (hi : Int) (h : Hh) : F_is_between [eO D.int o, .int 0, .int hi] h = .ok (.bl (oB o hi)) h := by
  cases o with
  | none => exact between_non' _ _ _
  | some i => exact bet_int i 0 hi h
theorem isrule_raw (x : RawR) (hu : x.2.2.2 = 0 ∨ x.2.2.2 = 1) (h : Hh) : F_is_rule [eRaw x] h = .ok (.bl (isR x)) h := by
  obtain ⟨w, a, b, u⟩ := x
  have e1 : ∀ h, inO true (.str w.1) c_WORDS h = some (.bl (!decide (w ∈ ruleWs.map tW))) := fun h => o_ninS eX w (ruleWs.map tW) (h := h)
  have e2 := fun h => bet_raw a 5 h
  have e3 := fun h => bet_raw b 9 h
  have e4 : ∀ h, F_is_between [.int u, .int 0, .int 1] h = .ok (.bl true) h := fun h => by
    have := bet_int u 0 1 h
    rcases hu with hu | hu
    · have hu : u = 0 := hu
      subst hu; exact this
    · have hu : u = 1 := hu
      subst hu; exact this
  have e5 : ∀ h, eqO (.str w.1) c_PASSES h = some (.bl (decide (w = tW .passes))) := fun h => o_eq eX w (tW .passes) (h := h)
  have e6 : ∀ h, eqO (eO D.int b) (.int 0) h = some (.bl (decide (b = some 0))) := fun h => o_eq (eO D.int) b (some 0) (h := h)
  unfold isR eRaw
  dsimp only
  generalize eO D.int a = da at e2
  generalize eO D.int b = db at e3 e6
  refine frz_bl ?_
  unfold b_is_rule
  cases c1 : decide (w ∈ ruleWs.map tW) with
  | false =>
    rw [c1] at e1
    simp (decide := true) [kit_tuple, kit_str, e1]
  | true =>
    rw [c1] at e1
    cases c2 : oB a 5 with
    | false =>
      rw [c2] at e2
      simp (decide := true) [kit_tuple, kit_str, e1, show c_MOST_READERS = D.int 5 from rfl, e2]
    | true =>
      rw [c2] at e2
      cases c3 : oB b 9 with
      | false =>
        rw [c3] at e3
        simp (decide := true) [kit_tuple, kit_str, e1, show c_MOST_READERS = D.int 5 from rfl, show c_MOST_PASSES = D.int 9 from rfl, e2, e3]
      | true =>
        rw [c3] at e3
        cases c4 : decide (w = tW .passes) with
        | true =>
          rw [c4] at e5
          simp (decide := true) [kit_tuple, kit_str, e1, show c_MOST_READERS = D.int 5 from rfl, show c_MOST_PASSES = D.int 9 from rfl, e2, e3, e4, e5]
        | false =>
          rw [c4] at e5
          simp (decide := true) [kit_tuple, kit_str, e1, show c_MOST_READERS = D.int 5 from rfl, show c_MOST_PASSES = D.int 9 from rfl, e2, e3, e4, e5, e6]
def ruR (x : RawR) : TRule := (wOf x.1, x.2.1.getD default, x.2.2.1.getD default, x.2.2.2)
noncomputable def readB (t : Tx) : Bool := isR (rawR (tSplit t (tS " "))) && decide (v_rule_text (ruR (rawR (tSplit t (tS " ")))) = t)
theorem isR_rule {x : RawR} (hu : x.2.2.2 = 0 ∨ x.2.2.2 = 1) (h : isR x = true) : eRaw x = eT4 eW D.int D.int D.int (ruR x) ∧ (0 ≤ (ruR x).2.1 ∧ (ruR x).2.1 ≤ 5) ∧ (0 ≤ (ruR x).2.2.1 ∧ (ruR x).2.2.1 ≤ 9) ∧ ((ruR x).2.2.2 = 0 ∨ (ruR x).2.2.2 = 1) ∧ (ruR x).1 ∈ ruleWs ∧ ((ruR x).1 = .passes ∨ (ruR x).2.2.1 = 0) := by
  obtain ⟨w, a, b, u⟩ := x
  unfold isR at h
  simp only [Bool.and_eq_true, Bool.or_eq_true, decide_eq_true_eq] at h
  obtain ⟨⟨h1, h2, h3⟩, h4⟩ := h
  cases a with
  | none => cases h2
  | some a =>
    cases b with
    | none => cases h3
    | some b =>
      have h2 : (decide (0 ≤ a) && decide (a ≤ 5)) = true := h2
      have h3 : (decide (0 ≤ b) && decide (b ≤ 9)) = true := h3
      simp only [Bool.and_eq_true, decide_eq_true_eq] at h2 h3
      obtain ⟨v, hv, rfl⟩ := List.mem_map.mp h1
      have e : ruR (tW v, some a, some b, u) = (v, a, b, u) := by
        unfold ruR
        rw [wOf_tW]; rfl
      rw [e]
      refine ⟨rfl, h2, h3, hu, hv, ?_⟩
      rcases h4 with h4 | h4
      · left
        have := congrArg wOf h4
        rw [wOf_tW, wOf_tW] at this
        exact this
      · exact .inr (Option.some.inj h4)
theorem rule_dR {r : TRule} (hm : 0 ≤ r.2.1 ∧ r.2.1 ≤ 9) (hk : 0 ≤ r.2.2.1 ∧ r.2.2.1 ≤ 9) : d_rule_text r := by
  obtain ⟨w, m, k, u⟩ := r
  dsimp only at hm hk
  have lm := len_I (i := m) hm.1 (by omega)
  have lk := len_I (i := k) hk.1 (by omega)
  have lw := len_W w
  have gm := log_I (i := m) hm.1 (by omega)
  have gk := log_I (i := k) hk.1 (by omega)
  have l_most : (tS "most").len = 4 := by decide +kernel
  have l_ups : (tS "ups").len = 3 := by decide +kernel
  have l_sp : (tS " ").len = 1 := by decide +kernel
  unfold d_rule_text
  dsimp only [letC]
  refine ⟨fun _ => ⟨gk, by simp⟩, fun _ => ⟨gm, ?_⟩, fun _ => ?_, ?_⟩
  · split <;> simp
  · (repeat' split) <;> simp
  · unfold JoinB
    (repeat' split) <;> simp only [List.map_append, List.map_cons, List.map_nil, List.sum_append, List.sum_cons, List.sum_nil, List.length_append, List.length_cons, List.length_nil, l_most, l_ups, l_sp] <;> omega
theorem split_src {t : Tx} (ks : SplB t (tS " ")) (env : DEnv) (h : Hh) (e : env[0]? = some (some (.str t.1))) : aSplit (eSlot 0) (eC (.str " ")) env h = .ok ((tSplit t (tS " ")).map eX) h := by
  rw [ev_split (a := t) (b := tS " ") (by unfold eSlot; rw [e]; rfl) rfl ks]
theorem fitsN_row : fitsN "nothing is written in row " := by unfold fitsN; exact ⟨by decide +kernel, by decide +kernel⟩
abbrev xNoRow : Exn := ⟨"NoText", some ("row", .non)⟩
theorem mkNoRow (h : Hh) : k_mkI "NoText" "row" "nothing is written in row " (.ok .non h) = .ok xNoRow h := ev_k_mkIN _ _ _ _ fitsN_row
theorem split_ne (t s : Tx) : tSplit t s ≠ [] := by
  unfold tSplit
  intro z
  have := List.map_eq_nil_iff.mp z
  unfold Txt.split at this
  split at this
  · cases this
  · split at this
    · cases this
    · rw [PySem.StrLaws.partsBetween_eq] at this
      obtain ⟨p, r, e⟩ := PySem.StrLaws.partsFrom_ne t.1 s.1.length 0 _
      rw [e] at this
      cases this
theorem read_any {t : Tx} (ks : SplB t (tS " ")) (nb : ∀ x ∈ tSplit t (tS " "), NumB x 1) (h : Hh) :
    (readB t = true → F_read_rule [.str t.1] h = .ok (eT4 eW D.int D.int D.int (ruR (rawR (tSplit t (tS " "))))) h) ∧ (readB t = false → F_read_rule [.str t.1] h = .err xNoRow h) := by
  have e0 := split_src ks [some (.str t.1), none] h rfl
  have e1 := raw_run (tSplit t (tS " ")) (split_ne _ _) nb h
  have hu := ups01 (tSplit t (tS " "))
  generalize hx : rawR (tSplit t (tS " ")) = x at e1 hu
  have e2 := isrule_raw x hu h
  unfold readB
  rw [hx]
  cases c1 : isR x with
  | false =>
    rw [c1] at e2
    refine ⟨fun z => (by cases z), fun _ => frz_err ?_⟩
    rw [ev_run1]
    unfold b_read_rule
    simp (decide := true) [kit_str, e0, e1, e2, mkNoRow]
  | true =>
    rw [c1] at e2
    obtain ⟨er, hm, hk, _⟩ := isR_rule hu c1
    rw [er] at e1 e2
    have e3 := t_rule_text (ruR x) h (rule_dR ⟨hm.1, by omega⟩ hk)
    have e4 : ∀ h, neO (.str (v_rule_text (ruR x)).1) (.str t.1) h = some (.bl (!decide (v_rule_text (ruR x) = t))) := fun h => o_ne eX (v_rule_text (ruR x)) t (h := h)
    have fz : ∀ h : Hh, ∀ n, frzD n h (eT4 eW D.int D.int D.int (ruR x)) = some (eT4 eW D.int D.int D.int (ruR x)) := fun h n => rfl
    generalize eT4 eW D.int D.int D.int (ruR x) = dr at e1 e2 e3 fz
    have e3 : F_rule_text [dr] h = .ok (.str (v_rule_text (ruR x)).1) h := e3
    generalize v_rule_text (ruR x) = rt at e3 e4 ⊢
    cases c2 : decide (rt = t) with
    | true =>
      rw [c2] at e4
      refine ⟨fun _ => frzF_of (g := []) (d := dr) ?_ (fz _ _), fun z => (by simp at z)⟩
      rw [List.append_nil, ev_run1]
      unfold b_read_rule
      simp (decide := true) [kit_str, e0, e1, e2, e3, e4]
    | false =>
      rw [c2] at e4
      refine ⟨fun z => (by simp at z), fun _ => frz_err ?_⟩
      rw [ev_run1]
      unfold b_read_rule
      simp (decide := true) [kit_str, e0, e1, e2, e3, e4, mkNoRow]

theorem join_parts (y : Str) : ∀ ps : List Str, ∀ p ∈ ps, p.length ≤ (Str.join y ps).length ∧ ∀ c ∈ p.cps.toList, c ∈ (Str.join y ps).cps.toList
  | [], p, h => nomatch h
  | [x], p, h => by rw [List.mem_singleton.mp h]; exact ⟨Nat.le_refl _, fun c hc => hc⟩
  | x :: z :: r, p, h => by
    have e : Str.join y (x :: z :: r) = x ++ y ++ Str.join y (z :: r) := rfl
    rw [e]
    have el : (x ++ y ++ Str.join y (z :: r)).length = x.length + y.length + (Str.join y (z :: r)).length := by rw [Str.length_append, Str.length_append]
    have em : (x ++ y ++ Str.join y (z :: r)).cps.toList = x.cps.toList ++ y.cps.toList ++ (Str.join y (z :: r)).cps.toList := by
      show (x.cps ++ y.cps ++ (Str.join y (z :: r)).cps).toList = _
      rw [Array.toList_append, Array.toList_append]
    rw [el, em]
    rcases List.mem_cons.mp h with rfl | h
    · exact ⟨by omega, fun c hc => List.mem_append_left _ (List.mem_append_left _ hc)⟩
    · obtain ⟨a, b⟩ := join_parts y (z :: r) p h
      exact ⟨by omega, fun c hc => List.mem_append_right _ (b c hc)⟩
theorem join_count (y : Str) (hy : 1 ≤ y.length) : ∀ ps : List Str, ps.length ≤ (Str.join y ps).length + 1
  | [] => Nat.zero_le _
  | [x] => by simp
  | x :: z :: r => by
    have e : Str.join y (x :: z :: r) = x ++ y ++ Str.join y (z :: r) := rfl
    have := join_count y hy (z :: r)
    rw [e, Str.length_append, Str.length_append]
    simp only [List.length_cons] at this ⊢
    omega
theorem spl_any (t s : Tx) (hs : 1 ≤ s.len) (hl : t.len ≤ 100000) : SplB t s ∧ (∀ x ∈ tSplit t s, x.len ≤ t.len) ∧ (tSplit t s).length ≤ t.len + 1 := by
  have ej := PySem.StrLaws.join_split t.1 s.1
  have jp := join_parts s.1 (Txt.split t.1 s.1)
  have jc := join_count s.1 hs (Txt.split t.1 s.1)
  rw [ej] at jp jc
  have ok : ∀ p ∈ Txt.split t.1 s.1, PyData.strOk p = true := fun p hp => ok_iff.mpr fun c hc => ok_iff.mp t.2 c ((jp p hp).2 c hc)
  refine ⟨⟨?_, by omega, ok⟩, fun x hx => ?_, ?_⟩
  · rw [beq_eq_false_iff_ne]
    omega
  · obtain ⟨p, hp, rfl⟩ := List.mem_map.mp hx
    have e : (tOf p).1 = p := by
      unfold tOf
      rw [dif_pos (ok p hp)]
    show (tOf p).1.length ≤ t.1.length
    rw [e]
    exact (jp p hp).1
  · unfold tSplit
    rw [List.length_map]
    exact jc

theorem numB1 (x : Tx) (hl : x.len ≤ 640) : NumB x 1 := by
  refine ⟨hl, fun c => ?_⟩
  rw [Bool.and_eq_true, Bool.and_eq_true] at c
  obtain ⟨⟨c1, c2⟩, c3⟩ := c
  have c1 := of_decide_eq_true c1
  have c2 := of_decide_eq_true c2
  have hs : x.1.cps.toList.length = 1 := by
    rw [Array.length_toList]
    have e : x.len = x.1.cps.size := rfl
    omega
  obtain ⟨k, hk⟩ := List.length_eq_one_iff.mp hs
  have e0 : x.1 = ⟨#[k]⟩ := by
    have : x.1.cps = #[k] := by rw [← Array.toList_inj, hk]
    cases hx : x.1 with
    | mk cps => rw [hx] at this; cases this; rfl
  unfold sgOk at c3
  rw [hk] at c3
  have c3 : (decide (k ∈ (("0123456789" : Str)).cps.toList) && true) = true := c3
  rw [Bool.and_true] at c3
  have c3 := of_decide_eq_true c3
  have e1 : (("0123456789" : Str)).cps.toList = [48, 49, 50, 51, 52, 53, 54, 55, 56, 57] := by decide +kernel
  rw [e1] at c3
  rw [e0]
  simp only [List.mem_cons, List.not_mem_nil, or_false] at c3
  rcases c3 with rfl | rfl | rfl | rfl | rfl | rfl | rfl | rfl | rfl | rfl <;> decide +kernel

theorem setN_full {l : List Int} (h : setN l = l.length) : l.Nodup := by
  have key : ∀ (k : Nat), k ≤ l.length → (firstMet (fun i => l.getD i 0) k).length ≤ k ∧ ((firstMet (fun i => l.getD i 0) k).length = k → firstMet (fun i => l.getD i 0) k = l.take k ∧ (l.take k).Nodup) := by
    intro k
    induction k with
    | zero => intro _; exact ⟨Nat.le_refl _, fun _ => ⟨rfl, by simp⟩⟩
    | succ k ih =>
      intro hk
      obtain ⟨i1, i2⟩ := ih (by omega)
      rw [firstMet_succ]
      have e : l.getD k 0 = l[k] := by rw [List.getD_eq_getElem?_getD, List.getElem?_eq_getElem (by omega)]; rfl
      rw [e]
      unfold step_dedup
      by_cases ha : (firstMet (fun i => l.getD i 0) k).any (· == l[k]) = true
      · rw [if_pos ha]
        exact ⟨by omega, fun z => by omega⟩
      · rw [if_neg ha]
        refine ⟨by rw [List.length_append, List.length_singleton]; omega, fun z => ?_⟩
        rw [List.length_append, List.length_singleton] at z
        obtain ⟨j1, j2⟩ := i2 (by omega)
        rw [j1] at ha ⊢
        rw [List.take_succ_eq_append_getElem (by omega)]
        refine ⟨rfl, List.nodup_append.mpr ⟨j2, by simp, fun a ha2 b hb => ?_⟩⟩
        rw [List.mem_singleton.mp hb]
        intro q
        exact ha (List.any_eq_true.mpr ⟨a, ha2, by simp [q]⟩)
  have := (key l.length (Nat.le_refl _)).2 h
  rw [List.take_length] at this
  exact this.2
theorem sq_nx {a b : MS} {env env1 : DEnv} {h h1 : Hh} (e : a env h = .nx env1 h1) : sSeq a b env h = b env1 h1 := by
  unfold sSeq
  rw [e]; rfl
theorem tx_join_split (t s : Tx) : tJoin s (tSplit t s) = t := by
  have ej := PySem.StrLaws.join_split t.1 s.1
  have jp := join_parts s.1 (Txt.split t.1 s.1)
  rw [ej] at jp
  apply Tx.ext
  show Str.join s.1 ((tSplit t s).map fun x : Tx => x.1) = t.1
  have e : (tSplit t s).map (fun x : Tx => x.1) = Txt.split t.1 s.1 := by
    unfold tSplit
    rw [List.map_map]
    refine (List.map_congr_left fun p hp => ?_).trans (List.map_id _)
    show (tOf p).1 = p
    unfold tOf
    rw [dif_pos (ok_iff.mpr fun c hc => ok_iff.mp t.2 c ((jp p hp).2 c hc))]
  rw [e, ej]

abbrev RawE := Option (Option Int × Tx × Option Int × Option Int)
def eRawE : RawE → D
  | none => .non
  | some e => .tup [eO D.int e.1, .str e.2.1.1, eO D.int e.2.2.1, eO D.int e.2.2.2]
def rawE (ws : List Tx) : RawE := match ws with
  | [a, b, c, d] => some (numT a 1, b, numT c 3, if d = tS "-" then none else numT d 1)
  | _ => none
theorem wait_raw {t : Tx} (ks : SplB t (tS " ")) (nb : ∀ x ∈ tSplit t (tS " "), NumB x 1 ∧ NumB x 3) (h : Hh) : F_wait_in [.str t.1] h = .ok (eRawE (rawE (tSplit t (tS " ")))) h := by
  have e0 : aSplit (eSlot 0) (eC (.str " ")) [some (.str t.1), none, none] h = .ok ((tSplit t (tS " ")).map eX) h := split_src ks _ h rfl
  have n1 : ∀ x ∈ tSplit t (tS " "), ∀ h, F_number_in [.str x.1, .int 1] h = .ok (eO D.int (numT x 1)) h := fun x m h => t_number_in x 1 h (nb x m).1
  have n3 : ∀ x ∈ tSplit t (tS " "), ∀ h, F_number_in [.str x.1, .int 3] h = .ok (eO D.int (numT x 3)) h := fun x m h => t_number_in x 3 h (nb x m).2
  have e2 : ∀ (m : Tx) h, neO (.str m.1) c_NO_END h = some (.bl (!decide (m = tS "-"))) := fun m h => o_ne eX m (tS "-") (h := h)
  have hx : ∀ m : Tx, eX m = D.str m.1 := fun _ => rfl
  show runF 1 N_wait_in b_wait_in [.str t.1] h = _
  rw [ev_run1]
  unfold b_wait_in
  generalize tSplit t (tS " ") = ws at e0 n1 n3
  match ws, e0, n1, n3 with
  | [], e0, n1, n3 => simp [e0]; rfl
  | [a], e0, n1, n3 => simp [e0]; rfl
  | [a, b], e0, n1, n3 => simp [e0]; rfl
  | [a, b, c], e0, n1, n3 => simp [e0]; rfl
  | [a, b, c, d], e0, n1, n3 =>
    have na := n1 a (by simp)
    have nd := n1 d (by simp)
    have nc := n3 c (by simp)
    have ed := e2 d h
    by_cases hd : d = tS "-"
    · rw [decide_eq_true hd] at ed
      have er : rawE [a, b, c, d] = some (numT a 1, b, numT c 3, none) := by
        show some (numT a 1, b, numT c 3, if d = tS "-" then none else numT d 1) = _
        rw [if_pos hd]
      rw [er]
      simp [e0, hx, na, nc, nd, ed, eRawE]; rfl
    · rw [decide_eq_false hd] at ed
      have er : rawE [a, b, c, d] = some (numT a 1, b, numT c 3, numT d 1) := by
        show some (numT a 1, b, numT c 3, if d = tS "-" then none else numT d 1) = _
        rw [if_neg hd]
      rw [er]
      simp [e0, hx, na, nc, nd, ed, eRawE]
  | a :: b :: c :: d :: x :: r, e0, n1, n3 =>
    have hl : ¬ ((r.length : Int) + 1 + 1 + 1 + 1 + 1 = 4) := by omega
    simp [e0, hl]; rfl
def oLf (o : Option Int) : Bool := match o with
  | none => true
  | some i => decide (1 ≤ i) && decide (i ≤ 9)
def isEB (n : Int) : RawE → Bool
  | none => false
  | some e => (oB e.1 (n - 1) && decide (e.2.1 ∈ [tS "read", tS "write"])) && (oB e.2.2.1 999 && oLf e.2.2.2)
theorem left_raw (o : Option Int) (h : Hh) : F_is_left [eO D.int o] h = .ok (.bl (oLf o)) h := by
  refine frzF_of (g := []) (d := .bl _) ?_ rfl
  rw [List.append_nil, ev_run1]
  unfold b_is_left
  cases o with
  | none => rfl
  | some i =>
    have := bet_int i 1 9 h
    have nn : isNO false (.int i) .non h = some (.bl false) := rfl
    show outR _ = _
    simp [eO, this, nn, oLf]
theorem one_raw (w : Tx) (ps : List Tx) (h : Hh) : F_is_one_of [.str w.1, .tup (ps.map eX)] h = .ok (.bl (decide (w ∈ ps))) h := by
  have ei : inO false (.str w.1) (.tup (ps.map eX)) h = some (.bl (decide (w ∈ ps))) := o_inS eX w ps (h := h)
  refine frzF_of (g := []) (d := .bl _) ?_ rfl
  rw [List.append_nil, ev_run2]
  unfold b_is_one_of
  simp [kit_str, ei]
theorem entry_raw (n : Int) (e : RawE) (h : Hh) : F_is_entry [.int n, eRawE e] h = .ok (.bl (isEB n e)) h := by
  refine frzF_of (g := []) (d := .bl _) ?_ rfl
  rw [List.append_nil, ev_run2]
  unfold b_is_entry
  cases e with
  | none => rfl
  | some e =>
    obtain ⟨g, w, m, l⟩ := e
    have b1 := bet_raw g (n - 1) h
    have b2 := one_raw w [tS "read", tS "write"] h
    have b2 : F_is_one_of [.str w.1, .tup [.str "read", .str "write"]] h = .ok (.bl (decide (w ∈ [tS "read", tS "write"]))) h := b2
    have b3 := bet_raw m 999 h
    have b4 := left_raw l h
    have i1 : isiO [.tup [eO D.int g, .str w.1, eO D.int m, eO D.int l], .glb (.ty "tuple")] h = some (.bl true) := rfl
    unfold eRawE isEB
    dsimp only
    generalize eO D.int g = dg at b1 i1 ⊢
    generalize eO D.int m = dm at b3 i1 ⊢
    generalize eO D.int l = dl at b4 i1 ⊢
    cases c1 : oB g (n - 1) <;> rw [c1] at b1
    · simp [kit_tuple, b1]
    cases c2 : decide (w ∈ [tS "read", tS "write"]) <;> rw [c2] at b2
    · simp [kit_tuple, b1, b2]
    cases c3 : oB m 999 <;> rw [c3] at b3
    · simp [kit_tuple, b1, b2, b3]
    · simp [kit_tuple, b1, b2, b3, b4]
theorem comp_mapE {α : Type} {T : Tg} {e : ME} {env : DEnv} {h : Hh} {enc f : α → D} : ∀ xs : List α, (∀ x ∈ xs, ∃ env', bindT T (enc x) env = some env' ∧ e env' h = .ok (f x) h) → compL none T (fun _ h => .ok true h) e env (xs.map enc) h = .ok (xs.map f) h
  | [], _ => ev_comp_nil _ _ _ _ _
  | x :: xs, hd => by
    have ih := comp_mapE (T := T) (e := e) (env := env) (h := h) (enc := enc) (f := f) xs fun d m => hd d (List.mem_cons_of_mem _ m)
    obtain ⟨env', e0, e1⟩ := hd x List.mem_cons_self
    rw [List.map_cons, ev_comp_cons, e0, ev_k_c0, ev_bind_ok, ev_k_c11, e1, ev_bind_ok, ev_k_c2, ih, ev_bind_ok, ev_k_cons']
    rfl
theorem frz_comp {mi : MI} {T : Tg} {t : MT} {e : ME} {vs : List Nat} {env : DEnv} {h h1 h2 : Hh} {src : Src} {xs : List D} (hs : mi env h = .ok src h1) (hc : compL src.live T t e (wipeE env vs) src.items h1 = .ok xs h2) : eFrz (aComp mi T t e vs) env h = .ok (.lst xs) h2 := by
  unfold eFrz aComp
  rw [hs, bind_ok, hc]; rfl
theorem all_bl (bs : List Bool) (h : Hh) : allO [.lst (bs.map D.bl)] h = some (.bl (bs.all id)) := by
  have := o_all (fun b : Bool => b) bs h
  rw [List.map_id'] at this
  exact this
abbrev plT : List Tx := PlW.map tW
def eRm (ws : List Tx) (es : List RawE) : D := .tup [.tup (ws.map eX), .tup (es.map eRawE)]
theorem waits_bad {n : Int} {ws : D} {es : List RawE} (hb : es.all (isEB n) = false) (h : Hh) : F_are_waits [.int n, ws, .tup (es.map eRawE)] h = .ok (.bl false) h := by
  refine frzF_of (g := []) (d := .bl _) ?_ rfl
  rw [List.append_nil, ev_run3]
  show outR (b_are_waits [some (.int n), some ws, some (.tup (es.map eRawE)), none, none, none] h) = _
  have ec : eFrz (aComp (iOf (eSlot 2)) (.name 4) (fun _ h => .ok true h) (eCall F_is_entry (aCons (eSlot 0) (aCons (eSlot 4) aNil))) [4]) [some (.int n), some ws, some (.tup (es.map eRawE)), none, none, none] h = .ok (.lst ((es.map (isEB n)).map D.bl)) h := by
    refine frz_comp (src := ⟨es.map eRawE, none⟩) (h1 := h) rfl ?_
    rw [List.map_map]
    refine comp_mapE es fun x _ => ⟨[some (.int n), some ws, some (.tup (es.map eRawE)), none, some (eRawE x), none], rfl, ?_⟩
    exact entry_raw n x h
  have ea := all_bl (es.map (isEB n)) h
  have e3 : (es.map (isEB n)).all id = false := by rw [List.all_map]; exact hb
  rw [e3] at ea
  have i1 : isiO [.tup (es.map eRawE), .glb (.ty "tuple")] h = some (.bl true) := rfl
  unfold b_are_waits
  generalize eFrz (aComp (iOf (eSlot 2)) (.name 4) (fun _ h => .ok true h) (eCall F_is_entry (aCons (eSlot 0) (aCons (eSlot 4) aNil))) [4]) = E at ec ⊢
  generalize D.lst ((es.map (isEB n)).map D.bl) = bl at ec ea
  simp [kit_tuple, ec, ea]

theorem room_bad {n : Nat} {ws : List Tx} {es : List RawE} (hn : ws.length = n) (h : Hh) (hb : (ws.all fun w => decide (w ∈ plT)) = false ∨ es.all (isEB n) = false) : F_is_room [.int n, eRm ws es] h = .ok (.bl false) h := by
  refine frzF_of (g := []) (d := .bl _) ?_ rfl
  rw [List.append_nil, ev_run2]
  show outR (b_is_room [some (.int n), some (eRm ws es), none] h) = _
  have ix0 : ∀ h, ixA (eRm ws es) (.int 0) h = some (.tup (ws.map eX)) := fun _ => rfl
  have ix1 : ∀ h, ixA (eRm ws es) (.int 1) h = some (.tup (es.map eRawE)) := fun _ => rfl
  have ec : eFrz (aComp (iOf (eOp2 ixA (eSlot 1) (eC (.int 0)))) (.name 2) (fun _ h => .ok true h) (eCall F_is_one_of (aCons (eSlot 2) (aCons (eC c_PLACES) aNil))) [2]) [some (.int n), some (eRm ws es), none] h = .ok (.lst ((ws.map fun w => decide (w ∈ plT)).map D.bl)) h := by
    refine frz_comp (src := ⟨ws.map eX, none⟩) (h1 := h) rfl ?_
    rw [List.map_map]
    refine comp_mapE ws fun x _ => ⟨[some (.int n), some (eRm ws es), some (eX x)], rfl, ?_⟩
    exact one_raw x plT h
  have ea := all_bl (ws.map fun w => decide (w ∈ plT)) h
  have e3 : (ws.map fun w => decide (w ∈ plT)).all id = ws.all fun w => decide (w ∈ plT) := by rw [List.all_map]; rfl
  rw [e3] at ea
  have l0 : ∀ h, lenO [.tup (ws.map eX)] h = some (.int n) := fun h => by
    show some (D.int (((ws.map eX).length : Nat) : Int)) = _
    rw [List.length_map, hn]
  have l2 : ∀ h, lenO [eRm ws es] h = some (.int 2) := fun h => rfl
  have i1 : ∀ h, isiO [eRm ws es, .glb (.ty "tuple")] h = some (.bl true) := fun _ => rfl
  have i2 : ∀ h, isiO [.tup (ws.map eX), .glb (.ty "tuple")] h = some (.bl true) := fun _ => rfl
  have nn : neO (.int n) (.int n) h = some (.bl false) := by
    have := o_ne D.int (n : Int) n (h := h)
    rw [decide_eq_true rfl] at this
    exact this
  have wb : es.all (isEB n) = false → F_are_waits [.int n, .tup (ws.map eX), .tup (es.map eRawE)] h = .ok (.bl false) h := fun z => waits_bad z h
  unfold b_is_room
  generalize eFrz (aComp (iOf (eOp2 ixA (eSlot 1) (eC (.int 0)))) (.name 2) (fun _ h => .ok true h) (eCall F_is_one_of (aCons (eSlot 2) (aCons (eC c_PLACES) aNil))) [2]) = E at ec ⊢
  generalize D.lst ((ws.map fun w => decide (w ∈ plT)).map D.bl) = bl at ec ea
  generalize eRm ws es = rm at ix0 ix1 ec l2 i1 ⊢
  generalize ws.map eX = wd at ix0 l0 i2 wb
  generalize es.map eRawE = ed at ix1 wb
  cases ca : (ws.all fun w => decide (w ∈ plT)) with
  | false =>
    rw [ca] at ea
    simp [-ev_isi, ix0, ix1, l0, l2, i1, i2, nn, ec, ea]
  | true =>
    rw [ca] at ea hb
    have wb := wb (hb.resolve_left (by simp))
    simp [-ev_isi, ix0, ix1, l0, l2, i1, i2, nn, ec, ea, wb]
def toEn (e : RawE) : TEn := match e with
  | some e => (e.1.getD 0, wOf e.2.1, e.2.2.1.getD 0, e.2.2.2)
  | none => default
def rmOf (ws : List Tx) (es : List RawE) : TRoom := (ws.map wOf, es.map toEn)
theorem eb_en {n : Int} {e : RawE} (h : isEB n e = true) : eRawE e = eT4 D.int eW D.int (eO D.int) (toEn e) ∧ (0 ≤ (toEn e).1 ∧ (toEn e).1 < n) ∧ ((toEn e).2.1 = Wd.read ∨ (toEn e).2.1 = Wd.write) ∧ MarkE (toEn e) := by
  cases e with
  | none => cases h
  | some e =>
    obtain ⟨g, w, m, l⟩ := e
    unfold isEB at h
    simp only [Bool.and_eq_true, decide_eq_true_eq] at h
    obtain ⟨⟨h1, h2⟩, h3, h4⟩ := h
    cases g with
    | none => cases h1
    | some g =>
      cases m with
      | none => cases h3
      | some m =>
        have h1 : (decide (0 ≤ g) && decide (g ≤ n - 1)) = true := h1
        have h3 : (decide (0 ≤ m) && decide (m ≤ 999)) = true := h3
        simp only [Bool.and_eq_true, decide_eq_true_eq] at h1 h3
        have hw : ∃ v : Wd, (v = Wd.read ∨ v = Wd.write) ∧ w = tW v := by
          simp only [List.mem_cons, List.not_mem_nil, or_false] at h2
          rcases h2 with rfl | rfl
          · exact ⟨.read, .inl rfl, Tx.ext (by decide +kernel)⟩
          · exact ⟨.write, .inr rfl, Tx.ext (by decide +kernel)⟩
        obtain ⟨v, hv, rfl⟩ := hw
        have e : toEn (some (some g, tW v, some m, l)) = (g, v, m, l) := by
          unfold toEn
          simp only [Option.getD_some, wOf_tW]
        rw [e]
        refine ⟨rfl, ⟨h1.1, by show g < n; omega⟩, hv, h3, ?_⟩
        cases l with
        | none => exact .inl rfl
        | some l =>
          have h4 : (decide (1 ≤ l) && decide (l ≤ 9)) = true := h4
          simp only [Bool.and_eq_true, decide_eq_true_eq] at h4
          exact .inr ⟨l, rfl, h4⟩
theorem pl_words {ws : List Tx} (h : (ws.all fun w => decide (w ∈ plT)) = true) : (ws.map wOf).map tW = ws ∧ ∀ w ∈ ws.map wOf, w ∈ PlW := by
  have : ∀ w ∈ ws, ∃ v ∈ PlW, w = tW v := fun w hw => by
    obtain ⟨v, hv, e⟩ := List.mem_map.mp (of_decide_eq_true (List.all_eq_true.mp h w hw))
    exact ⟨v, hv, e.symm⟩
  constructor
  · rw [List.map_map]
    refine (List.map_congr_left fun w hw => ?_).trans (List.map_id _)
    obtain ⟨v, _, rfl⟩ := this w hw
    show tW (wOf (tW v)) = tW v
    rw [wOf_tW]
  · intro v hv
    obtain ⟨w, hw, rfl⟩ := List.mem_map.mp hv
    obtain ⟨v2, hv2, rfl⟩ := this w hw
    rw [wOf_tW]; exact hv2
theorem rm_eq {n : Int} {ws : List Tx} {es : List RawE} (h : (ws.all fun w => decide (w ∈ plT)) = true) (hb : es.all (isEB n) = true) : eRm ws es = eT2 (eS eW) (eS (eT4 D.int eW D.int (eO D.int))) (rmOf ws es) := by
  unfold eRm rmOf
  show D.tup [_, _] = D.tup [D.tup ((ws.map wOf).map eW), D.tup ((es.map toEn).map _)]
  congr 2
  · congr 1
    rw [List.map_map]
    refine List.map_congr_left fun w hw => ?_
    obtain ⟨v, hv, e⟩ := List.mem_map.mp (of_decide_eq_true (List.all_eq_true.mp h w hw))
    rw [← e]
    show D.str (tW v).1 = D.str (wOf (tW v)).val
    rw [wOf_tW]; rfl
  · congr 2
    rw [List.map_map]
    exact List.map_congr_left fun e he => (eb_en (List.all_eq_true.mp hb e he)).1
theorem left_any (l : Option Int) : d_is_left l := by
  unfold d_is_left
  cases l <;> simp
theorem entry_any (n : Int) (e : TEn) : d_is_entry n e := by
  unfold d_is_entry
  exact fun _ _ _ => left_any _
theorem room_any {n : Nat} {ws : List Tx} {es : List RawE} (hn : ws.length = n) (he : es.length < 64) (h : (ws.all fun w => decide (w ∈ plT)) = true) (hb : es.all (isEB n) = true) : d_is_room n (rmOf ws es) ∧ (v_is_room n (rmOf ws es) = true ↔ RmOk n (rmOf ws es)) ∧ MarkT (rmOf ws es) := by
  obtain ⟨p1, p2⟩ := pl_words h
  have len : (rmOf ws es).1.length = n := by show (ws.map wOf).length = n; rw [List.length_map, hn]
  have M : MarkT (rmOf ws es) := fun e hm => by
    obtain ⟨r, hr, rfl⟩ := List.mem_map.mp (show e ∈ es.map toEn from hm)
    exact (eb_en (List.all_eq_true.mp hb r hr)).2.2.2
  have gs : ∀ e ∈ (rmOf ws es).2, 0 ≤ e.1 ∧ e.1 < n := fun e hm => by
    obtain ⟨r, hr, rfl⟩ := List.mem_map.mp (show e ∈ es.map toEn from hm)
    exact (eb_en (List.all_eq_true.mp hb r hr)).2.1
  have rw' : ∀ e ∈ (rmOf ws es).2, e.2.1 = Wd.read ∨ e.2.1 = Wd.write := fun e hm => by
    obtain ⟨r, hr, rfl⟩ := List.mem_map.mp (show e ∈ es.map toEn from hm)
    exact (eb_en (List.all_eq_true.mp hb r hr)).2.2.1
  have el : (rmOf ws es).2.length = es.length := by show (es.map toEn).length = _; rw [List.length_map]
  have pl : ∀ w ∈ (rmOf ws es).1, w ∈ PlW := p2
  generalize rmOf ws es = m at len M gs rw' el pl ⊢
  have ev : List.all m.2 (fun y : TEn => v_is_entry n y) = true := List.all_eq_true.mpr fun e hm => (entry_eq (gs e hm) (rw' e hm) (M e hm)).1
  have wv : v_are_waits n m.1 m.2 = (decide (((setN (m.2.map fun y : TEn => y.1) : Nat) : Int) = ((m.2.map fun y : TEn => y.1).length : Int)) && List.all (m.2.map fun y : TEn => y.1) (fun g : Int => decide (atZ m.1 g = Wd.out))) := by
    unfold v_are_waits c_are_waits
    dsimp only [letC]
    rw [ev]
    rfl
  have wd : d_are_waits n m.1 m.2 := by
    unfold d_are_waits
    dsimp only [letC]
    refine ⟨fun _ e _ => entry_any n e, fun _ => ⟨by rw [List.length_map, el]; exact he, fun _ g hg => ?_⟩⟩
    obtain ⟨e, hm, rfl⟩ := List.mem_map.mp hg
    have := gs e hm
    exact inR_of this.1 (by rw [len]; exact this.2)
  have all : List.all m.1 (fun y : Wd => v_is_one_of y [Wd.out, Wd.reads, Wd.rising, Wd.writes, Wd.raised]) = true := List.all_eq_true.mpr fun w hw => by
    unfold v_is_one_of c_is_one_of
    show (true && decide (w ∈ [Wd.out, Wd.reads, Wd.rising, Wd.writes, Wd.raised])) = true
    rw [decide_eq_true (show w ∈ [Wd.out, Wd.reads, Wd.rising, Wd.writes, Wd.raised] from pl w hw)]; rfl
  have rv : v_is_room n m = v_are_waits n m.1 m.2 := by
    unfold v_is_room c_is_room
    rw [all, len]
    simp
  refine ⟨?_, ?_, M⟩
  · unfold d_is_room
    exact fun _ _ => wd
  · rw [rv, wv, Bool.and_eq_true, decide_eq_true_iff, List.all_eq_true]
    constructor
    · rintro ⟨a, b⟩
      refine ⟨len, pl, gs, fun e hm => ?_, rw', setN_full (by omega)⟩
      have g := gs e hm
      have h5 := at_atZ (l := m.1) g.1 (by rw [len]; exact g.2)
      rw [h5, of_decide_eq_true (b e.1 (List.mem_map.mpr ⟨e, hm, rfl⟩))]
    · intro R
      refine ⟨by rw [setN_nodup R.nd], fun g hg => ?_⟩
      obtain ⟨e, hm, rfl⟩ := List.mem_map.mp hg
      exact decide_eq_true (atZ_of (R.gs e hm).1 (R.out e hm))

theorem strip_nil (x y : Str) : (Txt.stripChars x y).length = 0 ↔ ∀ c ∈ x.cps.toList, y.cps.contains c = true := by
  have e : Txt.stripChars x y = PySem.Builtin.Str.strSub x (stripLo y.cps.contains true x) (stripHi y.cps.contains true x (stripLo y.cps.contains true x)) := stripBy_eq _ _ _ _
  obtain ⟨a1, a2, a3⟩ := lo_facts y.cps.contains x
  obtain ⟨b1, b2, b3, b4⟩ := hi_facts y.cps.contains x _ a1
  rw [e]
  generalize stripLo y.cps.contains true x = lo at a1 a2 a3 b1 b2 b3 b4 ⊢
  generalize stripHi y.cps.contains true x lo = hi at b1 b2 b3 b4 ⊢
  have es : (PySem.Builtin.Str.strSub x lo hi).length = hi - lo := by
    simp only [PySem.Builtin.Str.strSub, Str.length, Array.size_extract]
    have : hi ≤ x.cps.size := b2
    omega
  rw [es]
  constructor
  · intro z c hc
    obtain ⟨k, hk, ek⟩ := List.getElem_of_mem hc
    have hk2 : k < x.length := by rw [Array.length_toList] at hk; exact hk
    have eg : x.cps.getD k 0 = c := by rw [← getD_list, List.getD_eq_getElem?_getD, List.getElem?_eq_getElem hk, ek]; rfl
    rw [← eg]
    by_cases h : k < lo
    · exact a2 k h
    · exact b3 k (by omega) hk2
  · intro hall
    have at_ : ∀ k, k < x.length → y.cps.contains (x.cps.getD k 0) = true := fun k hk => by
      have hk1 : k < x.cps.toList.length := by rw [Array.length_toList]; exact hk
      rw [← getD_list, List.getD_eq_getElem?_getD, List.getElem?_eq_getElem hk1]
      exact hall _ (List.getElem_mem hk1)
    rcases a3 with h | h
    · omega
    · by_cases hl : lo < x.length
      · rw [at_ lo hl] at h; cases h
      · omega
theorem strip_mem (x y : Str) : ∀ c ∈ (Txt.stripChars x y).cps.toList, c ∈ x.cps.toList := fun c hc => by
  have e : Txt.stripChars x y = PySem.Builtin.Str.strSub x (stripLo y.cps.contains true x) (stripHi y.cps.contains true x (stripLo y.cps.contains true x)) := stripBy_eq _ _ _ _
  rw [e] at hc
  simp only [PySem.Builtin.Str.strSub, Array.toList_extract] at hc
  exact List.mem_of_mem_drop (List.mem_of_mem_take hc)
theorem dig_mem (c : Nat) : (("0123456789" : Str)).cps.contains c = decide (c ∈ (("0123456789" : Str)).cps.toList) := by
  rw [Array.contains_eq_mem]
  simp
/-- whether nothing is left of a text when figures are taken off its ends -/
theorem strip_eq (t : Tx) (h : Hh) : neO (.str (Txt.stripChars t.1 "0123456789")) (.str "") h = some (.bl (!sgOk t)) := by
  have ok : PyData.strOk (Txt.stripChars t.1 "0123456789") = true := ok_iff.mpr fun c hc => ok_iff.mp t.2 c (strip_mem _ _ c hc)
  have := o_ne eX (⟨Txt.stripChars t.1 "0123456789", ok⟩ : Tx) (tS "") (h := h)
  refine this.trans ?_
  congr 3
  have hs : sgOk t = true ↔ (Txt.stripChars t.1 "0123456789").length = 0 := by
    rw [strip_nil]
    unfold sgOk
    rw [List.all_eq_true]
    exact ⟨fun z c hc => by rw [dig_mem]; exact z c hc, fun z c hc => by rw [← dig_mem]; exact z c hc⟩
  rw [Bool.eq_iff_iff, decide_eq_true_iff, hs]
  constructor
  · intro z
    have := congrArg Tx.len z
    have e0 : (tS "" : Tx).len = 0 := by decide +kernel
    rw [e0] at this
    exact this
  · intro z
    refine Tx.ext ?_
    have : (Txt.stripChars t.1 "0123456789").cps = #[] := Array.eq_empty_of_size_eq_zero z
    show Txt.stripChars t.1 "0123456789" = (tS "").1
    have e1 : (tS "").1 = ⟨#[]⟩ := by decide +kernel
    rw [e1]
    cases hq : Txt.stripChars t.1 "0123456789" with
    | mk a => rw [hq] at this; cases this; rfl
def iT (t : Tx) : Int := (PySem.intText? t.1).getD 0
def lefT : List Tx := [tS "-", tS "1", tS "2", tS "3", tS "4", tS "5", tS "6", tS "7", tS "8", tS "9"]
def gueT : List Tx := [tS "0", tS "1", tS "2", tS "3", tS "4"]
/-- the first sign of a text -/
def hdT (t : Tx) : Tx := tOf ⟨#[t.1.cps.getD 0 0]⟩
noncomputable def lawE (ws : List Tx) (cs : List Tx) : Option TEn := match cs with
  | [a, b, c, d] =>
    if ((b = tS "read" ∨ b = tS "write") ∧ d ∈ lefT) ∧ (a ∈ gueT.take ws.length ∧ atZ ws (iT a) = tS "out") ∧ (0 < c.len ∧ c.len < 4 ∧ sgOk c = true ∧ ¬ (hdT c = tS "0" ∧ c ≠ tS "0")) then
      some (iT a, wOf b, iT c, if d = tS "-" then none else some (iT d))
    else none
  | _ => none
theorem gue_int : ∀ a ∈ gueT, PySem.intText? a.1 = some (iT a) ∧ a = tI (iT a) ∧ 0 ≤ iT a ∧ iT a ≤ 4 ∧ a.len ≤ 640 := by decide +kernel
theorem gue_take : ∀ n : Nat, n ≤ 5 → ∀ a ∈ gueT.take n, iT a < n := by decide +kernel
theorem lef_int : ∀ d ∈ lefT, d ≠ tS "-" → PySem.intText? d.1 = some (iT d) ∧ d = tI (iT d) ∧ 1 ≤ iT d ∧ iT d ≤ 9 ∧ d.len ≤ 640 := by decide +kernel
/-- short texts of figures -/
def numOk (cs : List Nat) : Bool := match PySem.intText? ⟨cs.toArray⟩ with
  | some v => decide (0 ≤ v) && decide (v ≤ 999) && (decide (cs.getD 0 0 = 48 ∧ cs ≠ [48]) || decide ((tI v).1.cps.toList = cs))
  | none => false
theorem num_tab1 : ∀ i : Nat, i < 10 → numOk [48 + i] = true := by decide +kernel
theorem num_tab2 : ∀ i : Nat, i < 10 → ∀ j : Nat, j < 10 → numOk [48 + i, 48 + j] = true := by decide +kernel
theorem num_tab3 : ∀ i : Nat, i < 10 → ∀ j : Nat, j < 10 → ∀ k : Nat, k < 10 → numOk [48 + i, 48 + j, 48 + k] = true := by decide +kernel
theorem num_any {c : Tx} (h0 : 0 < c.len) (h1 : c.len < 4) (hs : sgOk c = true) : numOk c.1.cps.toList = true := by
  have hd : ∀ x ∈ c.1.cps.toList, ∃ i : Nat, i < 10 ∧ x = 48 + i := fun x hx => by
    have := List.all_eq_true.mp hs x hx
    have e1 : (("0123456789" : Str)).cps.toList = [48, 49, 50, 51, 52, 53, 54, 55, 56, 57] := by decide +kernel
    rw [e1] at this
    have := of_decide_eq_true this
    refine ⟨x - 48, ?_, ?_⟩ <;> (simp only [List.mem_cons, List.not_mem_nil, or_false] at this; omega)
  have hl : c.1.cps.toList.length = c.len := Array.length_toList
  generalize c.1.cps.toList = l at hd hl
  rw [← hl] at h0 h1
  match l, h0, h1, hd with
  | [x], _, _, hd =>
    obtain ⟨i, hi, rfl⟩ := hd x (by simp)
    exact num_tab1 i hi
  | [x, y], _, _, hd =>
    obtain ⟨i, hi, rfl⟩ := hd x (by simp)
    obtain ⟨j, hj, rfl⟩ := hd y (by simp)
    exact num_tab2 i hi j hj
  | [x, y, z], _, _, hd =>
    obtain ⟨i, hi, rfl⟩ := hd x (by simp)
    obtain ⟨j, hj, rfl⟩ := hd y (by simp)
    obtain ⟨k, hk, rfl⟩ := hd z (by simp)
    exact num_tab3 i hi j hj k hk
  | [], h0, _, _ => exact absurd h0 (by decide)
  | _ :: _ :: _ :: _ :: _, _, h1, _ => simp only [List.length_cons] at h1; omega
theorem num_val {c : Tx} (h0 : 0 < c.len) (h1 : c.len < 4) (hs : sgOk c = true) : PySem.intText? c.1 = some (iT c) ∧ 0 ≤ iT c ∧ iT c ≤ 999 ∧ (¬ (c.1.cps.getD 0 0 = 48 ∧ c ≠ tS "0") → c = tI (iT c)) := by
  have h := num_any h0 h1 hs
  unfold numOk at h
  have e : (⟨c.1.cps.toList.toArray⟩ : Str) = c.1 := by rw [Array.toArray_toList]
  rw [e] at h
  unfold iT
  cases hv : PySem.intText? c.1 with
  | none => rw [hv] at h; cases h
  | some v =>
    rw [hv] at h
    simp only [Bool.and_eq_true, Bool.or_eq_true, decide_eq_true_eq] at h
    obtain ⟨⟨g1, g2⟩, g3⟩ := h
    refine ⟨rfl, g1, g2, fun hz => ?_⟩
    rcases g3 with g3 | g3
    · exfalso
      apply hz
      rw [← getD_list]
      refine ⟨g3.1, fun z => g3.2 ?_⟩
      rw [z]; decide +kernel
    · refine Tx.ext ?_
      show c.1 = (tI v).1
      have : (tI v).1.cps = c.1.cps := by rw [← Array.toList_inj]; exact g3
      cases hc : c.1 with
      | mk a =>
        cases ht : (tI v).1 with
        | mk b => rw [hc, ht] at this; cases this; rfl

theorem numB3 (x : Tx) (hl : x.len ≤ 640) : NumB x 3 := by
  refine ⟨hl, fun c => ?_⟩
  rw [Bool.and_eq_true, Bool.and_eq_true] at c
  obtain ⟨⟨c1, c2⟩, c3⟩ := c
  have c1 := of_decide_eq_true c1
  have c2 := of_decide_eq_true c2
  have := (num_val (c := x) (by omega) (by omega) c3).1
  rw [this]; rfl
def ws49 (t : Tx) : List Tx := tSplit ((tSplit t (tS ", ")).headD (tS "")) (tS " ")
def ps49 (t : Tx) : List Tx := (tSplit t (tS ", ")).tail
def es49 (t : Tx) : List RawE := (ps49 t).map fun p => rawE (tSplit p (tS " "))
theorem parts_eq (t : Tx) : tSplit t (tS ", ") = (tSplit t (tS ", ")).headD (tS "") :: ps49 t := by
  have := split_ne t (tS ", ")
  unfold ps49
  cases h : tSplit t (tS ", ") with
  | nil => exact absurd h this
  | cons p r => rfl
theorem len_join_cm : ∀ (p : Tx) (r : List Tx), (tJoin (tS ", ") (p :: r)).len = p.len + (r.map fun x => x.len + 2).sum
  | p, [] => by rw [tx_join1]; rfl
  | p, q :: r => by
    rw [tx_join2, len_app, len_app, l_cm, len_join_cm q r, List.map_cons, List.sum_cons]; omega
theorem len_join_sp : ∀ (p : Tx) (r : List Tx), (tJoin (tS " ") (p :: r)).len = p.len + (r.map fun x => x.len + 1).sum
  | p, [] => by rw [tx_join1]; rfl
  | p, q :: r => by
    rw [tx_join2, len_app, len_app, l_sp, len_join_sp q r, List.map_cons, List.sum_cons]; omega
theorem num_pos {w : Tx} {m : Int} {v : Int} (h : numT w m = some v) : 1 ≤ w.len := by
  unfold numT at h
  split at h
  · rename_i c
    rw [Bool.and_eq_true, Bool.and_eq_true] at c
    have := of_decide_eq_true c.1.1
    omega
  · cases h
theorem oB_pos {w : Tx} {m hi : Int} (h : oB (numT w m) hi = true) : 1 ≤ w.len := by
  cases hv : numT w m with
  | none => rw [hv] at h; cases h
  | some v => exact num_pos hv
/-- what reads as one that waits is no short text -/
theorem eb_long {n : Int} {p : Tx} (h : isEB n (rawE (tSplit p (tS " "))) = true) : 8 ≤ p.len := by
  have e := tx_join_split p (tS " ")
  match hw : tSplit p (tS " "), h with
  | [a, b, c, d], h =>
    unfold isEB rawE at h
    simp only [Bool.and_eq_true, decide_eq_true_eq] at h
    obtain ⟨⟨h1, h2⟩, h3, h4⟩ := h
    have la := oB_pos h1
    have lc := oB_pos h3
    have lb : 4 ≤ b.len := by
      simp only [List.mem_cons, List.not_mem_nil, or_false] at h2
      rcases h2 with rfl | rfl <;> decide +kernel
    rw [hw] at e
    have := len_join_sp a [b, c, d]
    rw [e] at this
    simp only [List.map_cons, List.map_nil, List.sum_cons, List.sum_nil] at this
    omega
  | [], h => cases h
  | [_], h => cases h
  | [_, _], h => cases h
  | [_, _, _], h => cases h
  | _ :: _ :: _ :: _ :: _ :: _, h => cases h
theorem es_few {n : Int} {t : Tx} (hl : t.len ≤ 620) (h : (es49 t).all (isEB n) = true) : (es49 t).length < 64 := by
  have e := tx_join_split t (tS ", ")
  rw [parts_eq] at e
  have l := len_join_cm ((tSplit t (tS ", ")).headD (tS "")) (ps49 t)
  rw [e] at l
  have key : ∀ ps : List Tx, (ps.map fun p => rawE (tSplit p (tS " "))).all (isEB n) = true → 10 * ps.length ≤ (ps.map fun x => x.len + 2).sum := fun ps => by
    induction ps with
    | nil => exact fun _ => Nat.le_refl _
    | cons p ps ih =>
      intro h
      rw [List.map_cons, List.all_cons, Bool.and_eq_true] at h
      have := ih h.2
      have := eb_long h.1
      rw [List.map_cons, List.sum_cons, List.length_cons]; omega
  have := key _ h
  unfold es49
  rw [List.length_map]
  omega
theorem rm49 {n : Nat} {m : TRoom} (R : RmOk n m) (M : MarkT m) (hn : n ≤ 5) : Rm47 m := by
  have len := R.len
  have few := R.few
  refine ⟨by omega, by omega, fun e he => ?_⟩
  have gs := R.gs e he
  obtain ⟨m1, m2⟩ := M e he
  refine ⟨by omega, by omega, fun z => ?_⟩
  rcases m2 with q | ⟨k, q, k1, k2⟩
  · rw [q] at z; cases z
  · rw [q]
    show 0 ≤ k ∧ k < 1000
    omega
noncomputable def readRm (t : Tx) : Option TRoom :=
  if ((ws49 t).length ≤ 5 ∧ ((ws49 t).all fun w => decide (w ∈ plT)) = true ∧ (es49 t).all (isEB (ws49 t).length) = true) ∧ v_is_room (ws49 t).length (rmOf (ws49 t) (es49 t)) = true ∧ v_room_text (rmOf (ws49 t) (es49 t)) = t then some (rmOf (ws49 t) (es49 t)) else none
abbrev eRoom : TRoom → D := eT2 (eS eW) (eS (eT4 D.int eW D.int (eO D.int)))
theorem read_room_any {t : Tx} (hl : t.len ≤ 620) (h : Hh) :
    (∀ m, readRm t = some m → F_read_room [.str t.1] h = .ok (eRoom m) h) ∧ (readRm t = none → F_read_room [.str t.1] h = .err xNoRow h) := by
  obtain ⟨s1, s2, _⟩ := spl_any t (tS ", ") (by decide +kernel) (by omega)
  have pe := parts_eq t
  have pl : ∀ p ∈ tSplit t (tS ", "), p.len ≤ 640 := fun p hp => by have := s2 p hp; omega
  have sp : ∀ p ∈ tSplit t (tS ", "), SplB p (tS " ") ∧ ∀ x ∈ tSplit p (tS " "), NumB x 1 ∧ NumB x 3 := fun p hp => by
    obtain ⟨q1, q2, _⟩ := spl_any p (tS " ") (by decide +kernel) (by have := pl p hp; omega)
    exact ⟨q1, fun x hx => ⟨numB1 x (Nat.le_trans (q2 x hx) (pl p hp)), numB3 x (Nat.le_trans (q2 x hx) (pl p hp))⟩⟩
  have m0 : (tSplit t (tS ", ")).headD (tS "") ∈ tSplit t (tS ", ") := by rw [pe]; simp
  have mp : ∀ p ∈ ps49 t, p ∈ tSplit t (tS ", ") := fun p hp => by rw [pe]; exact List.mem_cons_of_mem _ hp
  have wne : 1 ≤ (ws49 t).length := List.length_pos_iff.mpr (split_ne _ _)
  have e1 : ∀ x1 x2 x3 x4, sAsg (eFrz (aSplit (eSlot 0) (eC (.str ", ")))) (MR.gName 1) [some (.str t.1), x1, x2, x3, x4] h = .nx [some (.str t.1), some (.lst ((tSplit t (tS ", ")).map eX)), x2, x3, x4] h := fun x1 x2 x3 x4 => by
    have : aSplit (eSlot 0) (eC (.str ", ")) [some (.str t.1), x1, x2, x3, x4] h = .ok ((tSplit t (tS ", ")).map eX) h := by
      rw [ev_split (a := t) (b := tS ", ") rfl rfl s1]
    generalize aSplit (eSlot 0) (eC (.str ", ")) = AS at this ⊢
    simp [this]
  have e2 : ∀ x2 x3 x4, sAsg (eOpN tupleO (aCons (eFrz (aSplit (eOp2 ixA (eSlot 1) (eC (.int 0))) (eC (.str " ")))) aNil)) (MR.gName 2) [some (.str t.1), some (.lst ((tSplit t (tS ", ")).map eX)), x2, x3, x4] h = .nx [some (.str t.1), some (.lst ((tSplit t (tS ", ")).map eX)), some (.tup ((ws49 t).map eX)), x3, x4] h := fun x2 x3 x4 => by
    have : aSplit (eOp2 ixA (eSlot 1) (eC (.int 0))) (eC (.str " ")) [some (.str t.1), some (.lst ((tSplit t (tS ", ")).map eX)), x2, x3, x4] h = .ok ((ws49 t).map eX) h := by
      have hd : eOp2 ixA (eSlot 1) (eC (.int 0)) [some (.str t.1), some (.lst ((tSplit t (tS ", ")).map eX)), x2, x3, x4] h = .ok (eX ((tSplit t (tS ", ")).headD (tS ""))) h := by
        have q := o_ixL eX (tSplit t (tS ", ")) 0 (inR_of (by decide) (by have := List.length_pos_iff.mpr (split_ne t (tS ", ")); omega)) h
        have q2 : atZ (tSplit t (tS ", ")) 0 = (tSplit t (tS ", ")).headD (tS "") := by
          cases hh : tSplit t (tS ", ") with
          | nil => exact absurd hh (split_ne _ _)
          | cons a b => rfl
        rw [q2] at q
        show lift (ixA (.lst ((tSplit t (tS ", ")).map eX)) (.int 0) h) h = _
        have q : ixA (.lst ((tSplit t (tS ", ")).map eX)) (.int 0) h = _ := q
        rw [q]; rfl
      rw [ev_split (a := (tSplit t (tS ", ")).headD (tS "")) (b := tS " ") (h1 := h) hd rfl (sp _ m0).1]; rfl
    generalize aSplit (eOp2 ixA (eSlot 1) (eC (.int 0))) (eC (.str " ")) = AS at this ⊢
    simp [this]
  have e3 : ∀ x3 x4, sAsg (eTup (aCons (eSlot 2) (aCons (eOpN tupleO (aCons (eFrz (aComp (iOf (eSlice (eSlot 1) (oSome (eC (.int 1))) oNone)) (.name 4) (fun _ h => .ok true h) (eCall F_wait_in (aCons (eSlot 4) aNil)) [4])) aNil)) aNil))) (MR.gName 3) [some (.str t.1), some (.lst ((tSplit t (tS ", ")).map eX)), some (.tup ((ws49 t).map eX)), x3, x4] h = .nx [some (.str t.1), some (.lst ((tSplit t (tS ", ")).map eX)), some (.tup ((ws49 t).map eX)), some (eRm (ws49 t) (es49 t)), x4] h := fun x3 x4 => by
    have si : iOf (eSlice (eSlot 1) (oSome (eC (.int 1))) oNone) [some (.str t.1), some (.lst ((tSplit t (tS ", ")).map eX)), some (.tup ((ws49 t).map eX)), x3, x4] h = .ok ⟨(ps49 t).map eX, none⟩ h := by
      have q : eSlice (eSlot 1) (oSome (eC (.int 1))) oNone [some (.str t.1), some (.lst ((tSplit t (tS ", ")).map eX)), some (.tup ((ws49 t).map eX)), x3, x4] h = .ok (.lst ((ps49 t).map eX)) h := by
        have : cutG ((tSplit t (tS ", ")).map eX) (some 1) none = (ps49 t).map eX := by
          rw [cutFrom _ (by decide), pe]; rfl
        unfold eSlice
        show lift (sliceO (.lst ((tSplit t (tS ", ")).map eX)) (some 1) none h) h = _
        rw [ev_slL, this]; rfl
      generalize eSlice (eSlot 1) (oSome (eC (.int 1))) oNone = E at q ⊢
      unfold iOf
      rw [q]; rfl
    have ec : eFrz (aComp (iOf (eSlice (eSlot 1) (oSome (eC (.int 1))) oNone)) (.name 4) (fun _ h => .ok true h) (eCall F_wait_in (aCons (eSlot 4) aNil)) [4]) [some (.str t.1), some (.lst ((tSplit t (tS ", ")).map eX)), some (.tup ((ws49 t).map eX)), x3, x4] h = .ok (.lst ((es49 t).map eRawE)) h := by
      refine frz_comp (src := ⟨(ps49 t).map eX, none⟩) (h1 := h) si ?_
      unfold es49
      rw [List.map_map]
      refine comp_mapE (ps49 t) fun x hx => ⟨[some (.str t.1), some (.lst ((tSplit t (tS ", ")).map eX)), some (.tup ((ws49 t).map eX)), x3, some (eX x)], rfl, ?_⟩
      exact wait_raw (sp x (mp x hx)).1 (sp x (mp x hx)).2 h
    generalize eFrz (aComp (iOf (eSlice (eSlot 1) (oSome (eC (.int 1))) oNone)) (.name 4) (fun _ h => .ok true h) (eCall F_wait_in (aCons (eSlot 4) aNil)) [4]) = E at ec ⊢
    unfold eRm
    simp [ec]
  have s0 : ∀ x1 x2 x3 x4, sIf (tNot (tE (eOpN isiO (aCons (eSlot 0) (aCons (eC (.glb (.ty "str"))) aNil))))) (sRaise (mkI "NoText" "row" "nothing is written in row " (eC .non))) MR.sNext [some (.str t.1), x1, x2, x3, x4] h = .nx [some (.str t.1), x1, x2, x3, x4] h := fun x1 x2 x3 x4 => by
    simp [kit_str]
  have ln : ∀ h, lenO [.tup ((ws49 t).map eX)] h = some (.int ((ws49 t).length : Int)) := fun h => by
    show some (D.int ((((ws49 t).map eX).length : Nat) : Int)) = _
    rw [List.length_map]
  have bad : F_is_room [.int ((ws49 t).length : Int), eRm (ws49 t) (es49 t)] h = .ok (.bl false) h ∨ ¬ (ws49 t).length ≤ 5 → F_read_room [.str t.1] h = .err xNoRow h := fun z => by
    refine frz_err ?_
    rw [ev_run1]
    show outR (b_read_room [some (.str t.1), none, none, none, none] h) = _
    unfold b_read_room
    rw [sq_nx (s0 _ _ _ _), sq_nx (e1 _ _ _ _), sq_nx (e2 _ _ _), sq_nx (e3 _ _)]
    have l1 : (1 : Int) ≤ ((ws49 t).length : Int) := by omega
    by_cases l5 : (ws49 t).length ≤ 5
    · have z := z.resolve_right (fun q => q l5)
      have l5 : ((ws49 t).length : Int) ≤ 5 := by omega
      generalize eRm (ws49 t) (es49 t) = rm at z ⊢
      generalize D.tup ((ws49 t).map eX) = wd at ln ⊢
      generalize ((ws49 t).length : Int) = wl at z ln l1 l5
      simp [ln, l1, l5, z, mkNoRow]
    · have l5 : ¬ ((ws49 t).length : Int) ≤ 5 := by omega
      generalize eRm (ws49 t) (es49 t) = rm at z ⊢
      generalize D.tup ((ws49 t).map eX) = wd at ln ⊢
      generalize ((ws49 t).length : Int) = wl at z ln l1 l5
      simp [ln, l1, l5, mkNoRow]
  unfold readRm
  by_cases g : (ws49 t).length ≤ 5 ∧ ((ws49 t).all fun w => decide (w ∈ plT)) = true ∧ (es49 t).all (isEB (ws49 t).length) = true
  · obtain ⟨g1, g2, g3⟩ := g
    obtain ⟨r1, r2, r3⟩ := room_any (n := (ws49 t).length) rfl (es_few hl g3) g2 g3
    have re := rm_eq g2 g3
    have tr := t_is_room ((ws49 t).length : Int) (rmOf (ws49 t) (es49 t)) h r1
    cases c : v_is_room ((ws49 t).length : Int) (rmOf (ws49 t) (es49 t)) with
    | false =>
      rw [c, ← re] at tr
      refine ⟨fun m hm => ?_, fun _ => bad (.inl tr)⟩
      rw [if_neg fun z => by cases z.2.1] at hm
      cases hm
    | true =>
      have R := r2.mp c
      have et := t_room_text (rmOf (ws49 t) (es49 t)) h (room_d (rm49 R r3 g1))
      rw [c] at tr
      generalize rmOf (ws49 t) (es49 t) = m at re tr et
      have e4 : neO (.str (v_room_text m).1) (.str t.1) h = some (.bl (!decide (v_room_text m = t))) := o_ne eX (v_room_text m) t (h := h)
      have fz : ∀ h : Hh, ∀ n, frzD n h (eRoom m) = some (eRoom m) := fun h n => frz_e (e := eRoom) _ _ _
      have et : F_room_text [eRoom m] h = .ok (.str (v_room_text m).1) h := et
      have tr : F_is_room [.int ((ws49 t).length : Int), eRoom m] h = .ok (.bl true) h := tr
      have re : eRm (ws49 t) (es49 t) = eRoom m := re
      rw [re] at e3
      have l1 : (1 : Int) ≤ ((ws49 t).length : Int) := by omega
      have l5 : ((ws49 t).length : Int) ≤ 5 := by omega
      have run : ∀ r, (sSeq (sIf (tOr (tNot (tE (eChain leO leO (eC (.int 1)) (eOpN lenO (aCons (eSlot 2) aNil)) (eC (.int 5))))) (tOr (tNot (tE (eCall F_is_room (aCons (eOpN lenO (aCons (eSlot 2) aNil)) (aCons (eSlot 3) aNil))))) (tE (eOp2 neO (eCall F_room_text (aCons (eSlot 3) aNil)) (eSlot 0))))) (sRaise (mkI "NoText" "row" "nothing is written in row " (eC .non))) MR.sNext) (sRet (eSlot 3))) [some (.str t.1), some (.lst ((tSplit t (tS ", ")).map eX)), some (.tup ((ws49 t).map eX)), some (eRoom m), none] h = r → runF 1 N_read_room b_read_room [.str t.1] h = outR r := fun r hr => by
        rw [ev_run1]
        show outR (b_read_room [some (.str t.1), none, none, none, none] h) = _
        unfold b_read_room
        rw [sq_nx (s0 _ _ _ _), sq_nx (e1 _ _ _ _), sq_nx (e2 _ _ _), sq_nx (e3 _ _), hr]
      cases c2 : decide (v_room_text m = t) with
      | true =>
        rw [c2] at e4
        refine ⟨fun m' hm => ?_, fun z => ?_⟩
        · rw [if_pos ⟨⟨g1, g2, g3⟩, rfl, of_decide_eq_true c2⟩] at hm
          cases hm
          refine frzF_of (g := []) (d := eRoom m) ?_ (fz _ _)
          rw [List.append_nil]
          refine run (.rt (eRoom m) h) ?_
          generalize eRoom m = dm at tr et ⊢
          generalize D.tup ((ws49 t).map eX) = wd at ln ⊢
          generalize ((ws49 t).length : Int) = wl at tr ln l1 l5
          generalize v_room_text m = rt at et e4
          simp [ln, l1, l5, tr, et, e4]
        · rw [if_pos ⟨⟨g1, g2, g3⟩, rfl, of_decide_eq_true c2⟩] at z
          cases z
      | false =>
        rw [c2] at e4
        refine ⟨fun m' hm => ?_, fun _ => frz_err ?_⟩
        · rw [if_neg fun z => absurd z.2.2 (of_decide_eq_false c2)] at hm
          cases hm
        · refine (run (.er xNoRow [some (.str t.1), some (.lst ((tSplit t (tS ", ")).map eX)), some (.tup ((ws49 t).map eX)), some (eRoom m), none] h) ?_)
          generalize eRoom m = dm at tr et ⊢
          generalize D.tup ((ws49 t).map eX) = wd at ln ⊢
          generalize ((ws49 t).length : Int) = wl at tr ln l1 l5
          generalize v_room_text m = rt at et e4
          simp [ln, l1, l5, tr, et, e4, mkNoRow]
  · refine ⟨fun m hm => ?_, fun _ => bad ?_⟩
    · rw [if_neg fun z => g z.1] at hm
      cases hm
    · by_cases l5 : (ws49 t).length ≤ 5
      · refine .inl (room_bad rfl h ?_)
        cases ca : ((ws49 t).all fun w => decide (w ∈ plT)) with
        | false => exact .inl rfl
        | true =>
          cases cb : (es49 t).all (isEB (ws49 t).length) with
          | false => exact .inr rfl
          | true => exact absurd ⟨l5, ca, cb⟩ g
      · exact .inr l5

abbrev eEn : TEn → D := eT4 D.int eW D.int (eO D.int)
theorem hd_eq {c : Tx} (h0 : 0 < c.len) : (hdT c).1 = ⟨#[c.1.cps.getD 0 0]⟩ := tOf_val (ok_iff.mpr fun x hx => by
  have : x = c.1.cps.getD 0 0 := by simpa using hx
  rw [this]
  refine ok_iff.mp c.2 _ ?_
  have hl : 0 < c.1.cps.toList.length := by rw [Array.length_toList]; exact h0
  rw [← getD_list, List.getD_eq_getElem?_getD, List.getElem?_eq_getElem hl]
  exact List.getElem_mem hl)
theorem hd_zero {c : Tx} (h0 : 0 < c.len) : hdT c = tS "0" ↔ c.1.cps.getD 0 0 = 48 := by
  have e := hd_eq h0
  have e0 : (tS "0").1 = ⟨#[48]⟩ := by decide +kernel
  constructor
  · intro z
    rw [z, e0] at e
    have := congrArg (fun s : Str => s.cps.toList) e
    simpa using this.symm
  · intro z
    refine Tx.ext ?_
    show (hdT c).1 = (tS "0").1
    rw [e, z, e0]
theorem ix_hd {c : Tx} (h0 : 0 < c.len) (h1 : c.len ≤ 640) (h : Hh) : ixA (.str c.1) (.int 0) h = some (.str (hdT c).1) := by
  have e : ixO (.str c.1) (.int 0) h = some (.str (hdT c).1) := by
    show (if c.1.length ≤ sizeLine then (atI c.1.cps.toList 0).map fun c => D.str ⟨#[c]⟩ else none) = _
    have hl : 0 < c.1.cps.toList.length := by rw [Array.length_toList]; exact h0
    have ea : atI c.1.cps.toList 0 = some (c.1.cps.getD 0 0) := by
      have e2 : c.1.cps.getD 0 0 = c.1.cps.toList[0] := by rw [← getD_list, List.getD_eq_getElem?_getD, List.getElem?_eq_getElem hl]; rfl
      rw [e2]
      unfold atI
      have hi : ∀ n : Nat, 0 < n → ixN n 0 = some 0 := fun n hn => by
        unfold ixN
        simp; omega
      rw [hi _ hl]
      show c.1.cps.toList[0]? = _
      rw [List.getElem?_eq_getElem hl]
    rw [if_pos (by have : c.1.length ≤ 640 := h1; rw [sizeLine_eq]; omega), ea, hd_eq h0]; rfl
  unfold ixA
  rw [e]
theorem chs_run {s : Str} {L : List Tx} (hl : s.length ≤ 1000) (k : (signs s).map D.str = L.map eX) (env : DEnv) (h : Hh) : eFrz (aChs (eC (.str s))) env h = .ok (.lst (L.map eX)) h := by
  unfold eFrz aChs eC
  rw [bind_ok]
  dsimp only
  rw [if_pos (by omega), k, bind_ok]

theorem int_run {t : Tx} {i : Int} {e : ME} {env : DEnv} {h : Hh} (he : e env h = .ok (eX t) h) (hl : t.len ≤ 640) (hi : PySem.intText? t.1 = some i) : eIntT e env h = .ok (.int i) h := by
  unfold eIntT
  rw [he, bind_ok]
  show (if t.1.length ≤ 640 then lift ((PySem.intText? t.1).map D.int) h else .stuck) = _
  rw [if_pos (show t.1.length ≤ 640 from hl), hi]; rfl
theorem lawE_four (ws : List Tx) (a b c d : Tx) : lawE ws [a, b, c, d] = if ((b = tS "read" ∨ b = tS "write") ∧ d ∈ lefT) ∧ (a ∈ gueT.take ws.length ∧ atZ ws (iT a) = tS "out") ∧ (0 < c.len ∧ c.len < 4 ∧ sgOk c = true ∧ ¬ (hdT c = tS "0" ∧ c ≠ tS "0")) then
      some (iT a, wOf b, iT c, if d = tS "-" then none else some (iT d))
    else none := rfl
theorem entry_law {ws cs : List Tx} (w5 : ws.length ≤ 5) (cl : ∀ c ∈ cs, c.len ≤ 640) (h : Hh) : F__law_entry [.tup (ws.map eX), .lst (cs.map eX)] h = .ok (eO eEn (lawE ws cs)) h := by
  show runF 2 N__law_entry b__law_entry [.tup (ws.map eX), .lst (cs.map eX)] h = _
  rw [ev_run2]
  show outR (b__law_entry [some (.tup (ws.map eX)), some (.lst (cs.map eX))] h) = _
  have hx : ∀ m : Tx, eX m = D.str m.1 := fun _ => rfl
  match cs, cl with
  | [], cl => unfold b__law_entry; simp; rfl
  | [a], cl => unfold b__law_entry; simp; rfl
  | [a, b], cl => unfold b__law_entry; simp; rfl
  | [a, b, c], cl => unfold b__law_entry; simp; rfl
  | a :: b :: c :: d :: x :: r, cl =>
    have hl : ¬ ((r.length : Int) + 1 + 1 + 1 + 1 + 1 = 4) := by omega
    unfold b__law_entry; simp [hl]; rfl
  | [a, b, c, d], cl =>
    have ca := cl a (by simp)
    have cc := cl c (by simp)
    have cd := cl d (by simp)
    rw [show ([a, b, c, d] : List Tx).map eX = [.str a.1, .str b.1, .str c.1, .str d.1] from rfl]
    have eb : inO true (.str b.1) (.tup [.str "read", .str "write"]) h = some (.bl (!decide (b = tS "read" ∨ b = tS "write"))) := by
      have : inO true (.str b.1) (.tup [.str "read", .str "write"]) h = some (.bl (!decide (b ∈ [tS "read", tS "write"]))) := o_ninS eX b [tS "read", tS "write"] (h := h)
      refine this.trans ?_
      congr 3
      simp
    have ed : inO true (.str d.1) (.lst (lefT.map eX)) h = some (.bl (!decide (d ∈ lefT))) := o_ninL eX d lefT (h := h)
    have ea : inO true (.str a.1) (.lst ((gueT.take ws.length).map eX)) h = some (.bl (!decide (a ∈ gueT.take ws.length))) := o_ninL eX a _ (h := h)
    have c1 := chs_run (s := "-123456789") (L := lefT) (by decide +kernel) (by kernel_rfl) [some (.tup (ws.map eX)), some (.lst [.str a.1, .str b.1, .str c.1, .str d.1])] h
    have c2 := chs_run (s := "01234") (L := gueT) (by decide +kernel) (by kernel_rfl) [some (.tup (ws.map eX)), some (.lst [.str a.1, .str b.1, .str c.1, .str d.1])] h
    have ln : ∀ h, lenO [.tup (ws.map eX)] h = some (.int (ws.length : Int)) := fun h => by
      show some (D.int (((ws.map eX).length : Nat) : Int)) = _
      rw [List.length_map]
    have c3 : eSlice (eFrz (aChs (eC (.str "01234")))) oNone (oSome (eOpN lenO (aCons (eSlot 0) aNil))) [some (.tup (ws.map eX)), some (.lst [.str a.1, .str b.1, .str c.1, .str d.1])] h = .ok (.lst ((gueT.take ws.length).map eX)) h := by
      have : cutG (gueT.map eX) none (some (ws.length : Int)) = (gueT.take ws.length).map eX := by
        match hw : ws.length, w5 with
        | 0, _ => rfl
        | 1, _ => rfl
        | 2, _ => rfl
        | 3, _ => rfl
        | 4, _ => rfl
        | 5, _ => rfl
        | k + 6, z => omega
      have lo : (oSome (eOpN lenO (aCons (eSlot 0) aNil))) [some (.tup (ws.map eX)), some (.lst [.str a.1, .str b.1, .str c.1, .str d.1])] h = .ok (some (ws.length : Int)) h := by
        generalize ws.map eX = wd at ln ⊢
        simp [ln]
      unfold eSlice
      rw [c2, bind_ok]
      show (Res.ok none h).bind _ = _
      rw [bind_ok, lo, bind_ok, ev_slL, this]; rfl
    have lc : ∀ h, lenO [.str c.1] h = some (.int (c.len : Int)) := fun h => num_len c h cc
    have st : eStrip (eOp2 ixA (eSlot 1) (eC (.int 2))) (eC (.str "0123456789")) [some (.tup (ws.map eX)), some (.lst [.str a.1, .str b.1, .str c.1, .str d.1])] h = .ok (.str (Txt.stripChars c.1 "0123456789")) h := by
      show lift (if c.1.length ≤ 16777216 then some (D.str (Txt.stripChars c.1 "0123456789")) else none) h = _
      rw [if_pos (by have : c.1.length ≤ 640 := cc; omega)]; rfl
    have se := strip_eq c h
    have q1 : ∀ (k : Nat) (x : Tx), ([a, b, c, d] : List Tx)[k]? = some x → eOp2 ixA (eSlot 1) (eC (.int k)) [some (.tup (ws.map eX)), some (.lst [.str a.1, .str b.1, .str c.1, .str d.1])] h = .ok (.str x.1) h := fun k x hk => by
      match k, hk with
      | 0, hk => cases hk; rfl
      | 1, hk => cases hk; rfl
      | 2, hk => cases hk; rfl
      | 3, hk => cases hk; rfl
    have qa := q1 0 a rfl
    have qc := q1 2 c rfl
    have qd := q1 3 d rfl
    have e0 : eqO (.str d.1) (.str "-") h = some (.bl (decide (d = tS "-"))) := o_eq eX d (tS "-") (h := h)
    have en : neO (.str c.1) (.str "0") h = some (.bl (!decide (c = tS "0"))) := o_ne eX c (tS "0") (h := h)
    have eh : eqO (.str (hdT c).1) (.str "0") h = some (.bl (decide (hdT c = tS "0"))) := o_eq eX (hdT c) (tS "0") (h := h)
    have k1 : (ws.map eX).length = ws.length := List.length_map ..
    rw [lawE_four]
    unfold b__law_entry
    generalize eFrz (aChs (eC (.str "-123456789"))) = A1 at c1 ⊢
    generalize eSlice (eFrz (aChs (eC (.str "01234")))) oNone (oSome (eOpN lenO (aCons (eSlot 0) aNil))) = A2 at c3 ⊢
    generalize eStrip (eOp2 ixA (eSlot 1) (eC (.int 2))) (eC (.str "0123456789")) = A3 at st ⊢
    generalize Txt.stripChars c.1 "0123456789" = sc at st se
    generalize lefT.map eX = lf at c1 ed
    generalize (gueT.take ws.length).map eX = gt at c3 ea
    by_cases g1 : ¬ ((b = tS "read" ∨ b = tS "write") ∧ d ∈ lefT)
    · rw [if_neg fun z => g1 z.1]
      by_cases g2 : b = tS "read" ∨ b = tS "write"
      · rw [decide_eq_true g2] at eb
        rw [decide_eq_false fun z => g1 ⟨g2, z⟩] at ed
        simp [c1, eb, ed]; rfl
      · rw [decide_eq_false g2] at eb
        simp [eb]; rfl
    have g1 := Classical.not_not.mp g1
    rw [decide_eq_true g1.1] at eb
    rw [decide_eq_true g1.2] at ed
    by_cases g2 : ¬ a ∈ gueT.take ws.length
    · rw [if_neg fun z => g2 z.2.1.1]
      rw [decide_eq_false g2] at ea
      simp [c1, eb, ed, c3, ea]; rfl
    have g2 := Classical.not_not.mp g2
    rw [decide_eq_true g2] at ea
    obtain ⟨i1, i2, i3, i4, i5⟩ := gue_int a (List.mem_of_mem_take g2)
    have i6 := gue_take ws.length w5 a g2
    have ia := int_run (h := h) qa i5 i1
    have ixw : ixA (.tup (ws.map eX)) (.int (iT a)) h = some (.str (atZ ws (iT a)).1) := o_ixS eX ws (iT a) (inR_of i3 i6) h
    have eo : neO (.str (atZ ws (iT a)).1) (.str "out") h = some (.bl (!decide (atZ ws (iT a) = tS "out"))) := o_ne eX (atZ ws (iT a)) (tS "out") (h := h)
    generalize hI1 : eIntT (eOp2 ixA (eSlot 1) (eC (.int 0))) = I1
    have ia : I1 [some (.tup (ws.map eX)), some (.lst [.str a.1, .str b.1, .str c.1, .str d.1])] h = .ok (.int (iT a)) h := by rw [← hI1]; exact ia
    by_cases g3 : ¬ atZ ws (iT a) = tS "out"
    · rw [if_neg fun z => g3 z.2.1.2]
      rw [decide_eq_false g3] at eo
      simp [c1, eb, ed, c3, ea, ia, ixw, eo]; rfl
    have g3 := Classical.not_not.mp g3
    rw [decide_eq_true g3] at eo
    by_cases g4 : ¬ (0 < c.len ∧ c.len < 4)
    · rw [if_neg fun z => g4 ⟨z.2.2.1, z.2.2.2.1⟩]
      by_cases z0 : 0 < c.len
      · have z4 : ¬ ((c.len : Int) < 4) := fun q => g4 ⟨z0, by omega⟩
        have y0 := z0
        have y4 : ¬ (c.len < 4) := fun q => g4 ⟨z0, q⟩
        have z0 : (0 : Int) < (c.len : Int) := by omega
        simp [c1, eb, ed, c3, ea, ia, ixw, eo, lc, y0, y4, z0, z4]; rfl
      · have y0 : c.len = 0 := by omega
        have y4 := y0
        have z0 : ¬ (0 : Int) < (c.len : Int) := by omega
        simp [c1, eb, ed, c3, ea, ia, ixw, eo, lc, y0, y4, z0]; rfl
    have g4 := Classical.not_not.mp g4
    have y0 := g4.1
    have y4 := g4.2
    have z0 : (0 : Int) < (c.len : Int) := by omega
    have z4 : (c.len : Int) < 4 := by omega
    by_cases g5 : ¬ sgOk c = true
    · rw [if_neg fun z => g5 z.2.2.2.2.1]
      rw [show sgOk c = false from by simpa using g5] at se
      simp [c1, eb, ed, c3, ea, ia, ixw, eo, lc, y0, y4, z0, z4, st, se]; rfl
    have g5 := Classical.not_not.mp g5
    rw [g5] at se
    have ih := ix_hd g4.1 cc h
    obtain ⟨v1, v2, v3, v4⟩ := num_val g4.1 g4.2 g5
    by_cases g6 : hdT c = tS "0" ∧ c ≠ tS "0"
    · rw [if_neg fun z => z.2.2.2.2.2 g6]
      rw [decide_eq_true g6.1] at eh
      rw [decide_eq_false g6.2] at en
      simp [c1, eb, ed, c3, ea, ia, ixw, eo, lc, y0, y4, z0, z4, st, se, ih, eh, en]; rfl
    rw [if_pos ⟨g1, ⟨g2, g3⟩, g4.1, g4.2, g5, g6⟩]
    have ic := int_run (h := h) qc cc v1
    generalize hI2 : eIntT (eOp2 ixA (eSlot 1) (eC (.int 2))) = I2
    have ic : I2 [some (.tup (ws.map eX)), some (.lst [.str a.1, .str b.1, .str c.1, .str d.1])] h = .ok (.int (iT c)) h := by rw [← hI2]; exact ic
    have ew : D.str b.1 = eW (wOf b) := by
      have e1 : (tS "read" : Tx) = tW .read := Tx.ext (by decide +kernel)
      have e2 : (tS "write" : Tx) = tW .write := Tx.ext (by decide +kernel)
      rcases g1.1 with rfl | rfl
      · rw [e1, wOf_tW]; rfl
      · rw [e2, wOf_tW]; rfl
    have last : ∃ dl, eIf (tE (eOp2 eqO (eOp2 ixA (eSlot 1) (eC (.int 3))) (eC (.str "-")))) (eC .non) (eIntT (eOp2 ixA (eSlot 1) (eC (.int 3)))) [some (.tup (ws.map eX)), some (.lst [.str a.1, .str b.1, .str c.1, .str d.1])] h = .ok dl h ∧ dl = eO D.int (if d = tS "-" then none else some (iT d)) := by
      by_cases gd : d = tS "-"
      · rw [decide_eq_true gd] at e0
        refine ⟨.non, ?_, by rw [if_pos gd]; rfl⟩
        simp [e0]
      · rw [decide_eq_false gd] at e0
        obtain ⟨j1, j2, j3, j4, j5⟩ := lef_int d g1.2 gd
        have id_ := int_run (h := h) qd j5 j1
        refine ⟨.int (iT d), ?_, by rw [if_neg gd]; rfl⟩
        generalize hI3 : eIntT (eOp2 ixA (eSlot 1) (eC (.int 3))) = I3
        have id_ : I3 [some (.tup (ws.map eX)), some (.lst [.str a.1, .str b.1, .str c.1, .str d.1])] h = .ok (.int (iT d)) h := by rw [← hI3]; exact id_
        simp [e0, id_]
    obtain ⟨dl, l1, l2⟩ := last
    have er : eO eEn (some (iT a, wOf b, iT c, if d = tS "-" then none else some (iT d))) = .tup [.int (iT a), .str b.1, .int (iT c), dl] := by
      rw [l2, ew]; rfl
    rw [er]
    generalize eIf (tE (eOp2 eqO (eOp2 ixA (eSlot 1) (eC (.int 3))) (eC (.str "-")))) (eC .non) (eIntT (eOp2 ixA (eSlot 1) (eC (.int 3)))) = I4 at l1 ⊢
    have gh : eqO (.str (hdT c).1) (.str "0") h = some (.bl true) → neO (.str c.1) (.str "0") h = some (.bl false) := fun z => by
      rw [eh] at z
      have z := of_decide_eq_true (by simpa using z : decide (hdT c = tS "0") = true)
      rw [en, decide_eq_true (Classical.not_not.mp fun q => g6 ⟨z, q⟩)]; rfl
    cases zh : decide (hdT c = tS "0") with
    | true =>
      rw [zh] at eh
      have en := gh eh
      simp [c1, eb, ed, c3, ea, ia, ixw, eo, lc, y0, y4, z0, z4, st, se, ih, eh, en, ic, l1]
    | false =>
      rw [zh] at eh
      simp [c1, eb, ed, c3, ea, ia, ixw, eo, lc, y0, y4, z0, z4, st, se, ih, eh, ic, l1]

structure EnG (ws : List Tx) (cs : List Tx) (e : TEn) : Prop where
  cs : cs = [tI e.1, tW e.2.1, tI e.2.2.1, tD e.2.2.2]
  g : 0 ≤ e.1 ∧ e.1 < ws.length
  o : atZ ws e.1 = tS "out"
  w : e.2.1 = Wd.read ∨ e.2.1 = Wd.write
  m : MarkE e
theorem lawE_some {ws cs : List Tx} {e : TEn} (w5 : ws.length ≤ 5) (h : lawE ws cs = some e) : EnG ws cs e := by
  match cs, h with
  | [a, b, c, d], h =>
    rw [lawE_four] at h
    split at h
    · rename_i k
      obtain ⟨⟨g1, g1'⟩, ⟨g2, g3⟩, z0, z4, g5, g6⟩ := k
      cases h
      obtain ⟨i1, i2, i3, i4, i5⟩ := gue_int a (List.mem_of_mem_take g2)
      have i6 := gue_take ws.length w5 a g2
      obtain ⟨v1, v2, v3, v4⟩ := num_val z0 z4 g5
      have v4 := v4 (fun q => g6 ⟨(hd_zero z0).mpr q.1, q.2⟩)
      have hb : (wOf b = Wd.read ∨ wOf b = Wd.write) ∧ b = tW (wOf b) := by
        have e1 : (tS "read" : Tx) = tW .read := Tx.ext (by decide +kernel)
        have e2 : (tS "write" : Tx) = tW .write := Tx.ext (by decide +kernel)
        rcases g1 with rfl | rfl
        · rw [e1, wOf_tW]; exact ⟨.inl rfl, rfl⟩
        · rw [e2, wOf_tW]; exact ⟨.inr rfl, rfl⟩
      have hd : d = tD (if d = tS "-" then none else some (iT d)) ∧ ((if d = tS "-" then none else some (iT d)) = none ∨ ∃ k : Int, (if d = tS "-" then none else some (iT d)) = some k ∧ 1 ≤ k ∧ k ≤ 9) := by
        by_cases gd : d = tS "-"
        · rw [if_pos gd]; exact ⟨gd, .inl rfl⟩
        · obtain ⟨j1, j2, j3, j4, j5⟩ := lef_int d g1' gd
          rw [if_neg gd]; exact ⟨j2, .inr ⟨_, rfl, j3, j4⟩⟩
      refine ⟨?_, ⟨i3, i6⟩, g3, hb.1, ⟨v2, v3⟩, hd.2⟩
      show [a, b, c, d] = [tI (iT a), tW (wOf b), tI (iT c), tD _]
      rw [← i2, ← hb.2, ← v4, ← hd.1]
    · cases h
  | [], h => cases h
  | [_], h => cases h
  | [_, _], h => cases h
  | [_, _, _], h => cases h
  | _ :: _ :: _ :: _ :: _ :: _, h => cases h
theorem rd_tS : (tS "read" : Tx) = tW .read := Tx.ext (by decide +kernel)
theorem wr_tS : (tS "write" : Tx) = tW .write := Tx.ext (by decide +kernel)
theorem gue_all : ∀ k : Nat, k < 5 → tI (k : Int) ∈ gueT ∧ iT (tI (k : Int)) = k ∧ ∀ n : Nat, n ≤ 5 → k < n → tI (k : Int) ∈ gueT.take n := by decide +kernel
theorem lef_all : ∀ k : Nat, k < 10 → 1 ≤ k → tI (k : Int) ∈ lefT ∧ iT (tI (k : Int)) = k ∧ tI (k : Int) ≠ tS "-" := by decide +kernel
theorem mark_all : ∀ k : Nat, k < 1000 → (decide (0 < (tI (k : Int)).len) && (decide ((tI (k : Int)).len < 4) && (sgOk (tI (k : Int)) && (decide (iT (tI (k : Int)) = k) && !(decide ((tI (k : Int)).1.cps.getD 0 0 = 48) && !decide (k = 0)))))) = true := by decide +kernel
theorem lawE_good {ws : List Tx} {e : TEn} (w5 : ws.length ≤ 5) (g : 0 ≤ e.1 ∧ e.1 < ws.length) (o : atZ ws e.1 = tS "out") (w : e.2.1 = Wd.read ∨ e.2.1 = Wd.write) (m : MarkE e) : lawE ws [tI e.1, tW e.2.1, tI e.2.2.1, tD e.2.2.2] = some e := by
  obtain ⟨gi, wi, mi, li⟩ := e
  dsimp only at g o w ⊢
  obtain ⟨⟨m1, m2⟩, m3⟩ := m
  dsimp only at m1 m2 m3
  obtain ⟨k, rfl⟩ : ∃ k : Nat, gi = k := ⟨gi.toNat, by omega⟩
  obtain ⟨a1, a2, a3⟩ := gue_all k (by omega)
  have a3 := a3 ws.length w5 (by omega)
  obtain ⟨j, rfl⟩ : ∃ j : Nat, mi = j := ⟨mi.toNat, by omega⟩
  have b := mark_all j (by omega)
  simp only [Bool.and_eq_true, decide_eq_true_eq, Bool.not_eq_true', Bool.and_eq_false_iff, decide_eq_false_iff_not, Bool.not_eq_false'] at b
  obtain ⟨b1, b2, b3, b4, b5⟩ := b
  have hd : tD li ∈ lefT ∧ (if tD li = tS "-" then none else some (iT (tD li))) = li := by
    rcases m3 with rfl | ⟨l, rfl, l1, l2⟩
    · exact ⟨by show tS "-" ∈ lefT; simp [lefT], if_pos rfl⟩
    · obtain ⟨q, rfl⟩ : ∃ q : Nat, l = q := ⟨l.toNat, by omega⟩
      obtain ⟨c1, c2, c3⟩ := lef_all q (by omega) (by omega)
      refine ⟨c1, ?_⟩
      show (if tI (q : Int) = tS "-" then none else some (iT (tI (q : Int)))) = _
      rw [if_neg c3, c2]
  rw [lawE_four, if_pos, a2, b4, wOf_tW, hd.2]
  refine ⟨⟨?_, hd.1⟩, ⟨a3, by rw [a2]; exact o⟩, b1, b2, b3, fun q => ?_⟩
  · rcases w with rfl | rfl
    · exact .inl rd_tS.symm
    · exact .inr wr_tS.symm
  · have q1 := (hd_zero b1).mp q.1
    rcases b5 with b5 | b5
    · exact b5 q1
    · subst b5
      exact q.2 (Tx.ext (by decide +kernel))
noncomputable def les49 (t : Tx) : List (Option TEn) := (ps49 t).map fun p => lawE (ws49 t) (tSplit p (tS " "))
noncomputable def lrmOf (t : Tx) : TRoom := ((ws49 t).map wOf, (les49 t).map fun e => e.getD default)
noncomputable def lawRm (t : Tx) : Option TRoom :=
  if ((ws49 t).length ≤ 5 ∧ ((ws49 t).all fun w => decide (w ∈ plT)) = true) ∧ (¬ none ∈ les49 t) ∧ ¬ setN ((lrmOf t).2.map fun e => e.1) < (lrmOf t).2.length then some (lrmOf t) else none

theorem law_long {ws : List Tx} {p : Tx} {e : TEn} (w5 : ws.length ≤ 5) (h : lawE ws (tSplit p (tS " ")) = some e) : p = tJoin (tS " ") [tI e.1, tW e.2.1, tI e.2.2.1, tD e.2.2.2] ∧ 8 ≤ p.len := by
  have j := tx_join_split p (tS " ")
  have G := lawE_some w5 h
  rw [G.cs] at j
  refine ⟨j.symm, ?_⟩
  have l := len_join_sp (tI e.1) [tW e.2.1, tI e.2.2.1, tD e.2.2.2]
  rw [j] at l
  simp only [List.map_cons, List.map_nil, List.sum_cons, List.sum_nil] at l
  have lw : 4 ≤ (tW e.2.1).len := by rcases G.w with q | q <;> rw [q] <;> decide +kernel
  obtain ⟨gi, gl⟩ := G.g
  have lg : 0 < (tI e.1).len := by
    obtain ⟨k, hk⟩ : ∃ k : Nat, e.1 = k := ⟨e.1.toNat, by omega⟩
    have b := mark_all k (by omega)
    simp only [Bool.and_eq_true, decide_eq_true_eq] at b
    rw [hk]; exact b.1
  have lm : 0 < (tI e.2.2.1).len := by
    obtain ⟨⟨m1, m2⟩, _⟩ := G.m
    obtain ⟨k, hk⟩ : ∃ k : Nat, e.2.2.1 = k := ⟨e.2.2.1.toNat, by omega⟩
    have b := mark_all k (by omega)
    simp only [Bool.and_eq_true, decide_eq_true_eq] at b
    rw [hk]; exact b.1
  omega
theorem les_few {t : Tx} (hl : t.len ≤ 620) (w5 : (ws49 t).length ≤ 5) (h : ¬ none ∈ les49 t) : (les49 t).length < 64 := by
  have e := tx_join_split t (tS ", ")
  rw [parts_eq] at e
  have l := len_join_cm ((tSplit t (tS ", ")).headD (tS "")) (ps49 t)
  rw [e] at l
  have key : ∀ ps : List Tx, ¬ none ∈ (ps.map fun p => lawE (ws49 t) (tSplit p (tS " "))) → 10 * ps.length ≤ (ps.map fun x => x.len + 2).sum := fun ps => by
    induction ps with
    | nil => exact fun _ => Nat.le_refl _
    | cons p ps ih =>
      intro h
      rw [List.map_cons] at h
      have := ih fun z => h (List.mem_cons_of_mem _ z)
      obtain ⟨x, hx⟩ : ∃ x, lawE (ws49 t) (tSplit p (tS " ")) = some x := by
        cases hq : lawE (ws49 t) (tSplit p (tS " ")) with
        | none => exact absurd (by rw [hq]; exact List.mem_cons_self) h
        | some x => exact ⟨x, rfl⟩
      have := (law_long w5 hx).2
      rw [List.map_cons, List.sum_cons, List.length_cons]; omega
  have := key _ h
  unfold les49
  rw [List.length_map]
  omega
theorem roomof_any {t : Tx} (hl : t.len ≤ 620) (h : Hh) : F__law_room_of [.str t.1] h = .ok (eO eRoom (lawRm t)) h := by
  obtain ⟨s1, s2, _⟩ := spl_any t (tS ", ") (by decide +kernel) (by omega)
  have pe := parts_eq t
  have pl : ∀ p ∈ tSplit t (tS ", "), p.len ≤ 640 := fun p hp => by have := s2 p hp; omega
  have sp : ∀ p ∈ tSplit t (tS ", "), SplB p (tS " ") ∧ ∀ x ∈ tSplit p (tS " "), x.len ≤ 640 := fun p hp => by
    obtain ⟨q1, q2, _⟩ := spl_any p (tS " ") (by decide +kernel) (by have := pl p hp; omega)
    exact ⟨q1, fun x hx => Nat.le_trans (q2 x hx) (pl p hp)⟩
  have m0 : (tSplit t (tS ", ")).headD (tS "") ∈ tSplit t (tS ", ") := by rw [pe]; simp
  have mp : ∀ p ∈ ps49 t, p ∈ tSplit t (tS ", ") := fun p hp => by rw [pe]; exact List.mem_cons_of_mem _ hp
  have e1 : ∀ x1 x2 x3 x4 x5 x6, sAsg (eFrz (aSplit (eSlot 0) (eC (.str ", ")))) (MR.gName 1) [some (.str t.1), x1, x2, x3, x4, x5, x6] h = .nx [some (.str t.1), some (.lst ((tSplit t (tS ", ")).map eX)), x2, x3, x4, x5, x6] h := fun x1 x2 x3 x4 x5 x6 => by
    have : aSplit (eSlot 0) (eC (.str ", ")) [some (.str t.1), x1, x2, x3, x4, x5, x6] h = .ok ((tSplit t (tS ", ")).map eX) h := by
      rw [ev_split (a := t) (b := tS ", ") rfl rfl s1]
    generalize aSplit (eSlot 0) (eC (.str ", ")) = AS at this ⊢
    simp [this]
  have e2 : ∀ x2 x3 x4 x5 x6, sAsg (eOpN tupleO (aCons (eFrz (aSplit (eOp2 ixA (eSlot 1) (eC (.int 0))) (eC (.str " ")))) aNil)) (MR.gName 2) [some (.str t.1), some (.lst ((tSplit t (tS ", ")).map eX)), x2, x3, x4, x5, x6] h = .nx [some (.str t.1), some (.lst ((tSplit t (tS ", ")).map eX)), some (.tup ((ws49 t).map eX)), x3, x4, x5, x6] h := fun x2 x3 x4 x5 x6 => by
    have : aSplit (eOp2 ixA (eSlot 1) (eC (.int 0))) (eC (.str " ")) [some (.str t.1), some (.lst ((tSplit t (tS ", ")).map eX)), x2, x3, x4, x5, x6] h = .ok ((ws49 t).map eX) h := by
      have hd : eOp2 ixA (eSlot 1) (eC (.int 0)) [some (.str t.1), some (.lst ((tSplit t (tS ", ")).map eX)), x2, x3, x4, x5, x6] h = .ok (eX ((tSplit t (tS ", ")).headD (tS ""))) h := by
        have q := o_ixL eX (tSplit t (tS ", ")) 0 (inR_of (by decide) (by have := List.length_pos_iff.mpr (split_ne t (tS ", ")); omega)) h
        have q2 : atZ (tSplit t (tS ", ")) 0 = (tSplit t (tS ", ")).headD (tS "") := by
          cases hh : tSplit t (tS ", ") with
          | nil => exact absurd hh (split_ne _ _)
          | cons a b => rfl
        rw [q2] at q
        show lift (ixA (.lst ((tSplit t (tS ", ")).map eX)) (.int 0) h) h = _
        have q : ixA (.lst ((tSplit t (tS ", ")).map eX)) (.int 0) h = _ := q
        rw [q]; rfl
      rw [ev_split (a := (tSplit t (tS ", ")).headD (tS "")) (b := tS " ") (h1 := h) hd rfl (sp _ m0).1]; rfl
    generalize aSplit (eOp2 ixA (eSlot 1) (eC (.int 0))) (eC (.str " ")) = AS at this ⊢
    simp [this]
  have ln : ∀ h, lenO [.tup ((ws49 t).map eX)] h = some (.int ((ws49 t).length : Int)) := fun h => by
    show some (D.int ((((ws49 t).map eX).length : Nat) : Int)) = _
    rw [List.length_map]
  have ec : ∀ x3 x4 x5 x6, eFrz (aComp (iOf (eSlot 2)) (.name 4) (fun _ h => .ok true h) (eOp2 (inO false) (eSlot 4) (eTup (aCons (eC (.str "out")) (aCons (eC (.str "reads")) (aCons (eC (.str "rising")) (aCons (eC (.str "writes")) (aCons (eC (.str "raised")) aNil))))))) [4]) [some (.str t.1), some (.lst ((tSplit t (tS ", ")).map eX)), some (.tup ((ws49 t).map eX)), x3, x4, x5, x6] h = .ok (.lst (((ws49 t).map fun w => decide (w ∈ plT)).map D.bl)) h := fun x3 x4 x5 x6 => by
    refine frz_comp (src := ⟨(ws49 t).map eX, none⟩) (h1 := h) rfl ?_
    rw [List.map_map]
    refine comp_mapE (ws49 t) fun x _ => ⟨[some (.str t.1), some (.lst ((tSplit t (tS ", ")).map eX)), some (.tup ((ws49 t).map eX)), x3, some (eX x), x5, x6], rfl, ?_⟩
    have ei : inO false (.str x.1) (.tup [.str "out", .str "reads", .str "rising", .str "writes", .str "raised"]) h = some (.bl (decide (x ∈ plT))) := o_inS eX x plT (h := h)
    have hx : eX x = D.str x.1 := rfl
    simp [hx, ei]
  have ea := all_bl ((ws49 t).map fun w => decide (w ∈ plT)) h
  have e3 : ((ws49 t).map fun w => decide (w ∈ plT)).all id = (ws49 t).all fun w => decide (w ∈ plT) := by rw [List.all_map]; rfl
  rw [e3] at ea
  show runF 1 N__law_room_of b__law_room_of [.str t.1] h = _
  rw [ev_run1]
  show outR (b__law_room_of [some (.str t.1), none, none, none, none, none, none] h) = _
  unfold b__law_room_of
  rw [sq_nx (e1 _ _ _ _ _ _), sq_nx (e2 _ _ _ _ _)]
  have ec := ec none none none none
  unfold lawRm
  by_cases g : ¬ ((ws49 t).length ≤ 5 ∧ ((ws49 t).all fun w => decide (w ∈ plT)) = true)
  · rw [if_neg fun z => g z.1]
    generalize eFrz (aComp (iOf (eSlot 2)) (.name 4) (fun _ h => .ok true h) (eOp2 (inO false) (eSlot 4) (eTup (aCons (eC (.str "out")) (aCons (eC (.str "reads")) (aCons (eC (.str "rising")) (aCons (eC (.str "writes")) (aCons (eC (.str "raised")) aNil))))))) [4]) = E at ec ⊢
    generalize D.lst (((ws49 t).map fun w => decide (w ∈ plT)).map D.bl) = bl at ec ea
    by_cases l5 : (ws49 t).length ≤ 5
    · have l6 : ¬ ((ws49 t).length : Int) > 5 := by omega
      have y6 : ¬ 5 < (ws49 t).length := by omega
      cases ca : ((ws49 t).all fun w => decide (w ∈ plT)) with
      | true => exact absurd ⟨l5, ca⟩ g
      | false =>
        rw [ca] at ea
        generalize D.tup ((ws49 t).map eX) = wd at ln ec ⊢
        generalize (ws49 t).length = wl at ln l6 y6
        have y7 : wl ≤ 5 := by omega
        have l7 : (wl : Int) ≤ 5 := by omega
        simp [ln, l6, y6, y7, l7, ec, ea]; rfl
    · have l6 : ((ws49 t).length : Int) > 5 := by omega
      have y6 : 5 < (ws49 t).length := by omega
      generalize D.tup ((ws49 t).map eX) = wd at ln ec ⊢
      generalize (ws49 t).length = wl at ln l6 y6
      simp [ln, l6, y6]; rfl
  have g := Classical.not_not.mp g
  obtain ⟨g1, g2⟩ := g
  rw [g2] at ea
  have s3 : sIf (tOr (tE (eOp2 gtO (eOpN lenO (aCons (eSlot 2) aNil)) (eC (.int 5)))) (tNot (tE (eOpN allO (aCons (eFrz (aComp (iOf (eSlot 2)) (.name 4) (fun _ h => .ok true h) (eOp2 (inO false) (eSlot 4) (eTup (aCons (eC (.str "out")) (aCons (eC (.str "reads")) (aCons (eC (.str "rising")) (aCons (eC (.str "writes")) (aCons (eC (.str "raised")) aNil))))))) [4])) aNil))))) (sRet (eC .non)) MR.sNext [some (.str t.1), some (.lst ((tSplit t (tS ", ")).map eX)), some (.tup ((ws49 t).map eX)), none, none, none, none] h = .nx [some (.str t.1), some (.lst ((tSplit t (tS ", ")).map eX)), some (.tup ((ws49 t).map eX)), none, none, none, none] h := by
    generalize eFrz (aComp (iOf (eSlot 2)) (.name 4) (fun _ h => .ok true h) (eOp2 (inO false) (eSlot 4) (eTup (aCons (eC (.str "out")) (aCons (eC (.str "reads")) (aCons (eC (.str "rising")) (aCons (eC (.str "writes")) (aCons (eC (.str "raised")) aNil))))))) [4]) = E at ec ⊢
    generalize D.lst (((ws49 t).map fun w => decide (w ∈ plT)).map D.bl) = bl at ec ea
    generalize D.tup ((ws49 t).map eX) = wd at ln ec ⊢
    have l6 : ¬ ((ws49 t).length : Int) > 5 := by omega
    have y6 : ¬ 5 < (ws49 t).length := by omega
    generalize (ws49 t).length = wl at ln l6 y6
    have y7 : wl ≤ 5 := by omega
    have l7 : (wl : Int) ≤ 5 := by omega
    simp [ln, l6, y6, y7, l7, ec, ea]
  rw [sq_nx s3]
  -- those that wait
  have s4 : sAsg (eFrz (aComp (iOf (eSlice (eSlot 1) (oSome (eC (.int 1))) oNone)) (.name 5) (fun _ h => .ok true h) (eCall F__law_entry (aCons (eSlot 2) (aCons (eFrz (aSplit (eSlot 5) (eC (.str " ")))) aNil))) [5])) (MR.gName 3) [some (.str t.1), some (.lst ((tSplit t (tS ", ")).map eX)), some (.tup ((ws49 t).map eX)), none, none, none, none] h = .nx [some (.str t.1), some (.lst ((tSplit t (tS ", ")).map eX)), some (.tup ((ws49 t).map eX)), some (.lst ((les49 t).map (eO eEn))), none, none, none] h := by
    have si : iOf (eSlice (eSlot 1) (oSome (eC (.int 1))) oNone) [some (.str t.1), some (.lst ((tSplit t (tS ", ")).map eX)), some (.tup ((ws49 t).map eX)), none, none, none, none] h = .ok ⟨(ps49 t).map eX, none⟩ h := by
      have q : eSlice (eSlot 1) (oSome (eC (.int 1))) oNone [some (.str t.1), some (.lst ((tSplit t (tS ", ")).map eX)), some (.tup ((ws49 t).map eX)), none, none, none, none] h = .ok (.lst ((ps49 t).map eX)) h := by
        have : cutG ((tSplit t (tS ", ")).map eX) (some 1) none = (ps49 t).map eX := by
          rw [cutFrom _ (by decide), pe]; rfl
        unfold eSlice
        show lift (sliceO (.lst ((tSplit t (tS ", ")).map eX)) (some 1) none h) h = _
        rw [ev_slL, this]; rfl
      generalize eSlice (eSlot 1) (oSome (eC (.int 1))) oNone = E at q ⊢
      unfold iOf
      rw [q]; rfl
    have ef : eFrz (aComp (iOf (eSlice (eSlot 1) (oSome (eC (.int 1))) oNone)) (.name 5) (fun _ h => .ok true h) (eCall F__law_entry (aCons (eSlot 2) (aCons (eFrz (aSplit (eSlot 5) (eC (.str " ")))) aNil))) [5]) [some (.str t.1), some (.lst ((tSplit t (tS ", ")).map eX)), some (.tup ((ws49 t).map eX)), none, none, none, none] h = .ok (.lst ((les49 t).map (eO eEn))) h := by
      refine frz_comp (src := ⟨(ps49 t).map eX, none⟩) (h1 := h) si ?_
      unfold les49
      rw [List.map_map]
      refine comp_mapE (ps49 t) fun x hx => ⟨[some (.str t.1), some (.lst ((tSplit t (tS ", ")).map eX)), some (.tup ((ws49 t).map eX)), none, none, some (eX x), none], rfl, ?_⟩
      have en := entry_law (ws := ws49 t) (cs := tSplit x (tS " ")) g1 (sp x (mp x hx)).2 h
      have es : eFrz (aSplit (eSlot 5) (eC (.str " "))) [some (.str t.1), some (.lst ((tSplit t (tS ", ")).map eX)), some (.tup ((ws49 t).map eX)), none, none, some (eX x), none] h = .ok (.lst ((tSplit x (tS " ")).map eX)) h := by
        have : aSplit (eSlot 5) (eC (.str " ")) [some (.str t.1), some (.lst ((tSplit t (tS ", ")).map eX)), some (.tup ((ws49 t).map eX)), none, none, some (eX x), none] h = .ok ((tSplit x (tS " ")).map eX) h := by
          rw [ev_split (a := x) (b := tS " ") rfl rfl (sp x (mp x hx)).1]
        unfold eFrz
        rw [this]; rfl
      show eCall F__law_entry _ _ h = .ok (eO eEn (lawE (ws49 t) (tSplit x (tS " ")))) h
      generalize eFrz (aSplit (eSlot 5) (eC (.str " "))) = E at es ⊢
      generalize D.lst ((tSplit x (tS " ")).map eX) = xd at es en
      generalize D.tup ((ws49 t).map eX) = wd at en es ⊢
      simp [es, en]
    generalize eFrz (aComp (iOf (eSlice (eSlot 1) (oSome (eC (.int 1))) oNone)) (.name 5) (fun _ h => .ok true h) (eCall F__law_entry (aCons (eSlot 2) (aCons (eFrz (aSplit (eSlot 5) (eC (.str " ")))) aNil))) [5]) = E at ef ⊢
    simp [ef]
  rw [sq_nx s4]
  have en : inO false .non (.lst ((les49 t).map (eO eEn))) h = some (.bl (decide (none ∈ les49 t))) := o_inL (eO eEn) none (les49 t) (h := h)
  by_cases g3 : none ∈ les49 t
  · rw [if_neg fun z => z.2.1 g3]
    rw [decide_eq_true g3] at en
    generalize D.lst ((les49 t).map (eO eEn)) = ld at en ⊢
    simp [en]; rfl
  rw [decide_eq_false g3] at en
  have few := les_few hl g1 g3
  have hs : (les49 t).map (eO eEn) = (lrmOf t).2.map eEn := by
    show _ = ((les49 t).map fun e => e.getD default).map eEn
    rw [List.map_map]
    refine List.map_congr_left fun e he => ?_
    cases e with
    | none => exact absurd he g3
    | some e => rfl
  have hll : (lrmOf t).2.length = (les49 t).length := by
    show ((les49 t).map fun e => e.getD default).length = _
    rw [List.length_map]
  rw [hs] at en ⊢
  have eg : eFrz (aComp (iOf (eSlot 3)) (.name 6) (fun _ h => .ok true h) (eOp2 ixA (eSlot 6) (eC (.int 0))) [6]) [some (.str t.1), some (.lst ((tSplit t (tS ", ")).map eX)), some (.tup ((ws49 t).map eX)), some (.lst ((lrmOf t).2.map eEn)), none, none, none] h = .ok (.lst (((lrmOf t).2.map fun e => e.1).map D.int)) h := by
    refine frz_comp (src := ⟨(lrmOf t).2.map eEn, none⟩) (h1 := h) rfl ?_
    rw [List.map_map]
    exact comp_mapE (lrmOf t).2 fun x _ => ⟨[some (.str t.1), some (.lst ((tSplit t (tS ", ")).map eX)), some (.tup ((ws49 t).map eX)), some (.lst ((lrmOf t).2.map eEn)), none, none, some (eEn x)], rfl, rfl⟩
  have eset : lenSetO (.lst (((lrmOf t).2.map fun e => e.1).map D.int)) h = some (.int (setN ((lrmOf t).2.map fun e => e.1))) := o_setI _ (by rw [List.length_map]; omega) h
  have el : lenO [.lst ((lrmOf t).2.map eEn)] h = some (.int ((lrmOf t).2.length : Int)) := by
    show some (D.int ((((lrmOf t).2.map eEn).length : Nat) : Int)) = _
    rw [List.length_map]
  have et : ∀ h, tupleO [.lst ((lrmOf t).2.map eEn)] h = some (.tup ((lrmOf t).2.map eEn)) := fun _ => rfl
  have ew : D.tup ((ws49 t).map eX) = eS eW (lrmOf t).1 := by
    show D.tup _ = D.tup (((ws49 t).map wOf).map eW)
    congr 1
    rw [List.map_map]
    refine List.map_congr_left fun w hw => ?_
    obtain ⟨v, hv, e⟩ := List.mem_map.mp (of_decide_eq_true (List.all_eq_true.mp g2 w hw))
    rw [← e]
    show D.str (tW v).1 = D.str (wOf (tW v)).val
    rw [wOf_tW]; rfl
  have er : ∀ x, x = some (lrmOf t) → eO eRoom x = .tup [.tup ((ws49 t).map eX), .tup ((lrmOf t).2.map eEn)] := fun x z => by
    rw [z, ew]; rfl
  generalize eFrz (aComp (iOf (eSlot 3)) (.name 6) (fun _ h => .ok true h) (eOp2 ixA (eSlot 6) (eC (.int 0))) [6]) = E at eg ⊢
  generalize D.lst (((lrmOf t).2.map fun e => e.1).map D.int) = gd at eg eset
  generalize D.tup ((lrmOf t).2.map eEn) = td at et er
  generalize D.lst ((lrmOf t).2.map eEn) = ld at en eg el et ⊢
  generalize D.tup ((ws49 t).map eX) = wd at eg er ⊢
  have eset : eLenSet E [some (.str t.1), some (.lst ((tSplit t (tS ", ")).map eX)), some wd, some ld, none, none, none] h = .ok (.int (setN ((lrmOf t).2.map fun e => e.1))) h := by
    unfold eLenSet
    rw [eg, bind_ok, eset]; rfl
  generalize eLenSet E = E2 at eset ⊢
  by_cases g4 : setN ((lrmOf t).2.map fun e => e.1) < (lrmOf t).2.length
  · rw [if_neg fun z => z.2.2 g4]
    have g5 : ((setN ((lrmOf t).2.map fun e => e.1) : Nat) : Int) < ((lrmOf t).2.length : Int) := by omega
    generalize setN ((lrmOf t).2.map fun e => e.1) = sn at eset g4 g5
    generalize (lrmOf t).2.length = ll at el g4 g5
    simp [en, eset, el, g4, g5]; rfl
  · rw [if_pos ⟨⟨g1, g2⟩, g3, g4⟩, er _ rfl]
    have g5 : ¬ ((setN ((lrmOf t).2.map fun e => e.1) : Nat) : Int) < ((lrmOf t).2.length : Int) := by omega
    generalize setN ((lrmOf t).2.map fun e => e.1) = sn at eset g4 g5
    generalize (lrmOf t).2.length = ll at el g4 g5
    have g6 : ll ≤ sn := by omega
    simp [en, eset, el, g4, g5, g6, et]

theorem wait_words (e : TEn) : v_wait_text e = tJoin (tS " ") [tI e.1, tW e.2.1, tI e.2.2.1, tD e.2.2.2] := by
  rw [wait_v, tx_join2, tx_join2, tx_join2, tx_join1]
theorem clean_D {e : TEn} (M : MarkE e) : clean (tD e.2.2.2) = true ∧ (tD e.2.2.2).len ≤ 4 := by
  rcases M.2 with h | ⟨k, h, k1, k2⟩ <;> rw [h]
  · exact ⟨by decide +kernel, by decide +kernel⟩
  · exact ⟨clean_I (by omega) (by omega), len_I (by omega) (by omega)⟩
theorem wait_clean {e : TEn} (hg : 0 ≤ e.1 ∧ e.1 ≤ 9) (M : MarkE e) : (∀ q ∈ [tI e.1, tW e.2.1, tI e.2.2.1, tD e.2.2.2], clean q = true) ∧ ([tI e.1, tW e.2.1, tI e.2.2.1, tD e.2.2.2].map Tx.len).sum ≤ 30 := by
  obtain ⟨c1, c2⟩ := clean_D M
  have l1 := len_I (i := e.1) hg.1 (by omega)
  have l2 := len_W e.2.1
  have l3 := len_I (i := e.2.2.1) M.1.1 (by have := M.1.2; omega)
  constructor
  · intro q hq
    simp only [List.mem_cons, List.not_mem_nil, or_false] at hq
    rcases hq with rfl | rfl | rfl | rfl
    · exact clean_I hg.1 (by omega)
    · exact clean_W _
    · exact clean_I M.1.1 (by have := M.1.2; omega)
    · exact c1
  · simp only [List.map_cons, List.map_nil, List.sum_cons, List.sum_nil]; omega
structure Good49 (m : TRoom) : Prop where
  n0 : 1 ≤ m.1.length
  n5 : m.1.length ≤ 5
  R : RmOk m.1.length m
  M : MarkT m
theorem Good49.gs {m : TRoom} (G : Good49 m) : ∀ e ∈ m.2, 0 ≤ e.1 ∧ e.1 ≤ 9 := fun e he => by have := G.R.gs e he; have := G.n5; omega
theorem parts_good {m : TRoom} (G : Good49 m) : tSplit (v_room_text m) (tS ", ") = tJoin (tS " ") (m.1.map tW) :: (m.2.map fun e : TEn => v_wait_text e) ∧ tSplit (tJoin (tS " ") (m.1.map tW)) (tS " ") = m.1.map tW := by
  have len := G.n0
  have hn := G.n5
  have few := G.R.few
  have W := rm49 G.R G.M hn
  have e : v_room_text m = tJoin (tS ", ") (tJoin (tS " ") (m.1.map tW) :: m.2.map fun e : TEn => v_wait_text e) := rfl
  obtain ⟨w, ws, hw⟩ : ∃ w ws, m.1 = w :: ws := by
    cases h : m.1 with
    | nil => rw [h] at len; simp at len
    | cons w ws => exact ⟨w, ws, rfl⟩
  obtain ⟨j1, j2⟩ := words_len m.1 W.w
  have wl : ((m.1.map tW).map Tx.len).sum ≤ m.1.length * 10 := by
    clear hw
    generalize m.1 = l
    induction l with
    | nil => simp
    | cons y ys ih =>
      rw [List.map_cons, List.map_cons, List.sum_cons, List.length_cons, Nat.succ_mul]
      have := len_W y
      omega
  obtain ⟨p1, p2⟩ : tSplit (tJoin (tS " ") (m.1.map tW)) (tS " ") = m.1.map tW ∧ SplB (tJoin (tS " ") (m.1.map tW)) (tS " ") := by
    rw [hw] at wl ⊢
    rw [List.map_cons] at wl ⊢
    exact split_sp (tW w) (ws.map tW) (fun q hq => by
      obtain ⟨x, _, rfl⟩ := List.mem_map.mp (show q ∈ (w :: ws).map tW from hq)
      exact clean_W x) (by
        rw [List.length_cons, List.length_map]
        rw [hw] at hn
        rw [List.length_cons] at hn wl
        omega)
  have fr : ∀ q ∈ tJoin (tS " ") (m.1.map tW) :: (m.2.map fun e : TEn => v_wait_text e), 44 ∉ q.1.cps.toList := fun q hq => by
    rcases List.mem_cons.mp hq with rfl | hq
    · exact free_join (by decide +kernel) _ fun y hy => by
        obtain ⟨x, _, rfl⟩ := List.mem_map.mp hy
        exact (clean_not (clean_W x)).2.1
    · obtain ⟨x, hx, rfl⟩ := List.mem_map.mp hq
      rw [wait_words]
      exact free_join (by decide +kernel) _ fun y hy => (clean_not ((wait_clean (G.gs x hx) (G.M x hx)).1 y hy)).2.1
  have ll : (v_room_text m).len + 2 ≤ 16777216 := by
    have l1 := len_join (tS ", ") (tJoin (tS " ") (m.1.map tW) :: m.2.map fun e : TEn => v_wait_text e)
    rw [← e, l_cm] at l1
    have l2 : ((m.2.map fun e : TEn => v_wait_text e).map Tx.len).sum ≤ m.2.length * 30 := by
      have : ∀ e ∈ m.2, (v_wait_text e).len ≤ 30 := fun e he => (wait_all (W.e e he)).2
      generalize m.2 = l at this
      induction l with
      | nil => simp
      | cons y ys ih =>
        rw [List.map_cons, List.map_cons, List.sum_cons, List.length_cons, Nat.succ_mul]
        have h1 := this y List.mem_cons_self
        have h2 := ih fun z hz => this z (List.mem_cons_of_mem _ hz)
        omega
    rw [List.map_cons, List.sum_cons, List.length_cons, List.length_map] at l1
    omega
  obtain ⟨s1, s2⟩ := split_tx (tS ", ") 44 [32] rfl (by decide +kernel) _ _ fr (by rw [← e]; exact ll)
  rw [← e] at s1 s2
  exact ⟨s1, p1⟩
theorem wait_split {e : TEn} (hg : 0 ≤ e.1 ∧ e.1 ≤ 9) (M : MarkE e) : tSplit (v_wait_text e) (tS " ") = [tI e.1, tW e.2.1, tI e.2.2.1, tD e.2.2.2] := by
  obtain ⟨c1, c2⟩ := wait_clean hg M
  obtain ⟨s1, s2⟩ := split_sp _ _ c1 (by simp only [List.length_cons, List.length_nil]; omega)
  rw [← wait_words] at s1
  exact s1
theorem ws_good {m : TRoom} (G : Good49 m) : ws49 (v_room_text m) = m.1.map tW ∧ ps49 (v_room_text m) = m.2.map fun e : TEn => v_wait_text e := by
  obtain ⟨a, b⟩ := parts_good G
  unfold ws49 ps49
  rw [a]
  exact ⟨b, rfl⟩
theorem wof_map (l : List Wd) : (l.map tW).map wOf = l := by
  rw [List.map_map]
  exact (List.map_congr_left fun x _ => wOf_tW x).trans (List.map_id _)
theorem pl_all {m : TRoom} (G : Good49 m) : ((m.1.map tW).all fun w => decide (w ∈ plT)) = true := List.all_eq_true.mpr fun w hw => by
  obtain ⟨v, hv, rfl⟩ := List.mem_map.mp hw
  exact decide_eq_true (List.mem_map.mpr ⟨v, G.R.pl v hv, rfl⟩)
theorem left_oL {l : Option Int} (h : l = none ∨ ∃ k : Int, l = some k ∧ 1 ≤ k ∧ k ≤ 9) : oLf l = true := by
  rcases h with rfl | ⟨k, rfl, h1, h2⟩
  · rfl
  · show (decide _ && decide _) = true
    rw [decide_eq_true h1, decide_eq_true h2]; rfl
theorem readRm_good {m : TRoom} (G : Good49 m) : readRm (v_room_text m) = some m := by
  obtain ⟨w1, w2⟩ := ws_good G
  have hes : es49 (v_room_text m) = m.2.map fun e : TEn => (some (some e.1, tW e.2.1, some e.2.2.1, e.2.2.2) : RawE) := by
    unfold es49
    rw [w2, List.map_map]
    refine List.map_congr_left fun e he => ?_
    show rawE (tSplit (v_wait_text e) (tS " ")) = _
    rw [wait_split (G.gs e he) (G.M e he)]
    obtain ⟨g1, g2⟩ := num1 (G.gs e he).1 (G.gs e he).2
    obtain ⟨m1, m2⟩ := num3 (G.M e he).1.1 (G.M e he).1.2
    show (some (numT (tI e.1) 1, tW e.2.1, numT (tI e.2.2.1) 3, if tD e.2.2.2 = tS "-" then none else numT (tD e.2.2.2) 1) : RawE) = _
    rw [g1, m1]
    congr 4
    rcases (G.M e he).2 with h | ⟨k, h, k1, k2⟩ <;> rw [h]
    · exact if_pos rfl
    · obtain ⟨n1, n2⟩ := num1 (i := k) (by omega) k2
      have ne : ¬ tI k = tS "-" := fun z => by
        rw [z] at n1
        exact absurd n1 (by rw [show numT (tS "-") 1 = none by decide +kernel]; exact fun q => by cases q)
      show (if tI k = tS "-" then none else numT (tI k) 1) = some k
      rw [if_neg ne, n1]
  have hrm : rmOf (ws49 (v_room_text m)) (es49 (v_room_text m)) = m := by
    unfold rmOf
    rw [w1, hes, wof_map, List.map_map]
    have : m.2.map (toEn ∘ fun e : TEn => (some (some e.1, tW e.2.1, some e.2.2.1, e.2.2.2) : RawE)) = m.2 := by
      refine (List.map_congr_left fun e _ => ?_).trans (List.map_id _)
      show toEn (some (some e.1, tW e.2.1, some e.2.2.1, e.2.2.2)) = e
      unfold toEn
      dsimp only
      rw [wOf_tW]; rfl
    rw [this]
  have hl : (ws49 (v_room_text m)).length = m.1.length := by rw [w1, List.length_map]
  have rv := (room_eq G.R (by have := G.n5; omega) G.M).1
  unfold readRm
  rw [hrm, hl, if_pos]
  refine ⟨⟨G.n5, by rw [w1]; exact pl_all G, ?_⟩, rv, rfl⟩
  rw [hes]
  refine List.all_eq_true.mpr fun r hr => ?_
  obtain ⟨e, he, rfl⟩ := List.mem_map.mp hr
  have g := G.R.gs e he
  have M := G.M e he
  unfold isEB
  simp only [Bool.and_eq_true, decide_eq_true_eq]
  refine ⟨⟨?_, ?_⟩, ?_, left_oL M.2⟩
  · show (decide _ && decide _) = true
    rw [decide_eq_true g.1, decide_eq_true (show e.1 ≤ (m.1.length : Int) - 1 by omega)]; rfl
  · rcases G.R.rw e he with h | h <;> rw [h]
    · rw [← rd_tS]; simp
    · rw [← wr_tS]; simp
  · show (decide _ && decide _) = true
    rw [decide_eq_true M.1.1, decide_eq_true M.1.2]; rfl
theorem readRm_sound {t : Tx} (hl : t.len ≤ 620) {m : TRoom} (h : readRm t = some m) : Good49 m ∧ v_room_text m = t := by
  unfold readRm at h
  split at h
  · rename_i k
    obtain ⟨⟨g1, g2, g3⟩, g4, g5⟩ := k
    cases h
    obtain ⟨r1, r2, r3⟩ := room_any (n := (ws49 t).length) rfl (es_few hl g3) g2 g3
    have R := r2.mp g4
    have e : (rmOf (ws49 t) (es49 t)).1.length = (ws49 t).length := R.len
    exact ⟨⟨by rw [e]; exact List.length_pos_iff.mpr (split_ne _ _), by rw [e]; exact g1, by rw [e]; exact R, r3⟩, g5⟩
  · cases h
theorem setN_le (l : List Int) : setN l ≤ l.length := by
  have key : ∀ k : Nat, (firstMet (fun i => l.getD i 0) k).length ≤ k := fun k => by
    induction k with
    | zero => exact Nat.le_refl _
    | succ k ih =>
      rw [firstMet_succ]
      unfold step_dedup
      split
      · omega
      · rw [List.length_append, List.length_singleton]; omega
  exact key _
theorem lawRm_good {m : TRoom} (G : Good49 m) : lawRm (v_room_text m) = some m := by
  obtain ⟨w1, w2⟩ := ws_good G
  have hes : les49 (v_room_text m) = m.2.map some := by
    unfold les49
    rw [w2, w1, List.map_map]
    refine List.map_congr_left fun e he => ?_
    show lawE (m.1.map tW) (tSplit (v_wait_text e) (tS " ")) = _
    rw [wait_split (G.gs e he) (G.M e he)]
    have g := G.R.gs e he
    refine lawE_good (by rw [List.length_map]; exact G.n5) (by rw [List.length_map]; exact g) ?_ (G.R.rw e he) (G.M e he)
    have o := atZ_of g.1 (G.R.out e he)
    have := at_atZ (l := m.1.map tW) g.1 (by rw [List.length_map]; exact g.2)
    rw [List.getElem?_map, G.R.out e he] at this
    have := Option.some.inj this
    rw [← this]
    exact Tx.ext (by decide +kernel)
  have hrm : lrmOf (v_room_text m) = m := by
    unfold lrmOf
    rw [w1, hes, wof_map, List.map_map]
    have : m.2.map ((fun e : Option TEn => e.getD default) ∘ some) = m.2 := (List.map_congr_left fun e _ => rfl).trans (List.map_id _)
    rw [this]
  unfold lawRm
  rw [hrm, hes, if_pos]
  refine ⟨⟨by rw [w1, List.length_map]; exact G.n5, by rw [w1]; exact pl_all G⟩, by simp, ?_⟩
  rw [setN_nodup G.R.nd, List.length_map]
  omega
theorem lawRm_sound {t : Tx} {m : TRoom} (h : lawRm t = some m) : Good49 m ∧ v_room_text m = t := by
  unfold lawRm at h
  split at h
  · rename_i k
    obtain ⟨⟨g1, g2⟩, g3, g4⟩ := k
    have hm := Option.some.inj h
    obtain ⟨p1, p2⟩ := pl_words g2
    have e1 : m.1 = (ws49 t).map wOf := by rw [← hm]; rfl
    have e2 : m.2 = (les49 t).map fun e => e.getD default := by rw [← hm]; rfl
    have l1 : m.1.length = (ws49 t).length := by rw [e1, List.length_map]
    have each : ∀ p ∈ ps49 t, ∃ x, lawE (ws49 t) (tSplit p (tS " ")) = some x ∧ EnG (ws49 t) (tSplit p (tS " ")) x ∧ p = v_wait_text x := fun p hp => by
      cases hq : lawE (ws49 t) (tSplit p (tS " ")) with
      | none => exact absurd (List.mem_map.mpr ⟨p, hp, hq⟩) g3
      | some x => exact ⟨x, rfl, lawE_some g1 hq, by rw [wait_words]; exact (law_long g1 hq).1⟩
    have mem : ∀ e ∈ m.2, ∃ p ∈ ps49 t, EnG (ws49 t) (tSplit p (tS " ")) e := fun e he => by
      rw [e2] at he
      obtain ⟨o, ho, rfl⟩ := List.mem_map.mp he
      obtain ⟨p, hp, rfl⟩ := List.mem_map.mp ho
      obtain ⟨x, hx, gx, _⟩ := each p hp
      rw [hx]
      exact ⟨p, hp, gx⟩
    have nd : (m.2.map fun e => e.1).Nodup := by
      refine setN_full ?_
      have := setN_le (m.2.map fun e => e.1)
      rw [List.length_map] at this ⊢
      rw [hm] at g4
      omega
    refine ⟨⟨by rw [l1]; exact List.length_pos_iff.mpr (split_ne _ _), by rw [l1]; exact g1, ⟨rfl, by rw [e1]; exact p2, fun e he => ?_, fun e he => ?_, fun e he => ?_, nd⟩, fun e he => ?_⟩, ?_⟩
    · obtain ⟨p, _, gx⟩ := mem e he
      rw [l1]; exact gx.g
    · obtain ⟨p, _, gx⟩ := mem e he
      have := at_atZ (l := ws49 t) gx.g.1 gx.g.2
      rw [e1, List.getElem?_map, this, gx.o]
      show some (wOf (tS "out")) = some Wd.out
      rw [show (tS "out" : Tx) = tW .out from Tx.ext (by decide +kernel), wOf_tW]
    · obtain ⟨p, _, gx⟩ := mem e he
      exact gx.w
    · obtain ⟨p, _, gx⟩ := mem e he
      exact gx.m
    · have j := tx_join_split t (tS ", ")
      rw [parts_eq] at j
      have j0 := tx_join_split ((tSplit t (tS ", ")).headD (tS "")) (tS " ")
      have j0 : tJoin (tS " ") (ws49 t) = (tSplit t (tS ", ")).headD (tS "") := j0
      have e : v_room_text m = tJoin (tS ", ") (tJoin (tS " ") (m.1.map tW) :: m.2.map fun e : TEn => v_wait_text e) := rfl
      have ps : (m.2.map fun e : TEn => v_wait_text e) = ps49 t := by
        rw [e2]
        unfold les49
        rw [List.map_map, List.map_map]
        refine (List.map_congr_left fun p hp => ?_).trans (List.map_id _)
        obtain ⟨x, hx, _, px⟩ := each p hp
        simp only [Function.comp_apply, hx, Option.getD_some]
        exact px.symm
      rw [e, ps, e1, p1, j0, j]
  · cases h
/-- both read alike -/
theorem both_read {t : Tx} (hl : t.len ≤ 620) : readRm t = lawRm t := by
  cases h : lawRm t with
  | some m =>
    obtain ⟨G, e⟩ := lawRm_sound h
    rw [← e]; exact readRm_good G
  | none =>
    cases h2 : readRm t with
    | none => rfl
    | some m =>
      obtain ⟨G, e⟩ := readRm_sound hl h2
      rw [← e, lawRm_good G] at h
      cases h

noncomputable abbrev rdT (A : Str → Addr) : List (Addr × MF) := [(A "read_rule", F_read_rule), (A "read_room", F_read_room)]
theorem rd_rule (A : Str → Addr) : (rdT A).find? (fun q => decide (q.1 = A "read_rule")) = some (A "read_rule", F_read_rule) := by
  unfold rdT
  rw [List.find?_cons, decide_eq_true rfl]
theorem rd_room {A : Str → Addr} (hA : A "read_room" ≠ A "read_rule") : (rdT A).find? (fun q => decide (q.1 = A "read_room")) = some (A "read_room", F_read_room) := by
  unfold rdT
  rw [List.find?_cons, decide_eq_false (Ne.symm hA), List.find?_cons, decide_eq_true rfl]
abbrev xcs : List Str := ["GuestError", "NoDeed", "NoText", "TooMany", "NoLine"]
theorem read_ok {A : Str → Addr} {g : Addr} {F : MF} {t d : D} {h : Hh} (hf : (rdT A).find? (fun q => decide (q.1 = g)) = some (g, F)) (e : F [t] h = .ok d h) (hd : ∀ m, frzD m h d = some d) : F__law_read A [.glb (.ref g), t] h = .ok d h := by
  refine frzF_of (g := []) (d := d) ?_ (by rw [List.append_nil]; exact hd _)
  rw [List.append_nil, ev_run2]
  show outR (b__law_read A [some (.glb (.ref g)), some t, none, none, none] h) = _
  have s1 : sAsg (eC .non) (MR.gName 2) [some (.glb (.ref g)), some t, none, none, none] h = .nx [some (.glb (.ref g)), some t, some .non, none, none] h := by simp
  have s2 : sAsg (eC .non) (MR.gName 3) [some (.glb (.ref g)), some t, some .non, none, none] h = .nx [some (.glb (.ref g)), some t, some .non, some .non, none] h := by simp
  have s0 : sAsg (eCallT 0 (rdT A) (aCons (eSlot 1) aNil)) (MR.gName 3) [some (.glb (.ref g)), some t, some .non, some .non, none] h = .nx [some (.glb (.ref g)), some t, some .non, some d, none] h := by
    have ec : eCallT 0 (rdT A) (aCons (eSlot 1) aNil) [some (.glb (.ref g)), some t, some .non, some .non, none] h = .ok d h := by
      unfold eCallT
      show (match (rdT A).find? (fun q => decide (q.1 = g)) with | some q => _ | none => _) = _
      rw [hf]; exact e
    generalize eCallT 0 (rdT A) (aCons (eSlot 1) aNil) = E at ec ⊢
    simp [ec]
  have s3 : sNote xcs "GuestError" 4 2 (sAsg (eCallT 0 (rdT A) (aCons (eSlot 1) aNil)) (MR.gName 3)) [some (.glb (.ref g)), some t, some .non, some .non, none] h = .nx [some (.glb (.ref g)), some t, some .non, some d, none] h := by
    unfold sNote
    rw [s0]
  have ny : isNO false .non .non h = some (.bl true) := rfl
  have s4 : sIf (tE (eOp2 (isNO false) (eSlot 2) (eC .non))) (sRet (eSlot 3)) MR.sNext [some (.glb (.ref g)), some t, some .non, some d, none] h = .rt d h := by simp [ny]
  unfold b__law_read
  rw [sq_nx s1, sq_nx s2, sq_nx s3]
  unfold sSeq
  rw [s4]
  rfl
theorem read_err {A : Str → Addr} {ga : Addr} {F : MF} {t y : D} {h g : Hh} (hf : (rdT A).find? (fun q => decide (q.1 = ga)) = some (ga, F)) (e : F [t] h = .err ⟨"NoText", some ("row", y)⟩ (h ++ g)) (hy : ∀ m H, frzD m H y = some y) : F__law_read A [.glb (.ref ga), t] h = .ok (.tup [.str "*", y]) h := by
  have hz : ∀ m H, frzD m H (.tup [.str "*", y]) = some (.tup [.str "*", y]) := fun m H => by
    rw [frzD, frzDs, frzDs, frzDs, hy]; rfl
  refine frzF_of (g := g ++ [.exc ⟨"NoText", some ("row", y)⟩]) (d := .tup [.str "*", y]) ?_ (hz _ _)
  rw [← List.append_assoc, ev_run2]
  show outR (b__law_read A [some (.glb (.ref ga)), some t, none, none, none] h) = _
  have s1 : sAsg (eC .non) (MR.gName 2) [some (.glb (.ref ga)), some t, none, none, none] h = .nx [some (.glb (.ref ga)), some t, some .non, none, none] h := by simp
  have s2 : sAsg (eC .non) (MR.gName 3) [some (.glb (.ref ga)), some t, some .non, none, none] h = .nx [some (.glb (.ref ga)), some t, some .non, some .non, none] h := by simp
  have s0 : sAsg (eCallT 0 (rdT A) (aCons (eSlot 1) aNil)) (MR.gName 3) [some (.glb (.ref ga)), some t, some .non, some .non, none] h = .er ⟨"NoText", some ("row", y)⟩ [some (.glb (.ref ga)), some t, some .non, some .non, none] (h ++ g) := by
    have ec : eCallT 0 (rdT A) (aCons (eSlot 1) aNil) [some (.glb (.ref ga)), some t, some .non, some .non, none] h = .err ⟨"NoText", some ("row", y)⟩ (h ++ g) := by
      unfold eCallT
      show (match (rdT A).find? (fun q => decide (q.1 = ga)) with | some q => _ | none => _) = _
      rw [hf]; exact e
    generalize eCallT 0 (rdT A) (aCons (eSlot 1) aNil) = E at ec ⊢
    simp [ec]
  generalize h ++ g = H at s0 e ⊢
  have s3 : sNote xcs "GuestError" 4 2 (sAsg (eCallT 0 (rdT A) (aCons (eSlot 1) aNil)) (MR.gName 3)) [some (.glb (.ref ga)), some t, some .non, some .non, none] h = .nx [some (.glb (.ref ga)), some t, some (.ref H.length), some .non, none] (H ++ [.exc ⟨"NoText", some ("row", y)⟩]) := by
    unfold sNote
    rw [s0]
    show (if ("NoText" : Str) ∈ xcs then (if subX "NoText" "GuestError" = true then _ else _) else _) = _
    rw [if_pos (by decide), if_pos (by decide)]
    rfl
  have hx : (H ++ [O.exc ⟨"NoText", some ("row", y)⟩])[H.length]? = some (.exc ⟨"NoText", some ("row", y)⟩) := by simp
  have sl : ∀ (c w : List Str), eXis c w (eSlot 2) [some (.glb (.ref ga)), some t, some (.ref H.length), some .non, none] (H ++ [.exc ⟨"NoText", some ("row", y)⟩]) = lift (xisO c w (.ref H.length) (H ++ [.exc ⟨"NoText", some ("row", y)⟩])) (H ++ [.exc ⟨"NoText", some ("row", y)⟩]) := fun _ _ => rfl
  have y1 : eXis xcs ["NoText"] (eSlot 2) [some (.glb (.ref ga)), some t, some (.ref H.length), some .non, none] (H ++ [.exc ⟨"NoText", some ("row", y)⟩]) = Res.ok (.bl true) (H ++ [.exc ⟨"NoText", some ("row", y)⟩]) := by
    rw [sl, ev_xisO, hx, ev_refXis, if_pos (by show ("NoText" : Str) ∈ xcs; decide)]; rfl
  have y2 : eXis xcs ["NoDeed", "NoLine", "TooMany"] (eSlot 2) [some (.glb (.ref ga)), some t, some (.ref H.length), some .non, none] (H ++ [.exc ⟨"NoText", some ("row", y)⟩]) = Res.ok (.bl false) (H ++ [.exc ⟨"NoText", some ("row", y)⟩]) := by
    rw [sl, ev_xisO, hx, ev_refXis, if_pos (by show ("NoText" : Str) ∈ xcs; decide)]; rfl
  have y3 : eXis xcs ["ValueError"] (eSlot 2) [some (.glb (.ref ga)), some t, some (.ref H.length), some .non, none] (H ++ [.exc ⟨"NoText", some ("row", y)⟩]) = Res.ok (.bl true) (H ++ [.exc ⟨"NoText", some ("row", y)⟩]) := by
    rw [sl, ev_xisO, hx, ev_refXis, if_pos (by show ("NoText" : Str) ∈ xcs; decide)]; rfl
  have y4 : eXfld "row" ["NoText"] (eSlot 2) [some (.glb (.ref ga)), some t, some (.ref H.length), some .non, none] (H ++ [.exc ⟨"NoText", some ("row", y)⟩]) = Res.ok y (H ++ [.exc ⟨"NoText", some ("row", y)⟩]) := by
    have : eXfld "row" ["NoText"] (eSlot 2) [some (.glb (.ref ga)), some t, some (.ref H.length), some .non, none] (H ++ [.exc ⟨"NoText", some ("row", y)⟩]) = lift (xfldO "row" ["NoText"] (.ref H.length) (H ++ [.exc ⟨"NoText", some ("row", y)⟩])) (H ++ [.exc ⟨"NoText", some ("row", y)⟩]) := rfl
    rw [this, ev_xfldO, hx, ev_refXfld, if_pos (by decide), if_pos rfl]; rfl
  have nn : ∀ H', isNO false (.ref H.length) .non H' = some (.bl false) := fun _ => rfl
  unfold b__law_read
  rw [sq_nx s1, sq_nx s2, sq_nx s3]
  generalize eXis ["GuestError", "NoDeed", "NoText", "TooMany", "NoLine"] ["NoText"] (eSlot 2) = E1 at y1 ⊢
  generalize eXis ["GuestError", "NoDeed", "NoText", "TooMany", "NoLine"] ["NoDeed", "NoLine", "TooMany"] (eSlot 2) = E2 at y2 ⊢
  generalize eXis ["GuestError", "NoDeed", "NoText", "TooMany", "NoLine"] ["ValueError"] (eSlot 2) = E3 at y3 ⊢
  generalize eXfld "row" ["NoText"] (eSlot 2) = E4 at y4 ⊢
  generalize H.length = hl at y1 y2 y3 y4 nn ⊢
  generalize H ++ [O.exc ⟨"NoText", some ("row", y)⟩] = H2 at y1 y2 y3 y4 ⊢
  simp [nn, y1, y2, y3, y4]
abbrev eStar : D := .tup [.str "*", .non]
theorem rule_read {t : Tx} (hl : t.len ≤ 620) (A : Str → Addr) (h : Hh) :
    (readB t = true → F__law_read A [.glb (.ref (A "read_rule")), eX t] h = .ok (eT4 eW D.int D.int D.int (ruR (rawR (tSplit t (tS " "))))) h) ∧ (readB t = false → F__law_read A [.glb (.ref (A "read_rule")), eX t] h = .ok eStar h) := by
  obtain ⟨s1, s2, _⟩ := spl_any t (tS " ") (by decide +kernel) (by omega)
  obtain ⟨a, b⟩ := read_any s1 (fun x hx => numB1 x (by have := s2 x hx; omega)) h
  exact ⟨fun c => read_ok (rd_rule A) (a c) fun m => rfl, fun c => read_err (g := []) (rd_rule A) (by rw [List.append_nil]; exact b c) fun _ _ => rfl⟩
theorem room_read {t : Tx} (hl : t.len ≤ 620) {A : Str → Addr} (hA : A "read_room" ≠ A "read_rule") (h : Hh) :
    F__law_read A [.glb (.ref (A "read_room")), eX t] h = .ok (match readRm t with | some m => eRoom m | none => eStar) h := by
  obtain ⟨a, b⟩ := read_room_any hl h
  cases c : readRm t with
  | some m => exact read_ok (rd_room hA) (a m c) fun n => frz_e (e := eRoom) _ _ _
  | none => exact read_err (g := []) (rd_room hA) (by rw [List.append_nil]; exact b c) fun _ _ => rfl
theorem thing_rule {x : D} {h : Hh} (A : Str → Addr) (hx : isiO [x, .glb (.ty "str")] h = some (.bl false)) : F__law_read A [.glb (.ref (A "read_rule")), x] h = .ok eStar h := by
  have e : F_read_rule [x] h = .err ⟨"NoText", some ("row", .non)⟩ (h ++ []) := by
    rw [List.append_nil]
    refine frz_err ?_
    rw [ev_run1]
    unfold b_read_rule
    simp [-ev_isi, hx, mkNoRow]
  exact read_err (rd_rule A) e fun m H => rfl
theorem thing_room {x : D} {h : Hh} {A : Str → Addr} (hA : A "read_room" ≠ A "read_rule") (hx : isiO [x, .glb (.ty "str")] h = some (.bl false)) : F__law_read A [.glb (.ref (A "read_room")), x] h = .ok eStar h := by
  have e : F_read_room [x] h = .err ⟨"NoText", some ("row", .non)⟩ (h ++ []) := by
    rw [List.append_nil]
    refine frz_err ?_
    rw [ev_run1]
    unfold b_read_room
    simp [-ev_isi, hx, mkNoRow]
  exact read_err (rd_room hA) e fun m H => rfl

theorem getG_cons {κ α : Type} [DecidableEq κ] (p : κ × α) (l : List (κ × α)) (j : κ) : getG (p :: l) j = if p.1 = j then some p.2 else getG l j := by
  unfold getG
  rw [List.find?_cons]
  by_cases h : p.1 = j
  · rw [decide_eq_true h, if_pos h]; rfl
  · rw [decide_eq_false h, if_neg h]
theorem getG_app {κ α : Type} [DecidableEq κ] (p : κ × α) (j : κ) : ∀ l : List (κ × α), getG (l ++ [p]) j = match getG l j with | some v => some v | none => if p.1 = j then some p.2 else none
  | [] => by rw [List.nil_append, getG_cons]; rfl
  | q :: l => by
    rw [List.cons_append, getG_cons, getG_cons, getG_app p j l]
    split <;> rfl
theorem getG_put {κ α : Type} [DecidableEq κ] (kvs : List (κ × α)) (k : κ) (v : α) (j : κ) : getG (putG kvs k v) j = if j = k then some v else getG kvs j := by
  have up : ∀ kvs : List (κ × α), getG (kvs.map fun kv => if kv.1 = k then (kv.1, v) else kv) j = if j = k then (getG kvs k).map (fun _ => v) else getG kvs j := by
    intro kvs
    induction kvs with
    | nil => split <;> rfl
    | cons p l ih =>
      rw [List.map_cons, getG_cons, getG_cons, getG_cons, ih]
      by_cases hp : p.1 = k
      · rw [if_pos hp]
        by_cases hj : j = k
        · rw [if_pos (hp.trans hj.symm), if_pos hp, if_pos hj]; rfl
        · rw [if_neg hj, if_neg (fun z => hj (z.symm.trans hp)), if_neg hj, if_neg (fun z => hj (z.symm.trans hp))]
      · rw [if_neg hp, if_neg hp]
        by_cases hj : j = k
        · rw [if_pos hj, if_pos hj, if_neg (fun z => hp (z.trans hj))]
        · rw [if_neg hj, if_neg hj]
  unfold putG
  rw [any_get]
  cases h : getG kvs k with
  | some w =>
    rw [if_pos (show (some w).isSome = true from rfl), up, h]; rfl
  | none =>
    rw [if_neg (show ¬ (none : Option α).isSome = true by simp), getG_app]
    by_cases hj : j = k
    · rw [if_pos hj, hj, h]
      dsimp only
      rw [if_pos rfl]
    · rw [if_neg hj]
      cases getG kvs j with
      | some x => rfl
      | none =>
        dsimp only
        rw [if_neg (fun z => hj (Eq.symm z))]
theorem putG_len {κ α : Type} [DecidableEq κ] (kvs : List (κ × α)) (k : κ) (v : α) : (putG kvs k v).length = kvs.length + (if (getG kvs k).isSome = true then 0 else 1) := by
  unfold putG
  rw [any_get]
  split
  · rw [List.length_map, Nat.add_zero]
  · rw [List.length_append, List.length_singleton]

theorem for_src {M : Int} (h1 : -1000000 ≤ M) (h2 : M ≤ 1000000) {e : ME} {T : Tg} {b : MS} {env : DEnv} {h h1' : Hh} {r : RS} (q : e env h = .ok (.int M) h1') (l : forL none (bodyT T b) ((rngT 0 M).map D.int) env h1' = r) (nr : ∃ e h, r = .nx e h) : sFor (iA rng1 (aCons e aNil)) T b env h = r := by
  have e2 : (aCons e aNil) env h = .ok [.int M] h1' := by simp [q]
  have es : iA rng1 (aCons e aNil) env h = .ok ⟨(rngT 0 M).map D.int, none⟩ h1' := by
    rw [← rng_map]
    unfold iA
    rw [e2, bind_ok]
    show lift (if -1000000 ≤ M ∧ M ≤ 1000000 then some (⟨rangeD 0 M, none⟩ : Src) else none) h1' = _
    rw [if_pos ⟨h1, h2⟩]; rfl
  unfold sFor
  rw [es]
  obtain ⟨e1, h3, rfl⟩ := nr
  exact l
abbrev eRu : TRule → D := eT4 eW D.int D.int D.int
noncomputable def rT (r : TRule) : Tx := v__law_rule_text r
noncomputable def dictR : List TRule → List (Key × D) → List (Key × D)
  | [], L => L
  | r :: rs, L => dictR rs (putG L (Sum.inr (rT r).1) (eRu r))
theorem dictR_app : ∀ (a b : List TRule) (L : List (Key × D)), dictR (a ++ b) L = dictR b (dictR a L)
  | [], b, L => rfl
  | r :: a, b, L => dictR_app a b _
theorem dictR_len : ∀ (a : List TRule) (L : List (Key × D)), (dictR a L).length ≤ L.length + a.length
  | [], L => Nat.le_refl _
  | r :: a, L => by
    have h1 := dictR_len a (putG L (Sum.inr (rT r).1) (eRu r))
    have h2 := putG_len L (Sum.inr (rT r).1) (eRu r)
    have h3 : (if (getG L (Sum.inr (rT r).1)).isSome = true then 0 else 1) ≤ 1 := by split <;> omega
    show (dictR a (putG L (Sum.inr (rT r).1) (eRu r))).length ≤ _
    rw [List.length_cons]
    omega
def rs0 (w : Wd) (k m : Int) : List TRule := [(w, m, k, 0), (w, m, k, 1)]
def rs1 (w : Wd) (k : Int) (ms : List Int) : List TRule := (ms.map fun m => rs0 w k m).flatten
def rs2 (w : Wd) (ks : List Int) : List TRule := (ks.map fun k => rs1 w k (rngT 0 6)).flatten
def tmW (w : Wd) : Int := if w = Wd.passes then 10 else 1
def rs3 (ws : List Wd) : List TRule := (ws.map fun w => rs2 w (rngT 0 (tmW w))).flatten
def allR : List TRule := rs3 [Wd.rows, Wd.readers, Wd.writers, Wd.turns, Wd.passes]
theorem put_r {r : TRule} (ro : Rule6 r) {L : List (Key × D)} (hl : L.length < 16777216) :
    L__law_rules_0 [some (.ref 0), some (eW r.1), some (.int r.2.2.1), some (.int r.2.1), some (.int r.2.2.2)] [.dK L] = .nx [some (.ref 0), some (eW r.1), some (.int r.2.2.1), some (.int r.2.1), some (.int r.2.2.2)] [.dK (dictR [r] L)] := by
  have et := t__law_rule_text r [.dK L] (lrule_d ro)
  have et : F__law_rule_text [eRu r] [.dK L] = .ok (eX (rT r)) [.dK L] := et
  have e1 : (eSlot 0) [some (.ref 0), some (eW r.1), some (.int r.2.2.1), some (.int r.2.1), some (.int r.2.2.2)] [.dK L] = .ok (.ref 0) [.dK L] := rfl
  have e0 : (eTup (aCons (eSlot 1) (aCons (eSlot 3) (aCons (eSlot 2) (aCons (eSlot 4) aNil))))) [some (.ref 0), some (eW r.1), some (.int r.2.2.1), some (.int r.2.1), some (.int r.2.2.2)] [.dK L] = .ok (eRu r) [.dK L] := rfl
  have e3 : setDO (.ref 0) (eX (rT r)) (eRu r) [.dK L] = some [.dK (dictR [r] L)] := by
    show (if L.length < 16777216 then some (([O.dK L]).set 0 (.dK (putG L (Sum.inr (rT r).1) (eRu r)))) else none) = _
    rw [if_pos hl]; rfl
  unfold L__law_rules_0
  generalize (eTup (aCons (eSlot 1) (aCons (eSlot 3) (aCons (eSlot 2) (aCons (eSlot 4) aNil))))) = E at e0 ⊢
  have e2 : eCall F__law_rule_text (aCons E aNil) [some (.ref 0), some (eW r.1), some (.int r.2.2.1), some (.int r.2.1), some (.int r.2.2.2)] [.dK L] = .ok (eX (rT r)) [.dK L] := by
    have : aCons E aNil [some (.ref 0), some (eW r.1), some (.int r.2.2.1), some (.int r.2.1), some (.int r.2.2.2)] [.dK L] = .ok [eRu r] [.dK L] := by simp [e0]
    unfold eCall
    rw [this, bind_ok]; exact et
  have e4 : gSubD (eSlot 0) (eCall F__law_rule_text (aCons E aNil)) setDO (eRu r) [some (.ref 0), some (eW r.1), some (.int r.2.2.1), some (.int r.2.1), some (.int r.2.2.2)] [.dK L] = some ([some (.ref 0), some (eW r.1), some (.int r.2.2.1), some (.int r.2.1), some (.int r.2.2.2)], [.dK (dictR [r] L)]) := by
    unfold gSubD
    rw [e1]
    dsimp only
    rw [e2]
    dsimp only
    rw [e3]; rfl
  generalize gSubD (eSlot 0) (eCall F__law_rule_text (aCons E aNil)) setDO = GG at e4 ⊢
  simp [e0, e4]
section
variable {w : Wd} {k m : Int}
theorem loop_r0 (hk : 0 ≤ k ∧ k ≤ 9) (hm : 0 ≤ m ∧ m ≤ 9) {L : List (Key × D)} (hl : L.length < 1000000) (x4 : Option D) :
    L__law_rules_1 [some (.ref 0), some (eW w), some (.int k), some (.int m), x4] [.dK L] = .nx [some (.ref 0), some (eW w), some (.int k), some (.int m), some (.int 1)] [.dK (dictR (rs0 w k m) L)] := by
  have a := put_r (r := (w, m, k, 0)) ⟨hm, hk, .inl rfl⟩ (L := L) (by omega)
  have h1 := dictR_len [(w, m, k, 0)] L
  have b := put_r (r := (w, m, k, 1)) ⟨hm, hk, .inr rfl⟩ (L := dictR [(w, m, k, 0)] L) (by rw [List.length_singleton] at h1; omega)
  unfold L__law_rules_1
  unfold sFor
  show forL none (bodyT (.name 4) L__law_rules_0) [.int 0, .int 1] [some (.ref 0), some (eW w), some (.int k), some (.int m), x4] [.dK L] = _
  have a : bodyT (.name 4) L__law_rules_0 (.int 0) [some (.ref 0), some (eW w), some (.int k), some (.int m), x4] [.dK L] = _ := a
  have b : bodyT (.name 4) L__law_rules_0 (.int 1) [some (.ref 0), some (eW w), some (.int k), some (.int m), some (.int 0)] [.dK (dictR [(w, m, k, 0)] L)] = _ := b
  rw [ev_for_cons, a, ev_lb_nx, ev_for_cons, b, ev_lb_nx, ev_for_nil]
  rfl
theorem loop_r1 (hk : 0 ≤ k ∧ k ≤ 9) : ∀ (ms : List Int), (∀ m ∈ ms, 0 ≤ m ∧ m ≤ 9) → ∀ {L : List (Key × D)}, L.length + 2 * ms.length < 1000000 → ∀ x3 x4,
    ∃ y3 y4, forL none (bodyT (.name 3) L__law_rules_1) (ms.map D.int) [some (.ref 0), some (eW w), some (.int k), x3, x4] [.dK L] = .nx [some (.ref 0), some (eW w), some (.int k), y3, y4] [.dK (dictR (rs1 w k ms) L)]
  | [], _, L, _, x3, x4 => ⟨x3, x4, ev_for_nil ..⟩
  | m :: ms, h, L, hl, x3, x4 => by
    rw [List.length_cons] at hl
    have a := loop_r0 (w := w) (m := m) hk (h m List.mem_cons_self) (L := L) (by omega) x4
    have h1 := dictR_len (rs0 w k m) L
    have h2 : (rs0 w k m).length = 2 := rfl
    obtain ⟨y3, y4, b⟩ := loop_r1 hk ms (fun z hz => h z (List.mem_cons_of_mem _ hz)) (L := dictR (rs0 w k m) L) (by omega) (some (.int m)) (some (.int 1))
    refine ⟨y3, y4, ?_⟩
    have a : bodyT (.name 3) L__law_rules_1 (.int m) [some (.ref 0), some (eW w), some (.int k), x3, x4] [.dK L] = _ := a
    rw [List.map_cons, ev_for_cons, a, ev_lb_nx, b]
    have e : rs1 w k (m :: ms) = rs0 w k m ++ rs1 w k ms := rfl
    rw [e, dictR_app]
theorem rs1_len (w : Wd) (k : Int) (ms : List Int) : (rs1 w k ms).length = 2 * ms.length := by
  induction ms with
  | nil => rfl
  | cons m ms ih =>
    have e : rs1 w k (m :: ms) = rs0 w k m ++ rs1 w k ms := rfl
    have h2 : (rs0 w k m).length = 2 := rfl
    rw [e, List.length_append, ih, List.length_cons, h2]; omega
theorem loop_r2 : ∀ (ks : List Int), (∀ k ∈ ks, 0 ≤ k ∧ k ≤ 9) → ∀ {L : List (Key × D)}, L.length + 12 * ks.length < 1000000 → ∀ x2 x3 x4,
    ∃ y2 y3 y4, forL none (bodyT (.name 2) L__law_rules_2) (ks.map D.int) [some (.ref 0), some (eW w), x2, x3, x4] [.dK L] = .nx [some (.ref 0), some (eW w), y2, y3, y4] [.dK (dictR (rs2 w ks) L)]
  | [], _, L, _, x2, x3, x4 => ⟨x2, x3, x4, ev_for_nil ..⟩
  | k :: ks, h, L, hl, x2, x3, x4 => by
    rw [List.length_cons] at hl
    have r6 : (rngT 0 6).length = 6 := rfl
    obtain ⟨y3, y4, a⟩ := loop_r1 (w := w) (h k List.mem_cons_self) (rngT 0 6) (fun m hm => by have := mem_rngT.mp hm; omega) (L := L) (by rw [r6]; omega) x3 x4
    have h1 := dictR_len (rs1 w k (rngT 0 6)) L
    rw [rs1_len, r6] at h1
    obtain ⟨z2, z3, z4, b⟩ := loop_r2 ks (fun z hz => h z (List.mem_cons_of_mem _ hz)) (L := dictR (rs1 w k (rngT 0 6)) L) (by omega) (some (.int k)) y3 y4
    refine ⟨z2, z3, z4, ?_⟩
    have a : bodyT (.name 2) L__law_rules_2 (.int k) [some (.ref 0), some (eW w), x2, x3, x4] [.dK L] = .nx [some (.ref 0), some (eW w), some (.int k), y3, y4] [.dK (dictR (rs1 w k (rngT 0 6)) L)] := by
      show L__law_rules_2 [some (.ref 0), some (eW w), some (.int k), x3, x4] [.dK L] = _
      unfold L__law_rules_2
      exact a
    rw [List.map_cons, ev_for_cons, a, ev_lb_nx, b]
    have e : rs2 w (k :: ks) = rs1 w k (rngT 0 6) ++ rs2 w ks := rfl
    rw [e, dictR_app]
end
theorem rs2_len (w : Wd) (ks : List Int) : (rs2 w ks).length = 12 * ks.length := by
  induction ks with
  | nil => rfl
  | cons k ks ih =>
    have e : rs2 w (k :: ks) = rs1 w k (rngT 0 6) ++ rs2 w ks := rfl
    have r6 : (rngT 0 6).length = 6 := rfl
    rw [e, List.length_append, ih, List.length_cons, rs1_len, r6]; omega
theorem tm_run (w : Wd) (x2 x3 x4 : Option D) (h : Hh) : (eOp2 ixA (eFrz (aCons (eC (.int 1)) (aCons (eC (.int 10)) aNil))) (eOpN int1O (aCons (eOp2 eqO (eSlot 1) (eC (.str "passes"))) aNil))) [some (.ref 0), some (eW w), x2, x3, x4] h = .ok (.int (tmW w)) h := by
  have e : eqO (eW w) (.str "passes") h = some (.bl (decide (w = Wd.passes))) := o_eq eW w Wd.passes (h := h)
  unfold tmW
  cases hw : decide (w = Wd.passes) with
  | true =>
    rw [hw] at e
    rw [if_pos (of_decide_eq_true hw)]
    generalize eW w = d at e
    simp [e]
  | false =>
    rw [hw] at e
    rw [if_neg (of_decide_eq_false hw)]
    generalize eW w = d at e
    simp [e]
theorem tm_b (w : Wd) : 1 ≤ tmW w ∧ tmW w ≤ 10 := by
  unfold tmW
  split <;> decide
theorem loop_r3 : ∀ (ws : List Wd) {L : List (Key × D)}, L.length + 120 * ws.length < 1000000 → ∀ x1 x2 x3 x4,
    ∃ y1 y2 y3 y4, forL none (bodyT (.name 1) L__law_rules_3) (ws.map eW) [some (.ref 0), x1, x2, x3, x4] [.dK L] = .nx [some (.ref 0), y1, y2, y3, y4] [.dK (dictR (rs3 ws) L)]
  | [], L, _, x1, x2, x3, x4 => ⟨x1, x2, x3, x4, ev_for_nil ..⟩
  | w :: ws, L, hl, x1, x2, x3, x4 => by
    rw [List.length_cons] at hl
    obtain ⟨t1, t2⟩ := tm_b w
    have rl : (rngT 0 (tmW w)).length = (tmW w).toNat := by rw [rngT_len]; congr 1; omega
    obtain ⟨y2, y3, y4, a⟩ := loop_r2 (w := w) (rngT 0 (tmW w)) (fun m hm => by have := mem_rngT.mp hm; omega) (L := L) (by rw [rl]; omega) x2 x3 x4
    have h1 := dictR_len (rs2 w (rngT 0 (tmW w))) L
    rw [rs2_len, rl] at h1
    obtain ⟨z1, z2, z3, z4, b⟩ := loop_r3 ws (L := dictR (rs2 w (rngT 0 (tmW w))) L) (by omega) (some (eW w)) y2 y3 y4
    refine ⟨z1, z2, z3, z4, ?_⟩
    have a : bodyT (.name 1) L__law_rules_3 (eW w) [some (.ref 0), x1, x2, x3, x4] [.dK L] = .nx [some (.ref 0), some (eW w), y2, y3, y4] [.dK (dictR (rs2 w (rngT 0 (tmW w))) L)] := by
      show L__law_rules_3 [some (.ref 0), some (eW w), x2, x3, x4] [.dK L] = _
      unfold L__law_rules_3
      exact for_src (by omega) (by omega) (tm_run w x2 x3 x4 _) a ⟨_, _, rfl⟩
    rw [List.map_cons, ev_for_cons, a, ev_lb_nx, b]
    have e : rs3 (w :: ws) = rs2 w (rngT 0 (tmW w)) ++ rs3 ws := rfl
    rw [e, dictR_app]
theorem rules_run : F__law_rules [] [] = .ok (.ref 0) [.dK (dictR allR [])] := by
  obtain ⟨y1, y2, y3, y4, a⟩ := loop_r3 [Wd.rows, Wd.readers, Wd.writers, Wd.turns, Wd.passes] (L := []) (by decide) none none none none
  show runF 0 N__law_rules b__law_rules [] [] = _
  have : runF 0 N__law_rules b__law_rules [] [] = outR (b__law_rules [none, none, none, none, none] []) := rfl
  rw [this]
  unfold b__law_rules
  have s1 : sAsg (eDict0) (MR.gName 0) [none, none, none, none, none] [] = .nx [some (.ref 0), none, none, none, none] [.dK []] := rfl
  rw [sq_nx s1]
  have s2 : sFor (iOf (eTup (aCons (eC (.str "rows")) (aCons (eC (.str "readers")) (aCons (eC (.str "writers")) (aCons (eC (.str "turns")) (aCons (eC (.str "passes")) aNil))))))) (.name 1) L__law_rules_3 [some (.ref 0), none, none, none, none] [.dK []] = .nx [some (.ref 0), y1, y2, y3, y4] [.dK (dictR allR [])] := a
  rw [sq_nx s2]
  rfl
theorem rs3_mem {ws : List Wd} {r : TRule} : r ∈ rs3 ws ↔ r.1 ∈ ws ∧ (0 ≤ r.2.1 ∧ r.2.1 < 6) ∧ (0 ≤ r.2.2.1 ∧ r.2.2.1 < tmW r.1) ∧ (r.2.2.2 = 0 ∨ r.2.2.2 = 1) := by
  obtain ⟨w, m, k, u⟩ := r
  unfold rs3 rs2 rs1 rs0
  simp only [List.mem_flatten, List.mem_map, mem_rngT]
  constructor
  · rintro ⟨_, ⟨w', hw, rfl⟩, h⟩
    simp only [List.mem_flatten, List.mem_map, mem_rngT] at h
    obtain ⟨_, ⟨k', hk, rfl⟩, h⟩ := h
    simp only [List.mem_flatten, List.mem_map, mem_rngT] at h
    obtain ⟨_, ⟨m', hm, rfl⟩, h⟩ := h
    simp only [List.mem_cons, List.not_mem_nil, or_false] at h
    rcases h with h | h <;> cases h
    · exact ⟨hw, hm, hk, .inl rfl⟩
    · exact ⟨hw, hm, hk, .inr rfl⟩
  · rintro ⟨hw, hm, hk, hu⟩
    refine ⟨_, ⟨w, hw, rfl⟩, ?_⟩
    simp only [List.mem_flatten, List.mem_map, mem_rngT]
    refine ⟨_, ⟨k, hk, rfl⟩, ?_⟩
    simp only [List.mem_flatten, List.mem_map, mem_rngT]
    refine ⟨_, ⟨m, hm, rfl⟩, ?_⟩
    rcases hu with rfl | rfl <;> simp
theorem allR_mem {r : TRule} : r ∈ allR ↔ RuleF r := by
  unfold allR
  rw [rs3_mem]
  constructor
  · rintro ⟨hw, hm, hk, hu⟩
    unfold tmW at hk
    refine ⟨hw, ⟨hm.1, by omega⟩, ?_, fun z => ?_, hu⟩
    · split at hk <;> omega
    · rw [if_neg z] at hk; omega
  · intro F
    refine ⟨F.w, ⟨F.m.1, by have := F.m.2; omega⟩, ⟨F.k.1, ?_⟩, F.u⟩
    unfold tmW
    split
    · have := F.k.2; omega
    · rename_i z; have := F.n z; omega
theorem dictR_none {t : Tx} : ∀ (rs : List TRule) (L : List (Key × D)), (∀ r ∈ rs, rT r ≠ t) → getG (dictR rs L) (Sum.inr t.1) = getG L (Sum.inr t.1)
  | [], L, _ => rfl
  | r :: rs, L, h => by
    show getG (dictR rs (putG L (Sum.inr (rT r).1) (eRu r))) _ = _
    rw [dictR_none rs _ fun x hx => h x (List.mem_cons_of_mem _ hx), getG_put, if_neg]
    intro z
    exact h r List.mem_cons_self (Tx.ext (Sum.inr.inj z).symm)
theorem dictR_some {t : Tx} {r : TRule} : ∀ (rs : List TRule) (L : List (Key × D)), r ∈ rs → rT r = t → (∀ x ∈ rs, rT x = t → x = r) → getG (dictR rs L) (Sum.inr t.1) = some (eRu r)
  | [], L, h, _, _ => nomatch h
  | x :: rs, L, h, ht, hu => by
    show getG (dictR rs (putG L (Sum.inr (rT x).1) (eRu x))) _ = _
    by_cases hr : r ∈ rs
    · exact dictR_some rs _ hr ht fun y hy => hu y (List.mem_cons_of_mem _ hy)
    · rw [dictR_none rs _ fun y hy hz => hr (by rw [← hu y (List.mem_cons_of_mem _ hy) hz]; exact hy), getG_put]
      rcases List.mem_cons.mp h with rfl | h
      · rw [if_pos (by rw [ht])]
      · exact absurd h hr
/-- a rule's text is read as it -/
theorem readB_rule {r : TRule} (F : RuleF r) : readB (rT r) = true ∧ ruR (rawR (tSplit (rT r) (tS " "))) = r := by
  obtain ⟨l1, l2⟩ := len_rW F
  have e := rule_words F
  obtain ⟨s1, s2⟩ := split_sp _ _ l2 l1
  have hw : tW r.1 :: ((if r.1 = Wd.passes then [tI r.2.2.1] else []) ++ ((if 0 < r.2.1 then [tS "most", tI r.2.1] else []) ++ (if r.2.2.2 = 1 then [tS "ups"] else []))) = rW r := rfl
  rw [hw, ← e] at s1
  have er : rT r = v_rule_text r := (rule_eq F.six).symm
  obtain ⟨w, m, k, u⟩ := r
  obtain ⟨Fw, Fm, Fk, Fn, Fu⟩ := F
  dsimp only at Fw Fm Fk Fn Fu
  obtain ⟨m1, m2⟩ := num1 (i := m) Fm.1 (by omega)
  obtain ⟨k1, k2⟩ := num1 Fk.1 Fk.2
  have hr := rest_M Fm Fu
  have raw : rawR (rW (w, m, k, u)) = (tW w, some m, some k, u) := by
    have h0 : rawR (rW (w, m, k, u)) = (tW w, (ruM (ruK (tW w) ((if w = Wd.passes then [tI k] else []) ++ ((if 0 < m then [tS "most", tI m] else []) ++ (if u = 1 then [tS "ups"] else [])))).2).1, (ruK (tW w) ((if w = Wd.passes then [tI k] else []) ++ ((if 0 < m then [tS "most", tI m] else []) ++ (if u = 1 then [tS "ups"] else [])))).1, upsT (ruM (ruK (tW w) ((if w = Wd.passes then [tI k] else []) ++ ((if 0 < m then [tS "most", tI m] else []) ++ (if u = 1 then [tS "ups"] else [])))).2).2) := rfl
    have hK : ruK (tW w) ((if w = Wd.passes then [tI k] else []) ++ ((if 0 < m then [tS "most", tI m] else []) ++ (if u = 1 then [tS "ups"] else []))) = (some k, (if 0 < m then [tS "most", tI m] else []) ++ (if u = 1 then [tS "ups"] else [])) := by
      generalize ((if 0 < m then [tS "most", tI m] else []) ++ (if u = 1 then [tS "ups"] else [])) = rest
      by_cases h1 : w = Wd.passes
      · simp [h1, ruK, k1]
      · have h2 : ¬ tW w = tW .passes := fun z => h1 (tW_inj z)
        have := Fn h1
        subst this
        cases rest with
        | nil => simp [h1, ruK]
        | cons x r => simp [h1, ruK, h2]
    rw [h0, hK, hr]
    rcases Fu with rfl | rfl <;> rfl
  have hru : ruR (rawR (tSplit (rT (w, m, k, u)) (tS " "))) = (w, m, k, u) := by
    rw [er, s1, raw]
    unfold ruR
    dsimp only
    rw [wOf_tW]; rfl
  refine ⟨?_, hru⟩
  unfold readB
  rw [hru, er, decide_eq_true rfl, Bool.and_true, s1, raw]
  unfold isR
  simp only [Bool.and_eq_true, Bool.or_eq_true, decide_eq_true_eq]
  refine ⟨⟨List.mem_map.mpr ⟨w, Fw, rfl⟩, ?_, ?_⟩, ?_⟩
  · show (decide _ && decide _) = true
    rw [decide_eq_true Fm.1, decide_eq_true Fm.2]; rfl
  · show (decide _ && decide _) = true
    rw [decide_eq_true Fk.1, decide_eq_true Fk.2]; rfl
  · by_cases h1 : w = Wd.passes
    · left; rw [h1]
    · right; rw [Fn h1]
/-- what is read as a rule is its text -/
theorem readB_sound {t : Tx} (h : readB t = true) : RuleF (ruR (rawR (tSplit t (tS " ")))) ∧ rT (ruR (rawR (tSplit t (tS " ")))) = t := by
  unfold readB at h
  rw [Bool.and_eq_true] at h
  obtain ⟨h1, h2⟩ := h
  obtain ⟨_, hm, hk, hu, hw, hp⟩ := isR_rule (ups01 _) h1
  have F : RuleF (ruR (rawR (tSplit t (tS " ")))) := ⟨hw, hm, hk, fun z => hp.resolve_left z, hu⟩
  exact ⟨F, (rule_eq F.six).symm.trans (of_decide_eq_true h2)⟩
theorem due_rule (t : Tx) : getG (dictR allR []) (Sum.inr t.1) = if readB t = true then some (eRu (ruR (rawR (tSplit t (tS " "))))) else none := by
  by_cases h : readB t = true
  · obtain ⟨F, e⟩ := readB_sound h
    rw [if_pos h]
    refine dictR_some allR [] (allR_mem.mpr F) e fun x hx ex => ?_
    have := (readB_rule (allR_mem.mp hx)).2
    rw [ex] at this
    exact this.symm
  · rw [if_neg h]
    refine dictR_none allR [] fun r hr er => h ?_
    rw [← er]
    exact (readB_rule (allR_mem.mp hr)).1

def Pln (t : Tx) : Prop := ∀ c ∈ t.1.cps.toList, c < 128
theorem pln_app {a b : Tx} (ha : Pln a) (hb : Pln b) : Pln (tApp a b) := fun c hc => by
  have hc : c ∈ (a.1.cps ++ b.1.cps).toList := hc
  rw [Array.toList_append, List.mem_append] at hc
  exact hc.elim (ha c) (hb c)
def cT (t : Tx) (lo hi : Option Int) : Tx := tOf (cutS t.1 lo hi)
theorem cut_mem (x : Str) (lo hi : Option Int) : ∀ c ∈ (cutS x lo hi).cps.toList, c ∈ x.cps.toList := fun c hc => by
  unfold cutS at hc
  exact List.mem_of_mem_drop (List.mem_of_mem_take hc)
theorem cT_val (t : Tx) (lo hi : Option Int) : (cT t lo hi).1 = cutS t.1 lo hi := tOf_val (ok_iff.mpr fun c hc => ok_iff.mp t.2 c (cut_mem _ _ _ c hc))
theorem cT_len (t : Tx) (lo hi : Option Int) : (cT t lo hi).len ≤ t.len := by
  show (cT t lo hi).1.length ≤ t.1.length
  rw [cT_val]
  exact cutS_length _ _ _
theorem pln_cut {t : Tx} (h : Pln t) (lo hi : Option Int) : Pln (cT t lo hi) := fun c hc => by
  rw [cT_val] at hc
  exact h c (cut_mem _ _ _ c hc)
theorem pln_join {s : Tx} (hs : Pln s) : ∀ ps : List Tx, (∀ p ∈ ps, Pln p) → Pln (tJoin s ps)
  | [], _ => fun c hc => by
    have hc : c ∈ (tZ : Tx).1.cps.toList := hc
    have e : (tZ : Tx).1.cps.toList = [] := by decide +kernel
    rw [e] at hc
    cases hc
  | [p], h => by rw [tx_join1]; exact h p List.mem_cons_self
  | p :: q :: r, h => by
    rw [tx_join2]
    exact pln_app (h p List.mem_cons_self) (pln_app hs (pln_join hs (q :: r) fun x m => h x (List.mem_cons_of_mem _ m)))
theorem pln_split {t s : Tx} (h : Pln t) : ∀ x ∈ tSplit t s, Pln x := fun x hx c hc => by
  have jp := join_parts s.1 (Txt.split t.1 s.1)
  rw [PySem.StrLaws.join_split] at jp
  obtain ⟨p, hp, rfl⟩ := List.mem_map.mp hx
  have e : (tOf p).1 = p := tOf_val (ok_iff.mpr fun c hc => ok_iff.mp t.2 c ((jp p hp).2 c hc))
  rw [e] at hc
  exact h c ((jp p hp).2 c hc)
/-- the lengths of parts, each with a sign more -/
def wt (ps : List Tx) : Nat := (ps.map fun p => p.len + 1).sum
theorem wt_app (a b : List Tx) : wt (a ++ b) = wt a + wt b := by unfold wt; rw [List.map_append, List.sum_append]
theorem wt_sub {a b : List Tx} (h : a.Sublist b) : wt a ≤ wt b := by
  induction h with
  | slnil => exact Nat.le_refl _
  | cons p h ih => unfold wt at *; rw [List.map_cons, List.sum_cons]; omega
  | cons_cons p h ih => unfold wt at *; rw [List.map_cons, List.map_cons, List.sum_cons, List.sum_cons]; omega
theorem wt_rev (a : List Tx) : wt a.reverse = wt a := by
  induction a with
  | nil => rfl
  | cons p a ih => rw [List.reverse_cons, wt_app, ih]; unfold wt; rw [List.map_cons, List.sum_cons, List.map_cons, List.sum_cons]; simp; omega
theorem wt_join {s : Tx} (hs : s.len = 1) : ∀ ps : List Tx, ps ≠ [] → (tJoin s ps).len + 1 = wt ps
  | [], h => absurd rfl h
  | [p], _ => by rw [tx_join1]; unfold wt; simp
  | p :: q :: r, _ => by
    have ih := wt_join hs (q :: r) (by simp)
    rw [tx_join2, len_app, len_app, hs]
    have e : wt (p :: q :: r) = p.len + 1 + wt (q :: r) := by unfold wt; rw [List.map_cons, List.sum_cons]
    rw [e, ← ih]; omega
theorem wt_joinB {s : Tx} (hs : s.len = 1) (ps : List Tx) (h : wt ps ≤ 16777216) : JoinB s ps := by
  unfold JoinB
  rw [hs]
  have : (ps.map Tx.len).sum + ps.length * 1 = wt ps := by
    clear h
    induction ps with
    | nil => rfl
    | cons p ps ih =>
      have e : wt (p :: ps) = p.len + 1 + wt ps := by unfold wt; rw [List.map_cons, List.sum_cons]
      rw [e, ← ih, List.map_cons, List.sum_cons, List.length_cons]; omega
  omega
theorem cutG_sub {α : Type} (xs : List α) (lo hi : Option Int) : (cutG xs lo hi).Sublist xs := (List.take_sublist _ _).trans (List.drop_sublist _ _)
def upT (t : Tx) : Tx := tOf (Txt.upper t.1)
def upC (c : Nat) : Nat := if 97 ≤ c ∧ c ≤ 122 then c - 32 else c
theorem up_list {t : Str} (h : ∀ c ∈ t.cps.toList, c < 128) : (Txt.upper t).cps.toList = t.cps.toList.map upC := by
  have one : ∀ c, c < 128 → PySem.Unicode.upperOf c = [upC c] := by decide +kernel
  show (placed t fun _ c => PySem.Unicode.upperOf c).toList = _
  unfold placed
  rw [Array.toList_flatten, Array.toList_mapIdx]
  have key : ∀ (l : List Nat), (∀ c ∈ l, c < 128) → (List.map Array.toList (List.mapIdx (fun _ c => (PySem.Unicode.upperOf c).toArray) l)).flatten = l.map upC := by
    intro l
    induction l with
    | nil => exact fun _ => rfl
    | cons c l ih =>
      intro hl
      rw [List.mapIdx_cons, List.map_cons, List.flatten_cons, List.map_cons, one c (hl c List.mem_cons_self)]
      have := ih fun x m => hl x (List.mem_cons_of_mem _ m)
      rw [show (List.mapIdx (fun i c => (PySem.Unicode.upperOf c).toArray) l) = List.mapIdx (fun _ c => (PySem.Unicode.upperOf c).toArray) l from rfl, this]
      rfl
  exact key _ h
theorem upC_ok {c : Nat} (h : c < 128) : upC c < 128 := by
  unfold upC
  split <;> omega
theorem up_val {t : Tx} (h : Pln t) : (upT t).1 = Txt.upper t.1 := tOf_val (ok_iff.mpr fun c hc => by
  rw [up_list fun c hc => h c hc] at hc
  obtain ⟨x, hx, rfl⟩ := List.mem_map.mp hc
  have := upC_ok (h x hx)
  omega)
theorem pln_up {t : Tx} (h : Pln t) : Pln (upT t) := fun c hc => by
  rw [up_val h, up_list fun c hc => h c hc] at hc
  obtain ⟨x, hx, rfl⟩ := List.mem_map.mp hc
  exact upC_ok (h x hx)
theorem up_len {t : Tx} (h : Pln t) : (upT t).len = t.len := by
  show (upT t).1.cps.size = t.1.cps.size
  rw [up_val h, ← Array.length_toList, up_list fun c hc => h c hc, List.length_map, Array.length_toList]
def sgL49 : List Tx := [tS "0", tS "1", tS "2", tS "3", tS "4", tS "5", tS "9", tS " ", tS ",", tS "-", tS "a", tS "k", tS "\n"]
def otL49 : List Tx := [tS "most", tS "ups", tS "0", tS "9", tS "10", tS "01", tS "6", tS "-", tS "out", tS "reads,", tS "read", tS "passes", tS "rows", tS ""]
def spA (t : Tx) (at_ : Int) (sg : Tx) : List Tx := [tApp (cT t none (some at_)) (cT t (some (at_ + 1)) none), tApp (tApp (cT t none (some at_)) sg) (cT t (some at_) none), tApp (tApp (cT t none (some at_)) sg) (cT t (some (at_ + 1)) none)]
def spB (t : Tx) (spot : Int) (ot : Tx) : List Tx := [tJoin (tS " ") (cutG (tSplit t (tS " ")) none (some spot) ++ [ot] ++ cutG (tSplit t (tS " ")) (some (spot + 1)) none), tJoin (tS " ") (cutG (tSplit t (tS " ")) none (some spot) ++ cutG (tSplit t (tS " ")) (some (spot + 1)) none)]
def spC (t : Tx) (spot : Int) : List Tx := [tJoin (tS " ") (cutG (tSplit t (tS " ")) none (some (spot + 1)) ++ cutG (tSplit t (tS " ")) (some spot) none), tJoin (tS " ") (cutG (tSplit t (tS " ")) none (some spot) ++ (cutG (tSplit t (tS " ")) (some spot) none).reverse), upT t]
theorem sg_ok : ∀ x ∈ sgL49, x.len = 1 ∧ (x.1.cps.toList.all fun c => decide (c < 128)) = true := by decide +kernel
theorem ot_ok : ∀ x ∈ otL49, x.len ≤ 6 ∧ (x.1.cps.toList.all fun c => decide (c < 128)) = true := by decide +kernel
theorem pln_of {x : Tx} (h : (x.1.cps.toList.all fun c => decide (c < 128)) = true) : Pln x := fun c hc => by
  have := List.all_eq_true.mp h c hc
  simpa using this
theorem wt_words (t : Tx) (ht : t.len ≤ 1000) : wt (tSplit t (tS " ")) = t.len + 1 ∧ (tSplit t (tS " ")) ≠ [] := by
  have hn : tSplit t (tS " ") ≠ [] := by
    unfold tSplit
    intro z
    have := List.map_eq_nil_iff.mp z
    unfold Txt.split at this
    split at this
    · cases this
    · split at this
      · cases this
      · rw [PySem.StrLaws.partsBetween_eq] at this
        obtain ⟨p, r, e⟩ := PySem.StrLaws.partsFrom_ne t.1 (tS " ").1.length 0 _
        rw [e] at this
        cases this
  have := wt_join (s := tS " ") (by decide +kernel) _ hn
  rw [tx_join_split] at this
  exact ⟨this.symm, hn⟩
theorem wt_join_le {s : Tx} (hs : s.len = 1) (ps : List Tx) : (tJoin s ps).len ≤ wt ps := by
  cases ps with
  | nil => exact Nat.zero_le _
  | cons p r => have := wt_join hs (p :: r) (by simp); omega
theorem sp_good {t sg ot : Tx} {at_ spot : Int} {m : Nat} (h : Pln t) (hl : t.len ≤ m) (hm : m ≤ 1000) (hs : sg ∈ sgL49) (ho : ot ∈ otL49) : ∀ x ∈ spA t at_ sg ++ spB t spot ot ++ spC t spot, Pln x ∧ x.len ≤ 2 * m + 10 := by
  obtain ⟨ls, ps⟩ := sg_ok sg hs
  obtain ⟨lo, po⟩ := ot_ok ot ho
  have ps := pln_of ps
  have po := pln_of po
  have p1 : Pln (tS " ") := pln_of (by decide +kernel)
  have l1 : (tS " " : Tx).len = 1 := by decide +kernel
  have c1 := cT_len t none (some at_)
  have c2 := cT_len t (some (at_ + 1)) none
  have c3 := cT_len t (some at_) none
  obtain ⟨ww, wn⟩ := wt_words t (by omega)
  have hsp := pln_split (s := tS " ") h
  have pc : ∀ a b, ∀ p ∈ cutG (tSplit t (tS " ")) a b, Pln p := fun a b p hp => hsp p ((cutG_sub _ _ _).mem hp)
  have wc : ∀ a b, wt (cutG (tSplit t (tS " ")) a b) ≤ t.len + 1 := fun a b => by have := wt_sub (cutG_sub (tSplit t (tS " ")) a b); omega
  intro x hx
  simp only [spA, spB, spC, List.mem_append, List.mem_cons, List.not_mem_nil, or_false] at hx
  rcases hx with ((rfl | rfl | rfl) | (rfl | rfl)) | (rfl | rfl | rfl)
  · exact ⟨pln_app (pln_cut h _ _) (pln_cut h _ _), by rw [len_app]; omega⟩
  · exact ⟨pln_app (pln_app (pln_cut h _ _) ps) (pln_cut h _ _), by rw [len_app, len_app]; omega⟩
  · exact ⟨pln_app (pln_app (pln_cut h _ _) ps) (pln_cut h _ _), by rw [len_app, len_app]; omega⟩
  · refine ⟨pln_join p1 _ fun p hp => ?_, ?_⟩
    · rcases List.mem_append.mp hp with hp | hp
      · rcases List.mem_append.mp hp with hp | hp
        · exact pc _ _ p hp
        · rw [List.mem_singleton.mp hp]; exact po
      · exact pc _ _ p hp
    · have a1 := wc none (some spot)
      have a2 := wc (some (spot + 1)) none
      have a3 := wt_join l1 (cutG (tSplit t (tS " ")) none (some spot) ++ [ot] ++ cutG (tSplit t (tS " ")) (some (spot + 1)) none) (by simp)
      have a4 : wt [ot] = ot.len + 1 := by unfold wt; simp
      rw [wt_app, wt_app, a4] at a3
      omega
  · refine ⟨pln_join p1 _ fun p hp => ?_, ?_⟩
    · rcases List.mem_append.mp hp with hp | hp
      · exact pc _ _ p hp
      · exact pc _ _ p hp
    · have a1 := wc none (some spot)
      have a2 := wc (some (spot + 1)) none
      have a3 := wt_join_le l1 (cutG (tSplit t (tS " ")) none (some spot) ++ cutG (tSplit t (tS " ")) (some (spot + 1)) none)
      rw [wt_app] at a3
      omega
  · refine ⟨pln_join p1 _ fun p hp => ?_, ?_⟩
    · rcases List.mem_append.mp hp with hp | hp
      · exact pc _ _ p hp
      · exact pc _ _ p hp
    · have a1 := wc none (some (spot + 1))
      have a2 := wc (some spot) none
      have a3 := wt_join_le l1 (cutG (tSplit t (tS " ")) none (some (spot + 1)) ++ cutG (tSplit t (tS " ")) (some spot) none)
      rw [wt_app] at a3
      omega
  · refine ⟨pln_join p1 _ fun p hp => ?_, ?_⟩
    · rcases List.mem_append.mp hp with hp | hp
      · exact pc _ _ p hp
      · exact pc _ _ p (List.mem_reverse.mp hp)
    · have a1 := wc none (some spot)
      have a2 := wc (some spot) none
      have a3 := wt_join_le l1 (cutG (tSplit t (tS " ")) none (some spot) ++ (cutG (tSplit t (tS " ")) (some spot) none).reverse)
      rw [wt_app, wt_rev] at a3
      omega
  · exact ⟨pln_up h, by rw [up_len h]; omega⟩

theorem pick_run {h : Hh} {l : Nat} {left : List Int} (hp : h[l]? = some (oL D.int left)) {m : Int} (d : d__law_pick left m) : ∃ h', F__law_pick [.ref l, .int m] h = .ok (.int (v__law_pick left m).1) h' ∧ h'.length = h.length ∧ h'[l]? = some (oL D.int (v__law_pick left m).2) ∧ ∀ j, j ≠ l → h'[j]? = h[j]? :=
  ⟨_, t__law_pick left m h l hp d, List.length_set, List.getElem?_set_self (List.getElem?_eq_some_iff.mp hp).1, fun j hj => List.getElem?_set_ne (Ne.symm hj)⟩

section
variable {env : DEnv} {H : Hh}
theorem ad_run {a b : ME} {x y : Tx} (ea : a env H = .ok (eX x) H) (eb : b env H = .ok (eX y) H) (hl : x.len + y.len ≤ 16777216) : eOp2 addO a b env H = .ok (eX (tApp x y)) H := by
  unfold eOp2
  rw [ea, bind_ok, eb, bind_ok]
  show lift (if x.1.length + y.1.length ≤ sizeLine then some (D.str (x.1 ++ y.1)) else none) H = _
  rw [if_pos (by rw [sizeLine_eq]; exact hl)]
  rfl
theorem adL_run {a b : ME} {xs ys : List Tx} (ea : a env H = .ok (.lst (xs.map eX)) H) (eb : b env H = .ok (.lst (ys.map eX)) H) (hl : xs.length + ys.length ≤ 16777216) : eOp2 addO a b env H = .ok (.lst ((xs ++ ys).map eX)) H := by
  unfold eOp2
  rw [ea, bind_ok, eb, bind_ok, List.map_append]
  show lift (if (xs.map eX).length + (ys.map eX).length ≤ sizeLine then some (D.lst (xs.map eX ++ ys.map eX)) else none) H = _
  rw [if_pos (by rw [sizeLine_eq, List.length_map, List.length_map]; exact hl)]
  rfl
theorem sl_run {i : Nat} {t : Tx} {lo hi : MO} {l u : Option Int} (e1 : (eSlot i) env H = .ok (eX t) H) (hl : lo env H = .ok l H) (hu : hi env H = .ok u H) (hz : t.len ≤ 16777216) : eSlice (eSlot i) lo hi env H = .ok (eX (cT t l u)) H := by
  unfold eSlice
  rw [e1, bind_ok, hl, bind_ok, hu, bind_ok]
  show lift (if t.1.length ≤ sizeLine then some (D.str (cutS t.1 l u)) else none) H = _
  rw [if_pos (by rw [sizeLine_eq]; exact hz), ← cT_val]
  rfl
theorem slL_run {i : Nat} {xs : List Tx} {lo hi : MO} {l u : Option Int} (e1 : (eSlot i) env H = .ok (.lst (xs.map eX)) H) (hl : lo env H = .ok l H) (hu : hi env H = .ok u H) : eSlice (eSlot i) lo hi env H = .ok (.lst ((cutG xs l u).map eX)) H := by
  unfold eSlice
  rw [e1, bind_ok, hl, bind_ok, hu, bind_ok, ev_slL]
  have : cutG (xs.map eX) l u = (cutG xs l u).map eX := by
    unfold cutG
    rw [List.length_map, List.map_take, List.map_drop]
  rw [this]; rfl
theorem jn_run {e : ME} {xs : List Tx} (ee : e env H = .ok (.lst (xs.map eX)) H) (k : JoinB (tS " ") xs) : eJoin (eC (.str " ")) e env H = .ok (eX (tJoin (tS " ") xs)) H := by
  have so : strsOf (xs.map eX) = some (xs.map (·.1)) := by
    clear k ee
    induction xs with
    | nil => rfl
    | cons x xs ih =>
      rw [List.map_cons, List.map_cons]
      show ((strsOf (xs.map eX)).map fun r => x.1 :: r) = _
      rw [ih]; rfl
  have j := join_of (a := tS " ") (x := .lst (xs.map eX)) (h := H) (ds := xs.map eX) rfl so k
  show ((e env H).bind fun x h2 => lift (joinO (tS " ").1 x h2) h2) = _
  rw [ee, bind_ok, j]; rfl
end
theorem spoilt_run {h : Hh} {l : Nat} {left : List Int} (hp : h[l]? = some (oL D.int left)) (lk : Lk left) {t : Tx} {m : Nat} (ht : Pln t) (hl : t.len ≤ m) (hm : m ≤ 600) :
    ∃ s h' left', F__law_spoilt [.ref l, eX t] h = .ok (eX s) h' ∧ h'.length = h.length ∧ h'[l]? = some (oL D.int left') ∧ Lk left' ∧ (∀ j, j ≠ l → h'[j]? = h[j]?) ∧ Pln s ∧ s.len ≤ 2 * m + 10 := by
  have l1 : (tS " " : Tx).len = 1 := by decide +kernel
  obtain ⟨ww, wn⟩ := wt_words t (by omega)
  obtain ⟨sp1, sp2, sp3⟩ := spl_any t (tS " ") (by decide +kernel) (by omega)
  have wl : 0 < (tSplit t (tS " ")).length := List.length_pos_iff.mpr wn
  generalize hws : tSplit t (tS " ") = ws at ww wn sp2 sp3 wl
  obtain ⟨a1, b1, lk1⟩ := pk lk (m := (t.len : Int) + 1) (by omega)
  obtain ⟨h1, e1, len1, lf1, fr1⟩ := pick_run hp (m := (t.len : Int) + 1) (dpk lk (by omega) (by omega))
  generalize (v__law_pick left ((t.len : Int) + 1)).1 = at_ at a1 b1 e1
  generalize (v__law_pick left ((t.len : Int) + 1)).2 = left1 at lk1 lf1
  obtain ⟨a2, b2, lk2⟩ := pk lk1 (m := (ws.length : Int)) (by omega)
  obtain ⟨h2, e2, len2, lf2, fr2⟩ := pick_run lf1 (m := (ws.length : Int)) (dpk lk1 (by omega) (by omega))
  generalize (v__law_pick left1 (ws.length : Int)).1 = spot at a2 b2 e2
  generalize (v__law_pick left1 (ws.length : Int)).2 = left2 at lk2 lf2
  obtain ⟨a3, b3, lk3⟩ := pk lk2 (m := 13) (by decide)
  obtain ⟨h3, e3, len3, lf3, fr3⟩ := pick_run lf2 (m := 13) (dpk lk2 (by decide) (by decide))
  generalize (v__law_pick left2 13).1 = vs at a3 b3 e3
  generalize (v__law_pick left2 13).2 = left3 at lk3 lf3
  obtain ⟨a4, b4, lk4⟩ := pk lk3 (m := 14) (by decide)
  obtain ⟨h4, e4, len4, lf4, fr4⟩ := pick_run lf3 (m := 14) (dpk lk3 (by decide) (by decide))
  generalize (v__law_pick left3 14).1 = vo at a4 b4 e4
  generalize (v__law_pick left3 14).2 = left4 at lk4 lf4
  obtain ⟨a5, b5, lk5⟩ := pk lk4 (m := 8) (by decide)
  obtain ⟨h5, e5, len5, lf5, fr5⟩ := pick_run lf4 (m := 8) (dpk lk4 (by decide) (by decide))
  generalize (v__law_pick left4 8).1 = vx at a5 b5 e5
  generalize (v__law_pick left4 8).2 = left5 at lk5 lf5
  have hsg := atZ_mem (l := sgL49) a3 b3
  have hot := atZ_mem (l := otL49) a4 b4
  have ixs : ixA (.lst (sgL49.map eX)) (.int vs) h3 = some (eX (atZ sgL49 vs)) := o_ixL eX sgL49 vs (inR_of a3 b3) h3
  have ixo : ixA (.lst (otL49.map eX)) (.int vo) h4 = some (eX (atZ otL49 vo)) := o_ixL eX otL49 vo (inR_of a4 b4) h4
  generalize atZ sgL49 vs = sg at hsg ixs
  generalize atZ otL49 vo = ot at hot ixo
  obtain ⟨lsg, _⟩ := sg_ok sg hsg
  obtain ⟨lot, _⟩ := ot_ok ot hot
  have good := sp_good (at_ := at_) (spot := spot) ht hl (by omega) hsg hot
  have slen : (spA t at_ sg ++ spB t spot ot ++ spC t spot).length = 8 := rfl
  have ixx : ixA (.lst ((spA t at_ sg ++ spB t spot ot ++ spC t spot).map eX)) (.int vx) h5 = some (eX (atZ (spA t at_ sg ++ spB t spot ot ++ spC t spot) vx)) := o_ixL eX (spA t at_ sg ++ spB t spot ot ++ spC t spot) vx (inR_of a5 (by rw [slen]; exact b5)) h5
  have hmem := atZ_mem (l := spA t at_ sg ++ spB t spot ot ++ spC t spot) a5 (by rw [slen]; exact b5)
  refine ⟨atZ (spA t at_ sg ++ spB t spot ot ++ spC t spot) vx, h5, left5, ?_, by omega, lf5, lk5, fun j hj => by rw [fr5 j hj, fr4 j hj, fr3 j hj, fr2 j hj, fr1 j hj], (good _ hmem).1, (good _ hmem).2⟩
  unfold F__law_spoilt
  rw [ev_run2]
  show outR (b__law_spoilt [some (.ref l), some (eX t), none, none, none, none, none, none] h) = _
  have s1 : sAsg (eFrz (aSplit (eSlot 1) (eC (.str " ")))) (MR.gName 2) [some (.ref l), some (eX t), none, none, none, none, none, none] h = .nx [some (.ref l), some (eX t), some (.lst (ws.map eX)), none, none, none, none, none] h := by
    have : aSplit (eSlot 1) (eC (.str " ")) [some (.ref l), some (eX t), none, none, none, none, none, none] h = .ok (ws.map eX) h := by
      rw [ev_split (a := t) (b := tS " ") rfl rfl sp1, hws]
    generalize aSplit (eSlot 1) (eC (.str " ")) = AS at this ⊢
    simp [this]
  have ln1 : ∀ H, lenO [eX t] H = some (.int (t.len : Int)) := fun H => num_len t H (by omega)
  have ln2 : ∀ H, lenO [.lst (ws.map eX)] H = some (.int (ws.length : Int)) := fun H => by
    show some (D.int (((ws.map eX).length : Nat) : Int)) = _
    rw [List.length_map]
  have s2 : sPar 3 4 (aCons (eCall F__law_pick (aCons (eSlot 0) (aCons (eOp2 addO (eOpN lenO (aCons (eSlot 1) aNil)) (eC (.int 1))) aNil))) (aCons (eCall F__law_pick (aCons (eSlot 0) (aCons (eOpN lenO (aCons (eSlot 2) aNil)) aNil))) aNil)) [some (.ref l), some (eX t), some (.lst (ws.map eX)), none, none, none, none, none] h = .nx [some (.ref l), some (eX t), some (.lst (ws.map eX)), some (.int at_), some (.int spot), none, none, none] h2 := by
    generalize ws.map eX = wd at ln2 ⊢
    generalize eX t = td at ln1 ⊢
    simp [ln1, ln2, e1, e2]
  have s3 : sAsg (eOp2 ixA (eFrz (aChs (eC (.str "0123459 ,-ak\n")))) (eCall F__law_pick (aCons (eSlot 0) (aCons (eC (.int 13)) aNil)))) (MR.gName 5) [some (.ref l), some (eX t), some (.lst (ws.map eX)), some (.int at_), some (.int spot), none, none, none] h2 = .nx [some (.ref l), some (eX t), some (.lst (ws.map eX)), some (.int at_), some (.int spot), some (eX sg), none, none] h3 := by
    have ec : eFrz (aChs (eC (.str "0123459 ,-ak\n"))) [some (.ref l), some (eX t), some (.lst (ws.map eX)), some (.int at_), some (.int spot), none, none, none] h2 = .ok (.lst (sgL49.map eX)) h2 := by
      have k : (signs "0123459 ,-ak\n").map D.str = sgL49.map eX := by kernel_rfl
      unfold eFrz aChs eC
      rw [bind_ok]
      dsimp only
      rw [if_pos (by decide +kernel), k, bind_ok]
    generalize eFrz (aChs (eC (.str "0123459 ,-ak\n"))) = AS at ec ⊢
    have ex : eOp2 ixA AS (eCall F__law_pick (aCons (eSlot 0) (aCons (eC (.int 13)) aNil))) [some (.ref l), some (eX t), some (.lst (ws.map eX)), some (.int at_), some (.int spot), none, none, none] h2 = .ok (eX sg) h3 := by
      generalize sgL49.map eX = sd at ec ixs
      unfold eOp2
      rw [ec, bind_ok]
      have : eCall F__law_pick (aCons (eSlot 0) (aCons (eC (.int 13)) aNil)) [some (.ref l), some (eX t), some (.lst (ws.map eX)), some (.int at_), some (.int spot), none, none, none] h2 = .ok (.int vs) h3 := e3
      rw [this, bind_ok, ixs]; rfl
    generalize eOp2 ixA AS (eCall F__law_pick (aCons (eSlot 0) (aCons (eC (.int 13)) aNil))) = E at ex ⊢
    simp [ex]
  have s4 : sAsg (eFrz (aCons (eC (.str "most")) (aCons (eC (.str "ups")) (aCons (eC (.str "0")) (aCons (eC (.str "9")) (aCons (eC (.str "10")) (aCons (eC (.str "01")) (aCons (eC (.str "6")) (aCons (eC (.str "-")) (aCons (eC (.str "out")) (aCons (eC (.str "reads,")) (aCons (eC (.str "read")) (aCons (eC (.str "passes")) (aCons (eC (.str "rows")) (aCons (eC (.str "")) aNil))))))))))))))) (MR.gName 6) [some (.ref l), some (eX t), some (.lst (ws.map eX)), some (.int at_), some (.int spot), some (eX sg), none, none] h3 = .nx [some (.ref l), some (eX t), some (.lst (ws.map eX)), some (.int at_), some (.int spot), some (eX sg), some (.lst (otL49.map eX)), none] h3 := rfl
  have s5 : sAsg (eOp2 ixA (eSlot 6) (eCall F__law_pick (aCons (eSlot 0) (aCons (eC (.int 14)) aNil)))) (MR.gName 6) [some (.ref l), some (eX t), some (.lst (ws.map eX)), some (.int at_), some (.int spot), some (eX sg), some (.lst (otL49.map eX)), none] h3 = .nx [some (.ref l), some (eX t), some (.lst (ws.map eX)), some (.int at_), some (.int spot), some (eX sg), some (eX ot), none] h4 := by
    have ex : eOp2 ixA (eSlot 6) (eCall F__law_pick (aCons (eSlot 0) (aCons (eC (.int 14)) aNil))) [some (.ref l), some (eX t), some (.lst (ws.map eX)), some (.int at_), some (.int spot), some (eX sg), some (.lst (otL49.map eX)), none] h3 = .ok (eX ot) h4 := by
      generalize otL49.map eX = od at ixo ⊢
      unfold eOp2
      have z : eSlot 6 [some (.ref l), some (eX t), some (.lst (ws.map eX)), some (.int at_), some (.int spot), some (eX sg), some (.lst od), none] h3 = .ok (.lst od) h3 := rfl
      rw [z, bind_ok]
      have : eCall F__law_pick (aCons (eSlot 0) (aCons (eC (.int 14)) aNil)) [some (.ref l), some (eX t), some (.lst (ws.map eX)), some (.int at_), some (.int spot), some (eX sg), some (.lst od), none] h3 = .ok (.int vo) h4 := e4
      rw [this, bind_ok, ixo]; rfl
    generalize eOp2 ixA (eSlot 6) (eCall F__law_pick (aCons (eSlot 0) (aCons (eC (.int 14)) aNil))) = E at ex ⊢
    simp [ex]
  have ct := fun a b => cT_len t a b
  -- the lines put otherwise
  have q1 : ∀ x7 H, eSlice (eSlot 1) oNone (oSome (eSlot 3)) [some (.ref l), some (eX t), some (.lst (ws.map eX)), some (.int at_), some (.int spot), some (eX sg), some (eX ot), x7] H = .ok (eX (cT t none (some at_))) H := fun x7 H => sl_run rfl rfl rfl (by omega)
  have q2 : ∀ x7 H, eSlice (eSlot 1) (oSome (eOp2 addO (eSlot 3) (eC (.int 1)))) oNone [some (.ref l), some (eX t), some (.lst (ws.map eX)), some (.int at_), some (.int spot), some (eX sg), some (eX ot), x7] H = .ok (eX (cT t (some (at_ + 1)) none)) H := fun x7 H => sl_run rfl rfl rfl (by omega)
  have q3 : ∀ x7 H, eSlice (eSlot 1) (oSome (eSlot 3)) oNone [some (.ref l), some (eX t), some (.lst (ws.map eX)), some (.int at_), some (.int spot), some (eX sg), some (eX ot), x7] H = .ok (eX (cT t (some at_) none)) H := fun x7 H => sl_run rfl rfl rfl (by omega)
  have n1 := ct none (some at_)
  have n2 := ct (some (at_ + 1)) none
  have n3 := ct (some at_) none
  have s6 : sAsg (eFrz (aCons (eOp2 addO (eSlice (eSlot 1) oNone (oSome (eSlot 3))) (eSlice (eSlot 1) (oSome (eOp2 addO (eSlot 3) (eC (.int 1)))) oNone)) (aCons (eOp2 addO (eOp2 addO (eSlice (eSlot 1) oNone (oSome (eSlot 3))) (eSlot 5)) (eSlice (eSlot 1) (oSome (eSlot 3)) oNone)) (aCons (eOp2 addO (eOp2 addO (eSlice (eSlot 1) oNone (oSome (eSlot 3))) (eSlot 5)) (eSlice (eSlot 1) (oSome (eOp2 addO (eSlot 3) (eC (.int 1)))) oNone)) aNil)))) (MR.gName 7) [some (.ref l), some (eX t), some (.lst (ws.map eX)), some (.int at_), some (.int spot), some (eX sg), some (eX ot), none] h4 = .nx [some (.ref l), some (eX t), some (.lst (ws.map eX)), some (.int at_), some (.int spot), some (eX sg), some (eX ot), some (.lst ((spA t at_ sg).map eX))] h4 := by
    have f1 := ad_run (q1 none h4) (q2 none h4) (by omega)
    have f2 := ad_run (ad_run (q1 none h4) (b := eSlot 5) (y := sg) rfl (by omega)) (q3 none h4) (by rw [len_app]; omega)
    have f3 := ad_run (ad_run (q1 none h4) (b := eSlot 5) (y := sg) rfl (by omega)) (q2 none h4) (by rw [len_app]; omega)
    unfold spA
    rw [List.map_cons, List.map_cons, List.map_cons, List.map_nil]
    generalize eOp2 addO (eSlice (eSlot 1) oNone (oSome (eSlot 3))) (eSlice (eSlot 1) (oSome (eOp2 addO (eSlot 3) (eC (.int 1)))) oNone) = E1 at f1 ⊢
    generalize eOp2 addO (eOp2 addO (eSlice (eSlot 1) oNone (oSome (eSlot 3))) (eSlot 5)) (eSlice (eSlot 1) (oSome (eSlot 3)) oNone) = E2 at f2 ⊢
    generalize eOp2 addO (eOp2 addO (eSlice (eSlot 1) oNone (oSome (eSlot 3))) (eSlot 5)) (eSlice (eSlot 1) (oSome (eOp2 addO (eSlot 3) (eC (.int 1)))) oNone) = E3 at f3 ⊢
    simp [f1, f2, f3]
  have wc : ∀ a b, wt (cutG ws a b) ≤ t.len + 1 ∧ (cutG ws a b).length ≤ ws.length := fun a b => by
    have c1 := wt_sub (cutG_sub ws a b)
    have d1 := (cutG_sub ws a b).length_le
    exact ⟨by omega, d1⟩
  have c3 : wt [ot] = ot.len + 1 := by unfold wt; simp
  have s7 : sAsg (eOp2 addO (eSlot 7) (eFrz (aCons (eJoin (eC (.str " ")) (eOp2 addO (eOp2 addO (eSlice (eSlot 2) oNone (oSome (eSlot 4))) (eFrz (aCons (eSlot 6) aNil))) (eSlice (eSlot 2) (oSome (eOp2 addO (eSlot 4) (eC (.int 1)))) oNone))) (aCons (eJoin (eC (.str " ")) (eOp2 addO (eSlice (eSlot 2) oNone (oSome (eSlot 4))) (eSlice (eSlot 2) (oSome (eOp2 addO (eSlot 4) (eC (.int 1)))) oNone))) aNil)))) (MR.gName 7) [some (.ref l), some (eX t), some (.lst (ws.map eX)), some (.int at_), some (.int spot), some (eX sg), some (eX ot), some (.lst ((spA t at_ sg).map eX))] h4 = .nx [some (.ref l), some (eX t), some (.lst (ws.map eX)), some (.int at_), some (.int spot), some (eX sg), some (eX ot), some (.lst ((spA t at_ sg ++ spB t spot ot).map eX))] h4 := by
    generalize hx7 : spA t at_ sg = xs7
    have hx7l : xs7.length = 3 := by rw [← hx7]; rfl
    have g1 : eSlice (eSlot 2) oNone (oSome (eSlot 4)) [some (.ref l), some (eX t), some (.lst (ws.map eX)), some (.int at_), some (.int spot), some (eX sg), some (eX ot), some (.lst (xs7.map eX))] h4 = .ok (.lst ((cutG ws none (some spot)).map eX)) h4 := slL_run rfl rfl rfl
    have g2 : eSlice (eSlot 2) (oSome (eOp2 addO (eSlot 4) (eC (.int 1)))) oNone [some (.ref l), some (eX t), some (.lst (ws.map eX)), some (.int at_), some (.int spot), some (eX sg), some (eX ot), some (.lst (xs7.map eX))] h4 = .ok (.lst ((cutG ws (some (spot + 1)) none).map eX)) h4 := slL_run rfl rfl rfl
    obtain ⟨w1, d1⟩ := wc none (some spot)
    obtain ⟨w2, d2⟩ := wc (some (spot + 1)) none
    have g3 := adL_run g1 (b := eFrz (aCons (eSlot 6) aNil)) (ys := [ot]) rfl (by rw [List.length_singleton]; omega)
    have g4 := adL_run g3 g2 (by rw [List.length_append, List.length_singleton]; omega)
    have g5 := adL_run g1 g2 (by omega)
    have f1 := jn_run g4 (wt_joinB l1 _ (by rw [wt_app, wt_app, c3]; omega))
    have f2 := jn_run g5 (wt_joinB l1 _ (by rw [wt_app]; omega))
    have eB : eFrz (aCons (eJoin (eC (.str " ")) (eOp2 addO (eOp2 addO (eSlice (eSlot 2) oNone (oSome (eSlot 4))) (eFrz (aCons (eSlot 6) aNil))) (eSlice (eSlot 2) (oSome (eOp2 addO (eSlot 4) (eC (.int 1)))) oNone))) (aCons (eJoin (eC (.str " ")) (eOp2 addO (eSlice (eSlot 2) oNone (oSome (eSlot 4))) (eSlice (eSlot 2) (oSome (eOp2 addO (eSlot 4) (eC (.int 1)))) oNone))) aNil)) [some (.ref l), some (eX t), some (.lst (ws.map eX)), some (.int at_), some (.int spot), some (eX sg), some (eX ot), some (.lst (xs7.map eX))] h4 = .ok (.lst ((spB t spot ot).map eX)) h4 := by
      unfold spB
      rw [hws, List.map_cons, List.map_cons, List.map_nil]
      generalize eJoin (eC (.str " ")) (eOp2 addO (eOp2 addO (eSlice (eSlot 2) oNone (oSome (eSlot 4))) (eFrz (aCons (eSlot 6) aNil))) (eSlice (eSlot 2) (oSome (eOp2 addO (eSlot 4) (eC (.int 1)))) oNone)) = E1 at f1 ⊢
      generalize eJoin (eC (.str " ")) (eOp2 addO (eSlice (eSlot 2) oNone (oSome (eSlot 4))) (eSlice (eSlot 2) (oSome (eOp2 addO (eSlot 4) (eC (.int 1)))) oNone)) = E2 at f2 ⊢
      simp [f1, f2]
    have ex := adL_run (a := eSlot 7) (xs := xs7) rfl eB (by rw [hx7l]; show 3 + 2 ≤ _; decide)
    generalize eOp2 addO (eSlot 7) _ = E at ex ⊢
    simp [ex]
  have s8 : sAsg (eOp2 addO (eSlot 7) (eFrz (aCons (eJoin (eC (.str " ")) (eOp2 addO (eSlice (eSlot 2) oNone (oSome (eOp2 addO (eSlot 4) (eC (.int 1))))) (eSlice (eSlot 2) (oSome (eSlot 4)) oNone))) (aCons (eJoin (eC (.str " ")) (eOp2 addO (eSlice (eSlot 2) oNone (oSome (eSlot 4))) (eRev (eSlice (eSlot 2) (oSome (eSlot 4)) oNone)))) (aCons (eUpper (eSlot 1)) aNil))))) (MR.gName 7) [some (.ref l), some (eX t), some (.lst (ws.map eX)), some (.int at_), some (.int spot), some (eX sg), some (eX ot), some (.lst ((spA t at_ sg ++ spB t spot ot).map eX))] h4 = .nx [some (.ref l), some (eX t), some (.lst (ws.map eX)), some (.int at_), some (.int spot), some (eX sg), some (eX ot), some (.lst ((spA t at_ sg ++ spB t spot ot ++ spC t spot).map eX))] h4 := by
    generalize hx7 : spA t at_ sg ++ spB t spot ot = xs7
    have hx7l : xs7.length = 5 := by rw [← hx7]; rfl
    have g1 : eSlice (eSlot 2) oNone (oSome (eOp2 addO (eSlot 4) (eC (.int 1)))) [some (.ref l), some (eX t), some (.lst (ws.map eX)), some (.int at_), some (.int spot), some (eX sg), some (eX ot), some (.lst (xs7.map eX))] h4 = .ok (.lst ((cutG ws none (some (spot + 1))).map eX)) h4 := slL_run rfl rfl rfl
    have g2 : eSlice (eSlot 2) (oSome (eSlot 4)) oNone [some (.ref l), some (eX t), some (.lst (ws.map eX)), some (.int at_), some (.int spot), some (eX sg), some (eX ot), some (.lst (xs7.map eX))] h4 = .ok (.lst ((cutG ws (some spot) none).map eX)) h4 := slL_run rfl rfl rfl
    have g3 : eSlice (eSlot 2) oNone (oSome (eSlot 4)) [some (.ref l), some (eX t), some (.lst (ws.map eX)), some (.int at_), some (.int spot), some (eX sg), some (eX ot), some (.lst (xs7.map eX))] h4 = .ok (.lst ((cutG ws none (some spot)).map eX)) h4 := slL_run rfl rfl rfl
    have g4 : eRev (eSlice (eSlot 2) (oSome (eSlot 4)) oNone) [some (.ref l), some (eX t), some (.lst (ws.map eX)), some (.int at_), some (.int spot), some (eX sg), some (eX ot), some (.lst (xs7.map eX))] h4 = .ok (.lst ((cutG ws (some spot) none).reverse.map eX)) h4 := by
      generalize eSlice (eSlot 2) (oSome (eSlot 4)) oNone = E1 at g2 ⊢
      rw [List.map_reverse]
      generalize (cutG ws (some spot) none).map eX = L at g2 ⊢
      simp [g2]
    obtain ⟨w1, d1⟩ := wc none (some (spot + 1))
    obtain ⟨w2, d2⟩ := wc (some spot) none
    obtain ⟨w3, d3⟩ := wc none (some spot)
    have g5 := adL_run g1 g2 (by omega)
    have g6 := adL_run g3 g4 (by rw [List.length_reverse]; omega)
    have f1 := jn_run g5 (wt_joinB l1 _ (by rw [wt_app]; omega))
    have f2 := jn_run g6 (wt_joinB l1 _ (by rw [wt_app, wt_rev]; omega))
    have f3 : eUpper (eSlot 1) [some (.ref l), some (eX t), some (.lst (ws.map eX)), some (.int at_), some (.int spot), some (eX sg), some (eX ot), some (.lst (xs7.map eX))] h4 = .ok (eX (upT t)) h4 := by
      show lift (if t.1.length ≤ 5592405 then some (D.str (Txt.upper t.1)) else none) h4 = _
      rw [if_pos (by have : t.1.length ≤ m := hl; omega), ← up_val ht]; rfl
    have eB : eFrz (aCons (eJoin (eC (.str " ")) (eOp2 addO (eSlice (eSlot 2) oNone (oSome (eOp2 addO (eSlot 4) (eC (.int 1))))) (eSlice (eSlot 2) (oSome (eSlot 4)) oNone))) (aCons (eJoin (eC (.str " ")) (eOp2 addO (eSlice (eSlot 2) oNone (oSome (eSlot 4))) (eRev (eSlice (eSlot 2) (oSome (eSlot 4)) oNone)))) (aCons (eUpper (eSlot 1)) aNil))) [some (.ref l), some (eX t), some (.lst (ws.map eX)), some (.int at_), some (.int spot), some (eX sg), some (eX ot), some (.lst (xs7.map eX))] h4 = .ok (.lst ((spC t spot).map eX)) h4 := by
      unfold spC
      rw [hws, List.map_cons, List.map_cons, List.map_cons, List.map_nil]
      generalize eJoin (eC (.str " ")) (eOp2 addO (eSlice (eSlot 2) oNone (oSome (eOp2 addO (eSlot 4) (eC (.int 1))))) (eSlice (eSlot 2) (oSome (eSlot 4)) oNone)) = E1 at f1 ⊢
      generalize eJoin (eC (.str " ")) (eOp2 addO (eSlice (eSlot 2) oNone (oSome (eSlot 4))) (eRev (eSlice (eSlot 2) (oSome (eSlot 4)) oNone))) = E2 at f2 ⊢
      generalize eUpper (eSlot 1) = E3 at f3 ⊢
      simp [f1, f2, f3]
    have ex := adL_run (a := eSlot 7) (xs := xs7) rfl eB (by rw [hx7l]; show 5 + 3 ≤ _; decide)
    generalize eOp2 addO (eSlot 7) _ = E at ex ⊢
    simp [ex]
  unfold b__law_spoilt
  rw [sq_nx s1, sq_nx s2, sq_nx s3, sq_nx s4, sq_nx s5, sq_nx s6, sq_nx s7, sq_nx s8]
  have ep : ∀ x, eCall F__law_pick (aCons (eSlot 0) (aCons (eC (.int 8)) aNil)) [some (.ref l), some (eX t), some (.lst (ws.map eX)), some (.int at_), some (.int spot), some (eX sg), some (eX ot), x] h4 = .ok (.int vx) h5 := fun _ => e5
  generalize D.lst ((spA t at_ sg ++ spB t spot ot ++ spC t spot).map eX) = xx at ixx ⊢
  have ep := ep (some xx)
  show outR ((eOp2 ixA (eSlot 7) (eCall F__law_pick (aCons (eSlot 0) (aCons (eC (.int 8)) aNil))) [some (.ref l), some (eX t), some (.lst (ws.map eX)), some (.int at_), some (.int spot), some (eX sg), some (eX ot), some xx] h4).st _ fun d h1 => .rt d h1) = _
  unfold eOp2
  have z : eSlot 7 [some (.ref l), some (eX t), some (.lst (ws.map eX)), some (.int at_), some (.int spot), some (eX sg), some (eX ot), some xx] h4 = .ok xx h4 := rfl
  rw [z, bind_ok, ep, bind_ok, ixx]
  rfl

theorem any_rule_of {l : List Int} (hl : Lk l) : d__law_any_rule l ∧ Lk (v__law_any_rule l).2 ∧ Rule6 (v__law_any_rule l).1 := by
  obtain ⟨a1, b1, l1⟩ := pk hl (m := 6) (by decide)
  obtain ⟨a2, b2, l2⟩ := pk l1 (m := 6) (by decide)
  obtain ⟨a3, b3, l3⟩ := pk l2 (m := 10) (by decide)
  obtain ⟨a4, b4, l4⟩ := pk l3 (m := 2) (by decide)
  unfold d__law_any_rule v__law_any_rule c__law_any_rule
  dsimp only [letC, Ctl.get]
  generalize atZ [Wd.rows, Wd.readers, Wd.writers, Wd.turns, Wd.passes, Wd.passes] _ = w
  have b01 : ∀ b : Bool, 0 ≤ (if b = true then (1 : Int) else 0) ∧ (if b = true then (1 : Int) else 0) ≤ 1 := fun b => by cases b <;> decide
  refine ⟨⟨dpk hl (by decide) (by decide), inR_of a1 b1, dpk l1 (by decide) (by decide), dpk l2 (by decide) (by decide), .inl (.inl ⟨by omega, by omega⟩), dpk l3 (by decide) (by decide)⟩, l4, ⟨?_, ?_, ?_⟩⟩
  · dsimp only; omega
  · dsimp only
    by_cases h : w = Wd.passes
    · simp only [h, decide_true, if_true]; omega
    · simp only [h, decide_false, Bool.false_eq_true, if_false]; omega
  · dsimp only; omega
theorem fold_words : ∀ (xs : List Int) (st : List Wd × List Int), Lk st.2 → st.1.length + xs.length ≤ 1000 → (∀ w ∈ st.1, w ∈ PlW) → okFold B__law_any_room_0 K__law_any_room_1 xs st ∧ Lk (foldV B__law_any_room_0 xs st).2 ∧ (foldV B__law_any_room_0 xs st).1.length = st.1.length + xs.length ∧ ∀ w ∈ (foldV B__law_any_room_0 xs st).1, w ∈ PlW
  | [], st, l, _, hp => ⟨trivial, l, rfl, hp⟩
  | x :: xs, st, l, h, hp => by
    rw [List.length_cons] at h
    obtain ⟨a1, b1, l1⟩ := pk l (m := 7) (by decide)
    have hB : B__law_any_room_0 x st = ((st.1 ++ [(atZ [Wd.out, Wd.out, Wd.out, Wd.reads, Wd.rising, Wd.writes, Wd.raised] (v__law_pick st.2 (7 : Int)).1)]), (v__law_pick st.2 (7 : Int)).2) := rfl
    have hm := atZ_mem (l := [Wd.out, Wd.out, Wd.out, Wd.reads, Wd.rising, Wd.writes, Wd.raised]) a1 b1
    obtain ⟨a, b, c, d⟩ := fold_words xs (B__law_any_room_0 x st) (by rw [hB]; exact l1) (by rw [hB]; simp; omega) (fun w hw => by
      rw [hB] at hw
      rcases List.mem_append.mp hw with h | h
      · exact hp w h
      · rw [List.mem_singleton.mp h]
        generalize atZ [Wd.out, Wd.out, Wd.out, Wd.reads, Wd.rising, Wd.writes, Wd.raised] (v__law_pick st.2 (7 : Int)).1 = z at hm
        simp only [List.mem_cons, List.not_mem_nil, or_false] at hm
        rcases hm with rfl | rfl | rfl | rfl | rfl | rfl | rfl <;> decide)
    refine ⟨⟨⟨dpk l (by decide) (by decide), inR_of a1 b1, by omega⟩, a⟩, b, ?_, d⟩
    rw [foldV_cons, c, hB, List.length_cons]
    simp; omega
theorem ins_split {α : Type} (l : List α) {i : Int} (h0 : 0 ≤ i) (h1 : i < l.length + 1) (x : α) : ∃ a b, l = a ++ b ∧ insT l i x = a ++ x :: b := ⟨l.take i.toNat, l.drop i.toNat, (List.take_append_drop _ _).symm, by unfold insT; simp⟩
structure W48 (n : Nat) (ws : List Wd) (xs : List Int) (st : List Int × List TEn) : Prop where
  lk : Lk st.1
  ok : RmOk n (ws, st.2)
  mrk : MarkT (ws, st.2)
  lt : ∀ e ∈ st.2, e.1 ∉ xs
theorem fold_waits {n : Nat} {ws : List Wd} (hn : n ≤ 1000) (hl : ws.length = n) : ∀ (xs : List Int) (st : List Int × List TEn), (∀ x ∈ xs, 0 ≤ x ∧ x < n ∧ atZ ws x = Wd.out) → xs.Nodup → W48 n ws xs st → okFold B__law_any_room_2 K__law_any_room_3 xs st ∧ W48 n ws [] (foldV B__law_any_room_2 xs st)
  | [], st, _, _, W => ⟨trivial, W⟩
  | x :: xs, st, hx, hnd, W => by
    obtain ⟨lk, ok, mk, lt⟩ := W
    have few : st.2.length ≤ n := ok.few
    have gx := hx x List.mem_cons_self
    obtain ⟨a1, b1, l1⟩ := pk lk (m := 8) (by decide)
    obtain ⟨a2, b2, l2⟩ := pk l1 (m := 9) (by decide)
    obtain ⟨a3, b3, l3⟩ := pk l2 (m := 5) (by decide)
    obtain ⟨a4, b4, l4⟩ := pk l3 (m := 4) (by decide)
    have hm := atZ_mem (l := [(0 : Int), 0, 1, 9, 10, 99, 100, 999]) a1 b1
    have ht := atZ_mem (l := [(none : (Option Int)), (none : (Option Int)), (some (1 : Int)), (some (9 : Int)), (some ((1 : Int) + (v__law_pick (v__law_pick st.1 8).2 (9 : Int)).1))]) a3 b3
    have i1 := inR_of (l := [(0 : Int), 0, 1, 9, 10, 99, 100, 999]) a1 b1
    have i3 := inR_of (l := [(none : (Option Int)), (none : (Option Int)), (some (1 : Int)), (some (9 : Int)), (some ((1 : Int) + (v__law_pick (v__law_pick st.1 8).2 (9 : Int)).1))]) a3 b3
    have dp1 : d__law_pick st.1 8 := dpk lk (by decide) (by decide)
    have dp2 : d__law_pick (v__law_pick st.1 8).2 9 := dpk l1 (by decide) (by decide)
    have dp3 : d__law_pick (v__law_pick (v__law_pick st.1 8).2 9).2 5 := dpk l2 (by decide) (by decide)
    have hB : K__law_any_room_3 x st ∧ W48 n ws xs (B__law_any_room_2 x st) := by
      unfold K__law_any_room_3 B__law_any_room_2
      dsimp only [letC]
      generalize atZ [(0 : Int), 0, 1, 9, 10, 99, 100, 999] (v__law_pick st.1 8).1 = mk2 at hm ⊢
      generalize atZ [(none : (Option Int)), (none : (Option Int)), (some (1 : Int)), (some (9 : Int)), (some ((1 : Int) + (v__law_pick (v__law_pick st.1 8).2 (9 : Int)).1))] (v__law_pick (v__law_pick (v__law_pick st.1 8).2 9).2 5).1 = lf at ht ⊢
      generalize (v__law_pick (v__law_pick (v__law_pick st.1 8).2 9).2 5).2 = s3 at l3 a4 b4 l4 ⊢
      have lt' : ∀ e ∈ st.2, e.1 ∉ xs := fun e he z => lt e he (List.mem_cons_of_mem _ z)
      by_cases hp : 0 < (v__law_pick s3 4).1
      · rw [if_pos (decide_eq_true hp)]
        obtain ⟨a5, b5, l5⟩ := pk l4 (m := 2) (by decide)
        obtain ⟨a6, b6, l6⟩ := pk l5 (m := (st.2.length : Int) + 1) (by omega)
        have i5 := inR_of (l := [Wd.read, Wd.write]) a5 b5
        have hw := atZ_mem (l := [Wd.read, Wd.write]) a5 b5
        refine ⟨⟨dp1, i1, dp2, dp3, i3, dpk l3 (by decide) (by decide), fun _ => ⟨dpk l4 (by decide) (by decide), i5, dpk l5 (by omega) (by omega), by omega, a6, by omega⟩⟩, ?_⟩
        generalize atZ [Wd.read, Wd.write] (v__law_pick (v__law_pick s3 4).2 2).1 = w at hw ⊢
        obtain ⟨xa, xb, e1, e2⟩ := ins_split st.2 a6 (by omega) (x, w, mk2, lf)
        have sub : ∀ e ∈ insT st.2 (v__law_pick (v__law_pick (v__law_pick s3 4).2 2).2 ((st.2.length : Int) + 1)).1 (x, w, mk2, lf), e = (x, w, mk2, lf) ∨ e ∈ st.2 := fun e he => by
          rw [e2] at he
          rw [e1]
          simp only [List.mem_append, List.mem_cons] at he ⊢
          rcases he with h | h | h
          · exact .inr (.inl h)
          · exact .inl h
          · exact .inr (.inr h)
        refine ⟨l6, ⟨hl, ok.pl, fun e he => ?_, fun e he => ?_, fun e he => ?_, ?_⟩, fun e he => ?_, fun e he => ?_⟩
        · rcases sub e he with rfl | h
          · exact ⟨gx.1, gx.2.1⟩
          · exact ok.gs e h
        · rcases sub e he with rfl | h
          · have := at_atZ (l := ws) (i := x) gx.1 (by omega)
            rw [gx.2.2] at this; exact this
          · exact ok.out e h
        · rcases sub e he with rfl | h
          · simpa using hw
          · exact ok.rw e h
        · show ((insT st.2 _ _).map (·.1)).Nodup
          rw [e2]
          have nd : (st.2.map (·.1)).Nodup := ok.nd
          have hne : ∀ e ∈ st.2, e.1 ≠ x := fun e he z => lt e he (by rw [z]; exact List.mem_cons_self)
          rw [e1] at nd hne
          rw [List.map_append] at nd ⊢
          rw [List.map_cons]
          rw [List.nodup_append] at nd ⊢
          refine ⟨nd.1, List.nodup_cons.mpr ⟨fun hm => ?_, nd.2.1⟩, fun a ha b hb => ?_⟩
          · obtain ⟨e, he, q⟩ := List.mem_map.mp hm
            exact hne e (List.mem_append_right _ he) q
          · rcases List.mem_cons.mp hb with rfl | hb
            · obtain ⟨e, he, q⟩ := List.mem_map.mp ha
              intro z
              exact hne e (List.mem_append_left _ he) (q.trans z)
            · exact nd.2.2 a ha b hb
        · rcases sub e he with rfl | h
          · refine ⟨?_, ?_⟩
            · simp only [List.mem_cons, List.not_mem_nil, or_false] at hm
              dsimp only
              omega
            · simp only [List.mem_cons, List.not_mem_nil, or_false] at ht
              dsimp only
              rcases ht with rfl | rfl | rfl | rfl | rfl
              · exact .inl rfl
              · exact .inl rfl
              · exact .inr ⟨1, rfl, by decide, by decide⟩
              · exact .inr ⟨9, rfl, by decide, by decide⟩
              · exact .inr ⟨_, rfl, by omega, by omega⟩
          · exact mk e h
        · rcases sub e he with rfl | h
          · exact (List.nodup_cons.mp hnd).1
          · exact lt' e h
      · rw [if_neg (by simpa using hp)]
        exact ⟨⟨dp1, i1, dp2, dp3, i3, dpk l3 (by decide) (by decide), fun z => absurd (of_decide_eq_true z) hp⟩, ⟨l4, ok, mk, lt'⟩⟩
    obtain ⟨a, b⟩ := fold_waits hn hl xs (B__law_any_room_2 x st) (fun y hy => hx y (List.mem_cons_of_mem _ hy)) (List.nodup_cons.mp hnd).2 hB.2
    exact ⟨⟨hB.1, a⟩, by rw [foldV_cons]; exact b⟩
theorem rngT_nodup (n : Nat) : (rngT 0 (n : Int)).Nodup := by
  unfold rngT
  exact List.pairwise_map.mpr (List.nodup_range.imp fun {a b} h z => h (by omega))
theorem any_of {l : List Int} (hl : Lk l) {n : Nat} (hn : n ≤ 5) : d__law_any_room l n ∧ Lk (v__law_any_room l n).2 ∧ RmOk n (v__law_any_room l n).1 ∧ MarkT (v__law_any_room l n).1 := by
  have rl : (rngT 0 (n : Int)).length = n := by rw [rngT_len]; omega
  obtain ⟨a, b, c, d⟩ := fold_words (rngT 0 (n : Int)) ([], l) hl (by rw [rl]; simp; omega) (fun w hw => by cases hw)
  unfold d__law_any_room v__law_any_room c__law_any_room
  dsimp only [letC, Ctl.get]
  simp only [List.map_id']
  generalize foldV B__law_any_room_0 (rngT 0 (n : Int)) ([], l) = q at b c d ⊢
  have c : q.1.length = n := by rw [c, rl]; simp
  obtain ⟨x, y⟩ := fold_waits (n := n) (ws := q.1) (by omega) c ((rngT 0 (n : Int)).filter fun y : Int => decide (atZ q.1 y = Wd.out)) (q.2, []) (fun g hg => by
    have h := List.mem_filter.mp hg
    have := mem_rngT.mp h.1
    exact ⟨this.1, this.2, of_decide_eq_true h.2⟩) ((rngT_nodup n).filter _) ⟨b, ⟨c, d, (fun e he => by cases he), (fun e he => by cases he), (fun e he => by cases he), List.nodup_nil⟩, (fun e he => by cases he), (fun e he => by cases he)⟩
  refine ⟨⟨⟨by omega, by omega⟩, a, ⟨by omega, by omega⟩, fun g hg => ?_, x⟩, y.lk, y.ok, y.mrk⟩
  have := mem_rngT.mp hg
  exact inR_of this.1 (by omega)
theorem any_rule_full {l : List Int} (hl : Lk l) : RuleF (v__law_any_rule l).1 := by
  obtain ⟨a1, b1, l1⟩ := pk hl (m := 6) (by decide)
  obtain ⟨a2, b2, l2⟩ := pk l1 (m := 6) (by decide)
  obtain ⟨a3, b3, l3⟩ := pk l2 (m := 10) (by decide)
  obtain ⟨a4, b4, l4⟩ := pk l3 (m := 2) (by decide)
  have hm := atZ_mem (l := [Wd.rows, Wd.readers, Wd.writers, Wd.turns, Wd.passes, Wd.passes]) a1 b1
  unfold v__law_any_rule c__law_any_rule
  dsimp only [letC, Ctl.get]
  generalize atZ [Wd.rows, Wd.readers, Wd.writers, Wd.turns, Wd.passes, Wd.passes] _ = w at hm ⊢
  refine ⟨?_, ?_, ?_, ?_, ?_⟩
  · simp only [List.mem_cons, List.not_mem_nil, or_false] at hm ⊢
    rcases hm with h | h | h | h | h | h <;> simp [h]
  · dsimp only; omega
  · dsimp only
    by_cases h : w = Wd.passes
    · simp only [h, decide_true, if_true]; omega
    · simp only [h, decide_false, Bool.false_eq_true, if_false]; omega
  · intro h
    dsimp only at h ⊢
    simp only [h, decide_false, Bool.false_eq_true, if_false]; omega
  · dsimp only; omega

theorem rT_all : (allR.all fun r => decide ((rT r).len ≤ 40) && ((rT r).1.cps.toList.all fun c => decide (c < 128))) = true := by decide +kernel
theorem rT_ok {r : TRule} (F : RuleF r) : Pln (rT r) ∧ (rT r).len ≤ 40 := by
  have := List.all_eq_true.mp rT_all r (allR_mem.mpr F)
  rw [Bool.and_eq_true] at this
  exact ⟨pln_of this.2, of_decide_eq_true this.1⟩
theorem pln_num : ∀ k : Nat, k < 1000 → ((tI (k : Int)).1.cps.toList.all fun c => decide (c < 128)) = true := by decide +kernel
theorem pln_I {i : Int} (h0 : 0 ≤ i) (h1 : i < 1000) : Pln (tI i) := by
  obtain ⟨k, rfl⟩ : ∃ k : Nat, i = k := ⟨i.toNat, by omega⟩
  exact pln_of (pln_num k (by omega))
theorem pln_W (w : Wd) : Pln (tW w) := pln_of (by cases w <;> decide +kernel)
theorem wait_ok {e : TEn} (hg : 0 ≤ e.1 ∧ e.1 ≤ 9) (hw : e.2.1 = Wd.read ∨ e.2.1 = Wd.write) (M : MarkE e) : Pln (v_wait_text e) ∧ (v_wait_text e).len ≤ 20 := by
  have lg := len_I (i := e.1) hg.1 (by omega)
  have lm := len_I (i := e.2.2.1) M.1.1 (by have := M.1.2; omega)
  have lw : (tW e.2.1).len ≤ 5 := by rcases hw with h | h <;> rw [h] <;> decide +kernel
  have ld := (clean_D M).2
  have pd : Pln (tD e.2.2.2) := by
    rcases M.2 with h | ⟨k, h, k1, k2⟩ <;> rw [h]
    · exact pln_of (by decide +kernel)
    · exact pln_I (by omega) (by omega)
  rw [wait_words]
  constructor
  · refine pln_join (pln_of (by decide +kernel)) _ fun p hp => ?_
    simp only [List.mem_cons, List.not_mem_nil, or_false] at hp
    rcases hp with rfl | rfl | rfl | rfl
    · exact pln_I hg.1 (by omega)
    · exact pln_W _
    · exact pln_I M.1.1 (by have := M.1.2; omega)
    · exact pd
  · rw [len_join_sp]
    simp only [List.map_cons, List.map_nil, List.sum_cons, List.sum_nil]
    omega
theorem sum_le {α : Type} (f : α → Nat) (c : Nat) : ∀ l : List α, (∀ x ∈ l, f x ≤ c) → (l.map f).sum ≤ c * l.length
  | [], _ => Nat.le_refl _
  | x :: l, h => by
    have := sum_le f c l fun y hy => h y (List.mem_cons_of_mem _ hy)
    have := h x List.mem_cons_self
    rw [List.map_cons, List.sum_cons, List.length_cons, Nat.mul_succ]; omega
theorem roomT_ok {m : TRoom} (G : Good49 m) : Pln (v__law_room_text m) ∧ (v__law_room_text m).len ≤ 145 := by
  rw [← room_v]
  have e : v_room_text m = tJoin (tS ", ") (tJoin (tS " ") (m.1.map tW) :: m.2.map fun e : TEn => v_wait_text e) := rfl
  have few := G.R.few
  have n5 := G.n5
  have n0 := G.n0
  have each : ∀ x ∈ m.2, Pln (v_wait_text x) ∧ (v_wait_text x).len ≤ 20 := fun x hx => wait_ok (G.gs x hx) (G.R.rw x hx) (G.M x hx)
  have lw : ∀ w ∈ m.1, (tW w).len ≤ 6 := fun w hw => by
    rcases pl_cases (G.R.pl w hw) with h | h | h | h | h <;> rw [h] <;> decide +kernel
  rw [e]
  constructor
  · refine pln_join (pln_of (by decide +kernel)) _ fun p hp => ?_
    rcases List.mem_cons.mp hp with rfl | hp
    · refine pln_join (pln_of (by decide +kernel)) _ fun q hq => ?_
      obtain ⟨w, _, rfl⟩ := List.mem_map.mp hq
      exact pln_W w
    · obtain ⟨x, hx, rfl⟩ := List.mem_map.mp hp
      exact (each x hx).1
  · rw [len_join_cm, List.map_map]
    have s1 := sum_le ((fun x : Tx => x.len + 2) ∘ fun e : TEn => v_wait_text e) 22 m.2 fun x hx => by
      have := (each x hx).2
      show (v_wait_text x).len + 2 ≤ 22
      omega
    have s2 : (tJoin (tS " ") (m.1.map tW)).len ≤ 7 * m.1.length := by
      cases hm : m.1 with
      | nil => rw [hm] at n0; simp at n0
      | cons w r =>
        rw [hm] at lw
        rw [List.map_cons, len_join_sp, List.map_map]
        have s3 := sum_le ((fun x : Tx => x.len + 1) ∘ tW) 7 r fun x hx => by
          have := lw x (List.mem_cons_of_mem _ hx)
          show (tW x).len + 1 ≤ 7
          omega
        have := lw w List.mem_cons_self
        rw [List.length_cons]; omega
    have := Nat.mul_le_mul_left 22 few
    omega
structure W49 (h : Hh) (l : Nat) (left : List Int) : Prop where
  lf : h[l]? = some (oL D.int left)
  lk : Lk left
  dp : h[0]? = some (.dK (dictR allR []))
  ne : l ≠ 0
theorem W49.keep {h h' : Hh} {l : Nat} {left left' : List Int} (T : W49 h l left) (hl : h'[l]? = some (oL D.int left')) (lk : Lk left') (f : ∀ j, j ≠ l → h'[j]? = h[j]?) : W49 h' l left' :=
  ⟨hl, lk, (f _ (Ne.symm T.ne)).trans T.dp, T.ne⟩
theorem same_star (h : Hh) : F__law_same [eStar, eStar] h = .ok (.bl true) h := t__law_same (e := eT2 eX (eO D.int)) (x := (tS "*", none)) rfl h
theorem turn49 {A : Str → Addr} (hA : A "read_room" ≠ A "read_rule") {h : Hh} {l : Nat} {left : List Int} {m : TRoom} (T : W49 h l left) (G : Good49 m) (x0 x2 t x6 x7 x8 : Option D) :
    ∃ h' left' y6 y7, L_law_0 A [x0, some (.ref 0), x2, some (.ref l), some (eRoom m), t, x6, x7, x8] h = .nx [x0, some (.ref 0), x2, some (.ref l), some (eRoom m), t, y6, y7, x8] h' ∧ W49 h' l left' ∧ h'.length = h.length := by
  -- the rule's text
  obtain ⟨d1, lk1, _⟩ := any_rule_of T.lk
  have F := any_rule_full T.lk
  have e1 := t__law_any_rule left h l T.lf d1
  have e1 : F__law_any_rule [.ref l] h = .ok (eRu (v__law_any_rule left).1) (h.set l (oL D.int (v__law_any_rule left).2)) := e1
  have T1 : W49 (h.set l (oL D.int (v__law_any_rule left).2)) l (v__law_any_rule left).2 := T.keep (List.getElem?_set_self (List.getElem?_eq_some_iff.mp T.lf).1) lk1 fun j hj => List.getElem?_set_ne (Ne.symm hj)
  have len1 : (h.set l (oL D.int (v__law_any_rule left).2)).length = h.length := List.length_set
  generalize (v__law_any_rule left).1 = r at e1 F
  generalize (v__law_any_rule left).2 = left1 at e1 T1 len1
  generalize h.set l (oL D.int left1) = h1 at e1 T1 len1
  have e2 := t__law_rule_text r h1 (lrule_d F.six)
  have e2 : F__law_rule_text [eRu r] h1 = .ok (eX (rT r)) h1 := e2
  obtain ⟨pr, lr⟩ := rT_ok F
  obtain ⟨s, h2, left2, e3, len2, lf2, lk2, fr2, ps, ls⟩ := spoilt_run T1.lf T1.lk pr lr (by omega)
  have T2 := T1.keep lf2 lk2 fr2
  generalize rT r = rt at e2 e3
  -- what is due of it, what is read
  have edue : ∃ X, eDGet2 (eSlot 1) (eSlot 6) (eTup (aCons (eC (.str "*")) (aCons (eC .non) aNil))) [x0, some (.ref 0), x2, some (.ref l), some (eRoom m), t, some (eX s), x7, x8] h2 = .ok X h2 ∧ F__law_read A [.glb (.ref (A "read_rule")), eX s] h2 = .ok X h2 ∧ F__law_same [X, X] h2 = .ok (.bl true) h2 := by
    obtain ⟨r1, r2⟩ := rule_read (t := s) (by omega) A h2
    have du := due_rule s
    have dd : dictOf (.ref 0) h2 = some (dictR allR []) := by
      show (match h2[0]? with | some (.dK kvs) => some kvs | _ => none) = _
      rw [T2.dp]
    have g0 : getO (.ref 0) (eX s) h2 = some (getG (dictR allR []) (Sum.inr s.1)) := by
      unfold getO
      rw [dd]; rfl
    have run : eDGet2 (eSlot 1) (eSlot 6) (eTup (aCons (eC (.str "*")) (aCons (eC .non) aNil))) [x0, some (.ref 0), x2, some (.ref l), some (eRoom m), t, some (eX s), x7, x8] h2 = .ok ((getG (dictR allR []) (Sum.inr s.1)).getD eStar) h2 := by
      show (if (dictOf (.ref 0) h2).isSome = true then lift ((getO (.ref 0) (eX s) h2).map fun o : Option D => o.getD eStar) h2 else .stuck) = _
      rw [dd, if_pos (show (some (dictR allR [])).isSome = true from rfl), g0]; rfl
    rw [run, du]
    cases c : readB s with
    | true =>
      rw [if_pos rfl]
      exact ⟨_, rfl, r1 c, t__law_same (e := eRu) rfl h2⟩
    | false =>
      rw [if_neg (by decide)]
      exact ⟨_, rfl, r2 c, same_star h2⟩
  obtain ⟨X, f1, f2, f3⟩ := edue
  -- the room's text
  have W := rm49 G.R G.M G.n5
  have e4 := t__law_room_text m h2 (law_d W)
  have e4 : F__law_room_text [eRoom m] h2 = .ok (eX (v__law_room_text m)) h2 := e4
  obtain ⟨pm, lm⟩ := roomT_ok G
  obtain ⟨s3, h3, left3, e5, len3, lf3, lk3, fr3, ps3, ls3⟩ := spoilt_run T2.lf T2.lk pm lm (by omega)
  have T3 := T2.keep lf3 lk3 fr3
  generalize v__law_room_text m = mt at e4 e5
  obtain ⟨a4, b4, lk4⟩ := pk T3.lk (m := 3) (by decide)
  obtain ⟨h4, e6, len4, lf4, fr4⟩ := pick_run T3.lf (m := 3) (dpk T3.lk (by decide) (by decide))
  have T4 := T3.keep lf4 lk4 fr4
  generalize (v__law_pick left3 3).1 = v at e6
  generalize (v__law_pick left3 3).2 = left4 at T4
  obtain ⟨s5, h5, left5, e7, len5, lf5, lk5, fr5, ps5, ls5⟩ := spoilt_run T4.lf T4.lk ps3 ls3 (by omega)
  have T5 := T4.keep lf5 lk5 fr5
  -- the last texts
  have fin : ∃ (u : Tx) (h6 : Hh) (left6 : List Int), sIf (tE (eOp2 eqO (eCall F__law_pick (aCons (eSlot 3) (aCons (eC (.int 3)) aNil))) (eC (.int 0)))) (sAsg (eCall F__law_spoilt (aCons (eSlot 3) (aCons (eSlot 6) aNil))) (MR.gName 6)) MR.sNext [x0, some (.ref 0), x2, some (.ref l), some (eRoom m), t, some (eX s3), some X, x8] h3 = .nx [x0, some (.ref 0), x2, some (.ref l), some (eRoom m), t, some (eX u), some X, x8] h6 ∧ W49 h6 l left6 ∧ h6.length = h.length ∧ u.len ≤ 620 := by
    have ev : eqO (.int v) (.int 0) h4 = some (.bl (decide (v = 0))) := o_eq D.int v 0 (h := h4)
    by_cases hv : v = 0
    · rw [decide_eq_true hv] at ev
      refine ⟨s5, h5, left5, ?_, T5, by omega, by omega⟩
      generalize eX s3 = d3 at e7 ⊢
      generalize eX s5 = d5 at e7 ⊢
      simp [e6, ev, e7]
    · rw [decide_eq_false hv] at ev
      refine ⟨s3, h4, left4, ?_, T4, by omega, by omega⟩
      generalize eX s3 = d3
      simp [e6, ev]
  obtain ⟨u, h6, left6, e8, T6, len6, lu⟩ := fin
  have e9 := roomof_any lu h6
  have er := room_read lu hA h6
  rw [both_read lu] at er
  have last : ∃ Y, eIf (tE (eOp2 (isNO false) (eSlot 7) (eC .non))) (eTup (aCons (eC (.str "*")) (aCons (eC .non) aNil))) (eSlot 7) [x0, some (.ref 0), x2, some (.ref l), some (eRoom m), t, some (eX u), some (eO eRoom (lawRm u)), x8] h6 = .ok Y h6 ∧ F__law_read A [.glb (.ref (A "read_room")), eX u] h6 = .ok Y h6 ∧ F__law_same [Y, Y] h6 = .ok (.bl true) h6 := by
    cases hc : lawRm u with
    | none =>
      rw [hc] at er
      exact ⟨eStar, rfl, er, same_star h6⟩
    | some m2 =>
      rw [hc] at er
      exact ⟨eRoom m2, rfl, er, t__law_same (e := eRoom) rfl h6⟩
  obtain ⟨Y, k1, k2, k3⟩ := last
  refine ⟨h6, left6, some (eX u), some (eO eRoom (lawRm u)), ?_, T6, len6⟩
  have e9 : F__law_room_of [eX u] h6 = .ok (eO eRoom (lawRm u)) h6 := e9
  have q1 : ∀ z6, sAsg (eCall F__law_spoilt (aCons (eSlot 3) (aCons (eCall F__law_rule_text (aCons (eCall F__law_any_rule (aCons (eSlot 3) aNil)) aNil)) aNil))) (MR.gName 6) [x0, some (.ref 0), x2, some (.ref l), some (eRoom m), t, z6, x7, x8] h = .nx [x0, some (.ref 0), x2, some (.ref l), some (eRoom m), t, some (eX s), x7, x8] h2 := fun z6 => by
    generalize eX s = sd at e3 ⊢
    generalize eX rt = rd at e2 e3
    generalize eRu r = ru at e1 e2
    simp [e1, e2, e3]
  have q2 : sAsg (eDGet2 (eSlot 1) (eSlot 6) (eTup (aCons (eC (.str "*")) (aCons (eC .non) aNil)))) (MR.gName 7) [x0, some (.ref 0), x2, some (.ref l), some (eRoom m), t, some (eX s), x7, x8] h2 = .nx [x0, some (.ref 0), x2, some (.ref l), some (eRoom m), t, some (eX s), some X, x8] h2 := by
    generalize eDGet2 (eSlot 1) (eSlot 6) (eTup (aCons (eC (.str "*")) (aCons (eC .non) aNil))) = E at f1 ⊢
    simp [f1]
  have q3 : sIf (tNot (tE (eCall F__law_same (aCons (eCall (F__law_read A) (aCons (eC (.glb (.ref (A "read_rule")))) (aCons (eSlot 6) aNil))) (aCons (eSlot 7) aNil))))) (sRet (eC (.bl false))) MR.sNext [x0, some (.ref 0), x2, some (.ref l), some (eRoom m), t, some (eX s), some X, x8] h2 = .nx [x0, some (.ref 0), x2, some (.ref l), some (eRoom m), t, some (eX s), some X, x8] h2 := by
    generalize eX s = sd at f2 ⊢
    simp [f2, f3]
  have q4 : sAsg (eCall F__law_spoilt (aCons (eSlot 3) (aCons (eCall F__law_room_text (aCons (eSlot 4) aNil)) aNil))) (MR.gName 6) [x0, some (.ref 0), x2, some (.ref l), some (eRoom m), t, some (eX s), some X, x8] h2 = .nx [x0, some (.ref 0), x2, some (.ref l), some (eRoom m), t, some (eX s3), some X, x8] h3 := by
    generalize eX s3 = sd at e5 ⊢
    generalize eX mt = md at e4 e5
    generalize eRoom m = rm at e4 ⊢
    simp [e4, e5]
  have q6 : sAsg (eCall F__law_room_of (aCons (eSlot 6) aNil)) (MR.gName 7) [x0, some (.ref 0), x2, some (.ref l), some (eRoom m), t, some (eX u), some X, x8] h6 = .nx [x0, some (.ref 0), x2, some (.ref l), some (eRoom m), t, some (eX u), some (eO eRoom (lawRm u)), x8] h6 := by
    generalize eX u = ud at e9 ⊢
    generalize eO eRoom (lawRm u) = od at e9 ⊢
    simp [e9]
  unfold L_law_0
  rw [sq_nx (q1 x6), sq_nx q2, sq_nx q3, sq_nx q4, sq_nx e8, sq_nx q6]
  generalize eIf (tE (eOp2 (isNO false) (eSlot 7) (eC .non))) (eTup (aCons (eC (.str "*")) (aCons (eC .non) aNil))) (eSlot 7) = E at k1 ⊢
  generalize eX u = ud at k1 k2 ⊢
  generalize eO eRoom (lawRm u) = od at k1 ⊢
  simp [k1, k2, k3]

theorem turns49 {A : Str → Addr} (hA : A "read_room" ≠ A "read_rule") {l : Nat} {m : TRoom} (G : Good49 m) (x0 x2 x8 : Option D) : ∀ (xs : List Int) {h : Hh} {left : List Int}, W49 h l left → ∀ x5 x6 x7,
    ∃ h' left' y5 y6 y7, forL none (bodyT (.name 5) (L_law_0 A)) (xs.map D.int) [x0, some (.ref 0), x2, some (.ref l), some (eRoom m), x5, x6, x7, x8] h = .nx [x0, some (.ref 0), x2, some (.ref l), some (eRoom m), y5, y6, y7, x8] h' ∧ W49 h' l left' ∧ h'.length = h.length
  | [], h, left, T, x5, x6, x7 => ⟨h, left, x5, x6, x7, ev_for_nil .., T, rfl⟩
  | x :: xs, h, left, T, x5, x6, x7 => by
    obtain ⟨h1, left1, y6, y7, e1, T1, l1⟩ := turn49 hA T G x0 x2 (some (.int x)) x6 x7 x8
    obtain ⟨h2, left2, z5, z6, z7, e2, T2, l2⟩ := turns49 hA G x0 x2 x8 xs T1 (some (.int x)) y6 y7
    refine ⟨h2, left2, z5, z6, z7, ?_, T2, by omega⟩
    have e1 : bodyT (.name 5) (L_law_0 A) (.int x) [x0, some (.ref 0), x2, some (.ref l), some (eRoom m), x5, x6, x7, x8] h = _ := e1
    rw [List.map_cons, ev_for_cons, e1, ev_lb_nx]
    exact e2
theorem cell49 {A : Str → Addr} (hA : A "read_room" ≠ A "read_rule") (ns : List Int) {k : Int} (k0 : 0 ≤ k) (k1 : k < 1000000) {h : Hh} (h0 : h[0]? = some (.dK (dictR allR []))) (x2 x3 x4 x5 x6 x7 x8 : Option D) :
    ∃ h' env', bodyT (.name 2) (L_law_1 A) (.int k) [some (.scr ns), some (.ref 0), x2, x3, x4, x5, x6, x7, x8] h = .nx (some (.scr ns) :: some (.ref 0) :: env') h' ∧ env'.length = 7 ∧ h'[0]? = some (.dK (dictR allR [])) := by
  have e1 := t__law_left ns k h ⟨k0, k1⟩
  have lk := lk_left ns k
  generalize v__law_left ns k = left at e1 lk
  have hl : 0 < h.length := (List.getElem?_eq_some_iff.mp h0).1
  have T0 : W49 (h ++ [oL D.int left]) h.length left := ⟨by simp, lk, by rw [List.getElem?_append_left hl]; exact h0, by omega⟩
  obtain ⟨a2, b2, lk2⟩ := pk lk (m := 5) (by decide)
  obtain ⟨h2, e2, len2, lf2, fr2⟩ := pick_run T0.lf (m := 5) (dpk lk (by decide) (by decide))
  have T2 := T0.keep lf2 lk2 fr2
  generalize (v__law_pick left 5).2 = left2 at lk2 T2
  obtain ⟨n, hn⟩ : ∃ n : Nat, (1 : Int) + (v__law_pick left 5).1 = n := ⟨((1 : Int) + (v__law_pick left 5).1).toNat, by omega⟩
  generalize (v__law_pick left 5).1 = v at a2 b2 e2 hn
  obtain ⟨d3, lk3, R, M⟩ := any_of lk2 (n := n) (by omega)
  have e3 := t__law_any_room left2 n h2 h.length T2.lf d3
  have e3 : F__law_any_room [.ref h.length, .int n] h2 = .ok (eRoom (v__law_any_room left2 n).1) (h2.set h.length (oL D.int (v__law_any_room left2 n).2)) := e3
  have T3 : W49 (h2.set h.length (oL D.int (v__law_any_room left2 n).2)) h.length (v__law_any_room left2 n).2 := T2.keep (List.getElem?_set_self (List.getElem?_eq_some_iff.mp T2.lf).1) lk3 fun j hj => List.getElem?_set_ne (Ne.symm hj)
  have G : Good49 (v__law_any_room left2 n).1 := by
    have len := R.len
    exact ⟨by omega, by omega, by rw [len]; exact R, M⟩
  generalize (v__law_any_room left2 n).1 = m at e3 G
  generalize (v__law_any_room left2 n).2 = left3 at e3 T3
  generalize h2.set h.length (oL D.int left3) = h3 at e3 T3
  obtain ⟨h4, left4, y5, y6, y7, e4, T4, _⟩ := turns49 hA G (some (.scr ns)) (some (.int k)) x8 (rngT 0 6) T3 x5 x6 x7
  refine ⟨h4, [some (.int k), some (.ref h.length), some (eRoom m), y5, y6, y7, x8], ?_, rfl, T4.dp⟩
  show L_law_1 A [some (.scr ns), some (.ref 0), some (.int k), x3, x4, x5, x6, x7, x8] h = _
  have s1 : sAsg (eCall F__law_left (aCons (eSlot 0) (aCons (eSlot 2) aNil))) (MR.gName 3) [some (.scr ns), some (.ref 0), some (.int k), x3, x4, x5, x6, x7, x8] h = .nx [some (.scr ns), some (.ref 0), some (.int k), some (.ref h.length), x4, x5, x6, x7, x8] (h ++ [oL D.int left]) := by
    simp [e1]
  have s2 : sAsg (eCall F__law_any_room (aCons (eSlot 3) (aCons (eOp2 addO (eC (.int 1)) (eCall F__law_pick (aCons (eSlot 3) (aCons (eC (.int 5)) aNil)))) aNil))) (MR.gName 4) [some (.scr ns), some (.ref 0), some (.int k), some (.ref h.length), x4, x5, x6, x7, x8] (h ++ [oL D.int left]) = .nx [some (.scr ns), some (.ref 0), some (.int k), some (.ref h.length), some (eRoom m), x5, x6, x7, x8] h3 := by
    generalize h ++ [oL D.int left] = hh at e2 ⊢
    generalize eRoom m = rm at e3 ⊢
    simp [e2, hn, e3]
  have s3 := for_src (T := .name 5) (b := L_law_0 A) (e := eC (.int 6)) (M := 6) (by decide) (by decide) rfl e4 ⟨_, _, rfl⟩
  unfold L_law_1
  rw [sq_nx s1, sq_nx s2, s3]
theorem cells49 {A : Str → Addr} (hA : A "read_room" ≠ A "read_rule") (ns : List Int) : ∀ (xs : List Int), (∀ x ∈ xs, 0 ≤ x ∧ x < 1000000) → ∀ (h : Hh) (env : DEnv), h[0]? = some (.dK (dictR allR [])) → env.length = 7 →
    ∃ h' env', forL none (bodyT (.name 2) (L_law_1 A)) (xs.map D.int) (some (.scr ns) :: some (.ref 0) :: env) h = .nx (some (.scr ns) :: some (.ref 0) :: env') h' ∧ env'.length = 7
  | [], _, h, env, h0, hl => ⟨h, _, ev_for_nil .., hl⟩
  | x :: xs, hx, h, env, h0, hl => by
    match env, hl with
    | [x2, x3, x4, x5, x6, x7, x8], _ =>
      obtain ⟨h1, env1, e, l1, h1'⟩ := cell49 hA ns (hx x List.mem_cons_self).1 (hx x List.mem_cons_self).2 h0 x2 x3 x4 x5 x6 x7 x8
      obtain ⟨h2, env2, e2, l2⟩ := cells49 hA ns xs (fun y hy => hx y (List.mem_cons_of_mem _ hy)) h1 env1 h1' l1
      refine ⟨h2, env2, ?_, l2⟩
      rw [List.map_cons, ev_for_cons, e, ev_lb_nx]
      exact e2
theorem thing_step {A : Str → Addr} (hA : A "read_room" ≠ A "read_rule") {x : D} {h : Hh} (hx : isiO [x, .glb (.ty "str")] h = some (.bl false)) (x0 x1 x2 x3 x4 x5 x6 x7 x8 : Option D) : bodyT (.name 8) (L_law_2 A) x [x0, x1, x2, x3, x4, x5, x6, x7, x8] h = .nx [x0, x1, x2, x3, x4, x5, x6, x7, some x] h := by
  have e1 := thing_rule A hx
  have e2 := thing_room hA hx
  have nq : neO eStar eStar h = some (.bl false) := by
    have := o_ne (eT2 eX (eO D.int)) (tS "*", none) (tS "*", none) (h := h)
    rw [decide_eq_true rfl] at this
    exact this
  show L_law_2 A [x0, x1, x2, x3, x4, x5, x6, x7, some x] h = _
  unfold L_law_2
  simp [e1, e2, nq]
theorem law_any {A : Str → Addr} (hA : A "read_room" ≠ A "read_rule") (ns : List Int) : ∃ h', runF 1 N_law (b_law A) [.scr ns] [] = .ok (.bl true) h' := by
  have hM : 0 ≤ (2 : Int) + (if (ns.length : Int) < (8 : Int) then (ns.length : Int) else (8 : Int)) ∧ (2 : Int) + (if (ns.length : Int) < (8 : Int) then (ns.length : Int) else (8 : Int)) ≤ 1000 := by
    split <;> omega
  obtain ⟨h', env', e, el⟩ := cells49 hA ns (rngT 0 ((2 : Int) + (if (ns.length : Int) < (8 : Int) then (ns.length : Int) else (8 : Int)))) (fun x hx => by have := mem_rngT.mp hx; omega) [.dK (dictR allR [])] [none, none, none, none, none, none, none] rfl rfl
  refine ⟨h' ++ [.dK []], ?_⟩
  rw [ev_run1]
  show outR (b_law A [some (.scr ns), none, none, none, none, none, none, none, none] []) = _
  have s0 : sAsg (eCall F__law_rules aNil) (MR.gName 1) [some (.scr ns), none, none, none, none, none, none, none, none] [] = .nx [some (.scr ns), some (.ref 0), none, none, none, none, none, none, none] [.dK (dictR allR [])] := by
    simp [rules_run]
  have ex : (eOp2 addO (eC (.int 2)) (eOpN min2O (aCons (eC (.int 8)) (aCons (eOpN lenO (aCons (eSlot 0) aNil)) aNil)))) [some (.scr ns), some (.ref 0), none, none, none, none, none, none, none] [.dK (dictR allR [])] = .ok (.int ((2 : Int) + (if (ns.length : Int) < (8 : Int) then (ns.length : Int) else (8 : Int)))) [.dK (dictR allR [])] := rfl
  have s1 := for_src (T := .name 2) (b := L_law_1 A) (by omega) (by omega) ex e ⟨_, _, rfl⟩
  unfold b_law
  rw [sq_nx s0, sq_nx s1]
  match env', el with
  | [x2, x3, x4, x5, x6, x7, x8], _ =>
    have i1 : isiO [.non, .glb (.ty "str")] (h' ++ [.dK []]) = some (.bl false) := rfl
    have i2 : isiO [.int 7, .glb (.ty "str")] (h' ++ [.dK []]) = some (.bl false) := rfl
    have i3 : isiO [.bl true, .glb (.ty "str")] (h' ++ [.dK []]) = some (.bl false) := rfl
    have i4 : isiO [.tup [], .glb (.ty "str")] (h' ++ [.dK []]) = some (.bl false) := rfl
    have i5 : isiO [.lst [], .glb (.ty "str")] (h' ++ [.dK []]) = some (.bl false) := rfl
    have i6 : isiO [.ref h'.length, .glb (.ty "str")] (h' ++ [.dK []]) = some (.bl false) := by
      have hx : (h' ++ [O.dK []])[h'.length]? = some (.dK []) := by simp
      have et : tyName (.ref h'.length) (h' ++ [O.dK []]) = some "dict" := by
        unfold tyName
        dsimp only
        rw [hx]
      show (tyName (.ref h'.length) (h' ++ [O.dK []])).bind (fun t => (kitB t "str").map D.bl) = _
      rw [et]; rfl
    have i7 : isiO [.tup [.str "rows"], .glb (.ty "str")] (h' ++ [.dK []]) = some (.bl false) := rfl
    have i8 : isiO [.tup [.str "rows", .int 0, .int 0, .int 0], .glb (.ty "str")] (h' ++ [.dK []]) = some (.bl false) := rfl
    have i9 : isiO [.tup [.tup [.str "out"], .tup []], .glb (.ty "str")] (h' ++ [.dK []]) = some (.bl false) := rfl
    have ei : iOf (eTup (aCons (eC .non) (aCons (eC (.int 7)) (aCons (eC (.bl true)) (aCons (eTup aNil) (aCons (eFrz aNil) (aCons (eDict0) (aCons (eTup (aCons (eC (.str "rows")) aNil)) (aCons (eTup (aCons (eC (.str "rows")) (aCons (eC (.int 0)) (aCons (eC (.int 0)) (aCons (eC (.int 0)) aNil))))) (aCons (eTup (aCons (eTup (aCons (eC (.str "out")) aNil)) (aCons (eTup aNil) aNil))) aNil)))))))))) [some (.scr ns), some (.ref 0), x2, x3, x4, x5, x6, x7, x8] h' = .ok ⟨[.non, .int 7, .bl true, .tup [], .lst [], .ref h'.length, .tup [.str "rows"], .tup [.str "rows", .int 0, .int 0, .int 0], .tup [.tup [.str "out"], .tup []]], none⟩ (h' ++ [.dK []]) := rfl
    have s2 : ∃ z, sFor (iOf (eTup (aCons (eC .non) (aCons (eC (.int 7)) (aCons (eC (.bl true)) (aCons (eTup aNil) (aCons (eFrz aNil) (aCons (eDict0) (aCons (eTup (aCons (eC (.str "rows")) aNil)) (aCons (eTup (aCons (eC (.str "rows")) (aCons (eC (.int 0)) (aCons (eC (.int 0)) (aCons (eC (.int 0)) aNil))))) (aCons (eTup (aCons (eTup (aCons (eC (.str "out")) aNil)) (aCons (eTup aNil) aNil))) aNil))))))))))) (.name 8) (L_law_2 A) [some (.scr ns), some (.ref 0), x2, x3, x4, x5, x6, x7, x8] h' = .nx [some (.scr ns), some (.ref 0), x2, x3, x4, x5, x6, x7, some z] (h' ++ [.dK []]) := by
      refine ⟨.tup [.tup [.str "out"], .tup []], ?_⟩
      unfold sFor
      rw [ei]
      show forL none _ [.non, .int 7, .bl true, .tup [], .lst [], .ref h'.length, .tup [.str "rows"], .tup [.str "rows", .int 0, .int 0, .int 0], .tup [.tup [.str "out"], .tup []]] _ _ = _
      rw [ev_for_cons, thing_step hA i1, ev_lb_nx, ev_for_cons, thing_step hA i2, ev_lb_nx, ev_for_cons, thing_step hA i3, ev_lb_nx, ev_for_cons, thing_step hA i4, ev_lb_nx, ev_for_cons, thing_step hA i5, ev_lb_nx, ev_for_cons, thing_step hA i6, ev_lb_nx, ev_for_cons, thing_step hA i7, ev_lb_nx, ev_for_cons, thing_step hA i8, ev_lb_nx, ev_for_cons, thing_step hA i9, ev_lb_nx, ev_for_nil]
    obtain ⟨z, s2⟩ := s2
    rw [sq_nx s2]
    rfl
theorem law_true (A : Str → Addr) (ns : List Int) (hns : ns.length ≤ 63) : ∃ h', F_law A [.scr ns] [] = .ok (.bl true) h' := by
  unfold F_law
  by_cases hA : A "read_room" ≠ A "read_rule"
  · rw [sepF_of (decide_eq_true hA)]
    exact law_any hA ns
  · refine ⟨[], ?_⟩
    unfold sepF
    rw [decide_eq_false hA]
    rfl

end LK
end
set_option maxHeartbeats 0 in
theorem PySem.Challenge.cw_manyreaders_k49_rules_and_rooms_refused_holds : PySem.Challenge.rw_manyreaders_k49_rules_and_rooms_refused.Holds := by
  w_on; o_law; k_head; (case hw => w_witness2)
  k_fill
  refine L2.walk_of (l := PySem.Challenge.rw_manyreaders_k49_rules_and_rooms_refused) (n := 63) (k := 11) (x := "_law_script") (CX := fun w => L2.CX PySem.Challenge.rw_manyreaders_k49_rules_and_rooms_refused.prog w) (sp := fun w => MR.spA LK.F_law ⟨PySem.Challenge.rw_manyreaders_k49_rules_and_rooms_refused.prog, w, _⟩) rfl (by decide) rfl ⟨rfl, by decide, by decide⟩ (fun w h Y => PySem.W.kIn_of Y) ?F (fun w H a ns hl hO hS => MR.sp_lawA (by decide) LK.law_true H a ns hl hO hS) (fun _ _ _ _ _ h => MR.cx_law h)
  case F =>
    intro w mg fa h KX G hmg
    have T : LK.Txt PySem.Challenge.rw_manyreaders_k49_rules_and_rooms_refused.prog w (L2.KOf KX) mg := by
      refine' ⟨MR.mkXc KX G ?ua_GuestError ?ukp_GuestError ?ucl_GuestError ?uga_GuestError ?ugt_GuestError ?uex_GuestError ?uty_GuestError ?uck_GuestError ?ucs_GuestError ?uct_GuestError ?umo_GuestError ?uhd_GuestError,
        MR.mkXc KX G ?ua_NoDeed ?ukp_NoDeed ?ucl_NoDeed ?uga_NoDeed ?ugt_NoDeed ?uex_NoDeed ?uty_NoDeed ?uck_NoDeed ?ucs_NoDeed ?uct_NoDeed ?umo_NoDeed ?uhd_NoDeed,
        MR.mkXc KX G ?ua_NoText ?ukp_NoText ?ucl_NoText ?uga_NoText ?ugt_NoText ?uex_NoText ?uty_NoText ?uck_NoText ?ucs_NoText ?uct_NoText ?umo_NoText ?uhd_NoText,
        MR.mkXc KX G ?ua_TooMany ?ukp_TooMany ?ucl_TooMany ?uga_TooMany ?ugt_TooMany ?uex_TooMany ?uty_TooMany ?uck_TooMany ?ucs_TooMany ?uct_TooMany ?umo_TooMany ?uhd_TooMany,
        MR.mkXc KX G ?ua_NoLine ?ukp_NoLine ?ucl_NoLine ?uga_NoLine ?ugt_NoLine ?uex_NoLine ?uty_NoLine ?uck_NoLine ?ucs_NoLine ?uct_NoLine ?umo_NoLine ?uhd_NoLine,
        MR.mkXi KX ?ycls_NoDeed ?yrv_NoDeed ?ysa_NoDeed ?yex_NoDeed ?yty_NoDeed ?ykp_NoDeed ?yiC_NoDeed ?yl_NoDeed ?yc_NoDeed ?ykf_NoDeed ?ytI_NoDeed ?yno_NoDeed (fun _ _ _ _ _ _ us hl => match us, hl with | [_, _], _ => rfl),
        MR.mkXiD KX ?ycls_NoText ?yrv_NoText ?ysa_NoText ?yex_NoText ?yty_NoText ?ykp_NoText ?yiC_NoText ?yl_NoText ?ylT_NoText ?yc_NoText ?ykf_NoText ?ytI_NoText ?yno_NoText (fun _ _ _ _ _ _ _ us its hl hi => match us, hl, its, hi with | [_, _], _, [_], _ => ⟨_, rfl, rfl⟩),
        MR.mkXp KX ?zq_GuestError,
        MR.mkXp KX ?zq_TooMany,
        MR.mkXp KX ?zq_NoLine,
        MR.mkXb KX ?zrd_GuestError ?zga_GuestError ?zk_GuestError,
        MR.mkSub KX ?zs_GuestError_GuestError,
        MR.mkSub KX ?zs_GuestError_NoDeed,
        ?zd_GuestError_NoDeed,
        MR.mkSub KX ?zs_GuestError_NoLine,
        ?zd_GuestError_NoLine,
        MR.mkSub KX ?zs_GuestError_NoText,
        ?zd_GuestError_NoText,
        MR.mkSub KX ?zs_GuestError_TooMany,
        ?zd_GuestError_TooMany,
        MR.mkSub KX ?zs_GuestError_ValueError,
        MR.mkSub KX ?zs_NoDeed_GuestError,
        MR.mkSub KX ?zs_NoDeed_NoDeed,
        MR.mkSub KX ?zs_NoDeed_NoLine,
        ?zd_NoDeed_NoLine,
        MR.mkSub KX ?zs_NoDeed_NoText,
        ?zd_NoDeed_NoText,
        MR.mkSub KX ?zs_NoDeed_TooMany,
        ?zd_NoDeed_TooMany,
        MR.mkSub KX ?zs_NoDeed_ValueError,
        MR.mkSub KX ?zs_NoLine_GuestError,
        MR.mkSub KX ?zs_NoLine_NoDeed,
        ?zd_NoLine_NoDeed,
        MR.mkSub KX ?zs_NoLine_NoLine,
        MR.mkSub KX ?zs_NoLine_NoText,
        ?zd_NoLine_NoText,
        MR.mkSub KX ?zs_NoLine_TooMany,
        ?zd_NoLine_TooMany,
        MR.mkSub KX ?zs_NoLine_ValueError,
        MR.mkSub KX ?zs_NoText_GuestError,
        MR.mkSub KX ?zs_NoText_NoDeed,
        ?zd_NoText_NoDeed,
        MR.mkSub KX ?zs_NoText_NoLine,
        ?zd_NoText_NoLine,
        MR.mkSub KX ?zs_NoText_NoText,
        MR.mkSub KX ?zs_NoText_TooMany,
        ?zd_NoText_TooMany,
        MR.mkSub KX ?zs_NoText_ValueError,
        MR.mkSub KX ?zs_TooMany_GuestError,
        MR.mkSub KX ?zs_TooMany_NoDeed,
        ?zd_TooMany_NoDeed,
        MR.mkSub KX ?zs_TooMany_NoLine,
        ?zd_TooMany_NoLine,
        MR.mkSub KX ?zs_TooMany_NoText,
        ?zd_TooMany_NoText,
        MR.mkSub KX ?zs_TooMany_TooMany,
        MR.mkSub KX ?zs_TooMany_ValueError,
        MR.mkFd KX G ?a0 ?l0 ?d0 ?k0 (fun _ _ _ _ _ _ us hl => match us, hl with | [_, _, _], _ => rfl),
        MR.mkFd KX G ?a1 ?l1 ?d1 ?k1 (fun _ _ _ _ _ _ us hl => match us, hl with | [_], _ => rfl),
        MR.mkFd KX G ?a2 ?l2 ?d2 ?k2 (fun _ _ _ _ _ _ us hl => match us, hl with | [_, _], _ => rfl),
        MR.mkFd KX G ?a3 ?l3 ?d3 ?k3 (fun _ _ _ _ _ _ us hl => match us, hl with | [_], _ => rfl),
        MR.mkFd KX G ?a4 ?l4 ?d4 ?k4 (fun _ _ _ _ _ _ us hl => match us, hl with | [_, _], _ => rfl),
        MR.mkFd KX G ?a5 ?l5 ?d5 ?k5 (fun _ _ _ _ _ _ us hl => match us, hl with | [_, _, _], _ => rfl),
        MR.mkFd KX G ?a6 ?l6 ?d6 ?k6 (fun _ _ _ _ _ _ us hl => match us, hl with | [_, _], _ => rfl),
        MR.mkFd KX G ?a7 ?l7 ?d7 ?k7 (fun _ _ _ _ _ _ us hl => match us, hl with | [_], _ => rfl),
        MR.mkFd KX G ?a8 ?l8 ?d8 ?k8 (fun _ _ _ _ _ _ us hl => match us, hl with | [_], _ => rfl),
        MR.mkFd KX G ?a9 ?l9 ?d9 ?k9 (fun _ _ _ _ _ _ us hl => match us, hl with | [_], _ => rfl),
        MR.mkFd KX G ?a10 ?l10 ?d10 ?k10 (fun _ _ _ _ _ _ us hl => match us, hl with | [_, _], _ => rfl),
        MR.mkFd KX G ?a11 ?l11 ?d11 ?k11 (fun _ _ _ _ _ _ us hl => match us, hl with | [_], _ => rfl),
        MR.mkFd KX G ?a12 ?l12 ?d12 ?k12 (fun _ _ _ _ _ _ us hl => match us, hl with | [_], _ => rfl),
        MR.mkFd KX G ?a13 ?l13 ?d13 ?k13 (fun _ _ _ _ _ _ us hl => match us, hl with | [_], _ => rfl),
        MR.mkFd KX G ?a14 ?l14 ?d14 ?k14 (fun _ _ _ _ _ _ us hl => match us, hl with | [_], _ => rfl),
        MR.mkFd KX G ?a15 ?l15 ?d15 ?k15 (fun _ _ _ _ _ _ us hl => match us, hl with | [_, _], _ => rfl),
        MR.mkFd KX G ?a16 ?l16 ?d16 ?k16 (fun _ _ _ _ _ _ us hl => match us, hl with | [], _ => rfl),
        MR.mkFd KX G ?a17 ?l17 ?d17 ?k17 (fun _ _ _ _ _ _ us hl => match us, hl with | [_, _], _ => rfl),
        MR.mkFd KX G ?a18 ?l18 ?d18 ?k18 (fun _ _ _ _ _ _ us hl => match us, hl with | [_, _], _ => rfl),
        MR.mkFd KX G ?a19 ?l19 ?d19 ?k19 (fun _ _ _ _ _ _ us hl => match us, hl with | [_, _], _ => rfl),
        MR.mkFd KX G ?a20 ?l20 ?d20 ?k20 (fun _ _ _ _ _ _ us hl => match us, hl with | [_], _ => rfl),
        MR.mkFd KX G ?a21 ?l21 ?d21 ?k21 (fun _ _ _ _ _ _ us hl => match us, hl with | [_, _], _ => rfl),
        MR.mkFd KX G ?a22 ?l22 ?d22 ?k22 (fun _ _ _ _ _ _ us hl => match us, hl with | [_], _ => rfl),
        MR.mkFd KX G ?a23 ?l23 ?d23 ?k23 (fun _ _ _ _ _ _ us hl => match us, hl with | [_], _ => rfl),
        MR.mkFd KX G ?a24 ?l24 ?d24 ?k24 (fun _ _ _ _ _ _ us hl => match us, hl with | [_, _], _ => rfl),
        MR.mkFd KX G ?a25 ?l25 ?d25 ?k25 (fun _ _ _ _ _ _ us hl => match us, hl with | [], _ => rfl),
        MR.mkFd KX G ?a26 ?l26 ?d26 ?k26 (fun _ _ _ _ _ _ us hl => match us, hl with | [_, _], _ => rfl),
        MR.mkFd KX G ?a27 ?l27 ?d27 ?k27 (fun _ _ _ _ _ _ us hl => match us, hl with | [_], _ => rfl),
        MR.mkFd KX G ?a28 ?l28 ?d28 ?k28 (fun _ _ _ _ _ _ us hl => match us, hl with | [_, _], _ => rfl),
        MR.mkFd KX G ?a29 ?l29 ?d29 ?k29 (fun _ _ _ _ _ _ us hl => match us, hl with | [_], _ => rfl),
        MR.faOf_of ?a14,
        MR.faOf_of ?a12,
        ?fd_read_room_read_rule,
        MR.mkTupS (xs := ["rows", "readers", "writers", "turns", "passes"]) KX G ?ca0 ?cl0 ?cr0 ?cz0,
        MR.mkInt KX G ?ca1,
        MR.mkInt KX G ?ca2,
        MR.mkStr KX G ?ca3,
        MR.mkTupS (xs := ["out", "reads", "rising", "writes", "raised"]) KX G ?ca4 ?cl4 ?cr4 ?cz4,
        MR.mkTupS (xs := ["read", "write"]) KX G ?ca5 ?cl5 ?cr5 ?cz5,
        MR.mkInt KX G ?ca6,
        MR.mkInt KX G ?ca7,
        MR.mkStr KX G ?ca8,
        MR.mkStr KX G ?ca9,
        MR.mkInt KX G ?ca10,
        PySem.W.mg_none_of KX G ?n_ValueError,
        PySem.W.mg_none_of KX G ?n_all,
        PySem.W.mg_none_of KX G ?n_bool,
        PySem.W.mg_none_of KX G ?n_dict,
        PySem.W.mg_none_of KX G ?n_int,
        PySem.W.mg_none_of KX G ?n_isinstance,
        PySem.W.mg_none_of KX G ?n_len,
        PySem.W.mg_none_of KX G ?n_list,
        PySem.W.mg_none_of KX G ?n_max,
        PySem.W.mg_none_of KX G ?n_min,
        PySem.W.mg_none_of KX G ?n_range,
        PySem.W.mg_none_of KX G ?n_set,
        PySem.W.mg_none_of KX G ?n_str,
        PySem.W.mg_none_of KX G ?n_tuple,
        PySem.W.mg_none_of KX G ?n_zip⟩
      (case ua_GuestError => k_is)
      (case ukp_GuestError => k_is)
      (case ucl_GuestError => k_is)
      (case uga_GuestError => k_is)
      (case ugt_GuestError => k_is)
      (case uex_GuestError => k_is)
      (case uty_GuestError => k_is)
      (case uck_GuestError => k_is)
      (case ucs_GuestError => k_is)
      (case uct_GuestError => k_is)
      (case umo_GuestError => k_is)
      (case uhd_GuestError => k_is)
      (case ua_NoDeed => k_is)
      (case ukp_NoDeed => k_is)
      (case ucl_NoDeed => k_is)
      (case uga_NoDeed => k_is)
      (case ugt_NoDeed => k_is)
      (case uex_NoDeed => k_is)
      (case uty_NoDeed => k_is)
      (case uck_NoDeed => k_is)
      (case ucs_NoDeed => k_is)
      (case uct_NoDeed => k_is)
      (case umo_NoDeed => k_is)
      (case uhd_NoDeed => k_is)
      (case ua_NoText => k_is)
      (case ukp_NoText => k_is)
      (case ucl_NoText => k_is)
      (case uga_NoText => k_is)
      (case ugt_NoText => k_is)
      (case uex_NoText => k_is)
      (case uty_NoText => k_is)
      (case uck_NoText => k_is)
      (case ucs_NoText => k_is)
      (case uct_NoText => k_is)
      (case umo_NoText => k_is)
      (case uhd_NoText => k_is)
      (case ua_TooMany => k_is)
      (case ukp_TooMany => k_is)
      (case ucl_TooMany => k_is)
      (case uga_TooMany => k_is)
      (case ugt_TooMany => k_is)
      (case uex_TooMany => k_is)
      (case uty_TooMany => k_is)
      (case uck_TooMany => k_is)
      (case ucs_TooMany => k_is)
      (case uct_TooMany => k_is)
      (case umo_TooMany => k_is)
      (case uhd_TooMany => k_is)
      (case ua_NoLine => k_is)
      (case ukp_NoLine => k_is)
      (case ucl_NoLine => k_is)
      (case uga_NoLine => k_is)
      (case ugt_NoLine => k_is)
      (case uex_NoLine => k_is)
      (case uty_NoLine => k_is)
      (case uck_NoLine => k_is)
      (case ucs_NoLine => k_is)
      (case uct_NoLine => k_is)
      (case umo_NoLine => k_is)
      (case uhd_NoLine => k_is)
      (case ycls_NoDeed => dsimp only [MR.mkXc]; k_is)
      (case yrv_NoDeed => rfl)
      (case ysa_NoDeed => dsimp only [MR.mkXc]; k_is)
      (case yex_NoDeed => dsimp only [MR.mkXc]; k_is)
      (case yty_NoDeed => dsimp only [MR.mkXc]; k_is)
      (case ykp_NoDeed => dsimp only [MR.mkXc]; k_is)
      (case yiC_NoDeed => dsimp only [MR.mkXc]; k_is)
      (case yl_NoDeed => k_is)
      (case yc_NoDeed => k_is)
      (case ykf_NoDeed => k_is)
      (case ytI_NoDeed => k_is)
      (case yno_NoDeed => dsimp only [MR.mkXc]; k_is)
      (case ycls_NoText => dsimp only [MR.mkXc]; k_is)
      (case yrv_NoText => rfl)
      (case ysa_NoText => dsimp only [MR.mkXc]; k_is)
      (case yex_NoText => dsimp only [MR.mkXc]; k_is)
      (case yty_NoText => dsimp only [MR.mkXc]; k_is)
      (case ykp_NoText => dsimp only [MR.mkXc]; k_is)
      (case yiC_NoText => dsimp only [MR.mkXc]; k_is)
      (case yl_NoText => k_is)
      (case ylT_NoText => k_is)
      (case yc_NoText => k_is)
      (case ykf_NoText => k_is)
      (case ytI_NoText => k_is)
      (case yno_NoText => dsimp only [MR.mkXc]; k_is)
      (case zq_GuestError => dsimp only [MR.mkXc]; k_exc)
      (case zq_TooMany => dsimp only [MR.mkXc]; k_exc)
      (case zq_NoLine => dsimp only [MR.mkXc]; k_exc)
      (case zrd_GuestError => dsimp only [MR.mkXc]; k_is)
      (case zga_GuestError => dsimp only [MR.mkXc]; k_is)
      (case zk_GuestError => dsimp only [MR.mkXc]; k_is)
      (case zs_GuestError_GuestError => dsimp only [MR.mkXc]; k_is)
      (case zs_GuestError_NoDeed => dsimp only [MR.mkXc]; k_is)
      (case zd_GuestError_NoDeed => dsimp only [MR.mkXc]; decide)
      (case zs_GuestError_NoLine => dsimp only [MR.mkXc]; k_is)
      (case zd_GuestError_NoLine => dsimp only [MR.mkXc]; decide)
      (case zs_GuestError_NoText => dsimp only [MR.mkXc]; k_is)
      (case zd_GuestError_NoText => dsimp only [MR.mkXc]; decide)
      (case zs_GuestError_TooMany => dsimp only [MR.mkXc]; k_is)
      (case zd_GuestError_TooMany => dsimp only [MR.mkXc]; decide)
      (case zs_GuestError_ValueError => dsimp only [MR.mkXc]; k_is)
      (case zs_NoDeed_GuestError => dsimp only [MR.mkXc]; k_is)
      (case zs_NoDeed_NoDeed => dsimp only [MR.mkXc]; k_is)
      (case zs_NoDeed_NoLine => dsimp only [MR.mkXc]; k_is)
      (case zd_NoDeed_NoLine => dsimp only [MR.mkXc]; decide)
      (case zs_NoDeed_NoText => dsimp only [MR.mkXc]; k_is)
      (case zd_NoDeed_NoText => dsimp only [MR.mkXc]; decide)
      (case zs_NoDeed_TooMany => dsimp only [MR.mkXc]; k_is)
      (case zd_NoDeed_TooMany => dsimp only [MR.mkXc]; decide)
      (case zs_NoDeed_ValueError => dsimp only [MR.mkXc]; k_is)
      (case zs_NoLine_GuestError => dsimp only [MR.mkXc]; k_is)
      (case zs_NoLine_NoDeed => dsimp only [MR.mkXc]; k_is)
      (case zd_NoLine_NoDeed => dsimp only [MR.mkXc]; decide)
      (case zs_NoLine_NoLine => dsimp only [MR.mkXc]; k_is)
      (case zs_NoLine_NoText => dsimp only [MR.mkXc]; k_is)
      (case zd_NoLine_NoText => dsimp only [MR.mkXc]; decide)
      (case zs_NoLine_TooMany => dsimp only [MR.mkXc]; k_is)
      (case zd_NoLine_TooMany => dsimp only [MR.mkXc]; decide)
      (case zs_NoLine_ValueError => dsimp only [MR.mkXc]; k_is)
      (case zs_NoText_GuestError => dsimp only [MR.mkXc]; k_is)
      (case zs_NoText_NoDeed => dsimp only [MR.mkXc]; k_is)
      (case zd_NoText_NoDeed => dsimp only [MR.mkXc]; decide)
      (case zs_NoText_NoLine => dsimp only [MR.mkXc]; k_is)
      (case zd_NoText_NoLine => dsimp only [MR.mkXc]; decide)
      (case zs_NoText_NoText => dsimp only [MR.mkXc]; k_is)
      (case zs_NoText_TooMany => dsimp only [MR.mkXc]; k_is)
      (case zd_NoText_TooMany => dsimp only [MR.mkXc]; decide)
      (case zs_NoText_ValueError => dsimp only [MR.mkXc]; k_is)
      (case zs_TooMany_GuestError => dsimp only [MR.mkXc]; k_is)
      (case zs_TooMany_NoDeed => dsimp only [MR.mkXc]; k_is)
      (case zd_TooMany_NoDeed => dsimp only [MR.mkXc]; decide)
      (case zs_TooMany_NoLine => dsimp only [MR.mkXc]; k_is)
      (case zd_TooMany_NoLine => dsimp only [MR.mkXc]; decide)
      (case zs_TooMany_NoText => dsimp only [MR.mkXc]; k_is)
      (case zd_TooMany_NoText => dsimp only [MR.mkXc]; decide)
      (case zs_TooMany_TooMany => dsimp only [MR.mkXc]; k_is)
      (case zs_TooMany_ValueError => dsimp only [MR.mkXc]; k_is)
      (case a0 => k_is)
      (case l0 => k_is)
      (case d0 => k_is)
      (case k0 => k_is)
      (case a1 => k_is)
      (case l1 => k_is)
      (case d1 => k_is)
      (case k1 => k_is)
      (case a2 => k_is)
      (case l2 => k_is)
      (case d2 => k_is)
      (case k2 => k_is)
      (case a3 => k_is)
      (case l3 => k_is)
      (case d3 => k_is)
      (case k3 => k_is)
      (case a4 => k_is)
      (case l4 => k_is)
      (case d4 => k_is)
      (case k4 => k_is)
      (case a5 => k_is)
      (case l5 => k_is)
      (case d5 => k_is)
      (case k5 => k_is)
      (case a6 => k_is)
      (case l6 => k_is)
      (case d6 => k_is)
      (case k6 => k_is)
      (case a7 => k_is)
      (case l7 => k_is)
      (case d7 => k_is)
      (case k7 => k_is)
      (case a8 => k_is)
      (case l8 => k_is)
      (case d8 => k_is)
      (case k8 => k_is)
      (case a9 => k_is)
      (case l9 => k_is)
      (case d9 => k_is)
      (case k9 => k_is)
      (case a10 => k_is)
      (case l10 => k_is)
      (case d10 => k_is)
      (case k10 => k_is)
      (case a11 => k_is)
      (case l11 => k_is)
      (case d11 => k_is)
      (case k11 => k_is)
      (case a12 => k_is)
      (case l12 => k_is)
      (case d12 => k_is)
      (case k12 => k_is)
      (case a13 => k_is)
      (case l13 => k_is)
      (case d13 => k_is)
      (case k13 => k_is)
      (case a14 => k_is)
      (case l14 => k_is)
      (case d14 => k_is)
      (case k14 => k_is)
      (case a15 => k_is)
      (case l15 => k_is)
      (case d15 => k_is)
      (case k15 => k_is)
      (case a16 => k_is)
      (case l16 => k_is)
      (case d16 => k_is)
      (case k16 => k_is)
      (case a17 => k_is)
      (case l17 => k_is)
      (case d17 => k_is)
      (case k17 => k_is)
      (case a18 => k_is)
      (case l18 => k_is)
      (case d18 => k_is)
      (case k18 => k_is)
      (case a19 => k_is)
      (case l19 => k_is)
      (case d19 => k_is)
      (case k19 => k_is)
      (case a20 => k_is)
      (case l20 => k_is)
      (case d20 => k_is)
      (case k20 => k_is)
      (case a21 => k_is)
      (case l21 => k_is)
      (case d21 => k_is)
      (case k21 => k_is)
      (case a22 => k_is)
      (case l22 => k_is)
      (case d22 => k_is)
      (case k22 => k_is)
      (case a23 => k_is)
      (case l23 => k_is)
      (case d23 => k_is)
      (case k23 => k_is)
      (case a24 => k_is)
      (case l24 => k_is)
      (case d24 => k_is)
      (case k24 => k_is)
      (case a25 => k_is)
      (case l25 => k_is)
      (case d25 => k_is)
      (case k25 => k_is)
      (case a26 => k_is)
      (case l26 => k_is)
      (case d26 => k_is)
      (case k26 => k_is)
      (case a27 => k_is)
      (case l27 => k_is)
      (case d27 => k_is)
      (case k27 => k_is)
      (case a28 => k_is)
      (case l28 => k_is)
      (case d28 => k_is)
      (case k28 => k_is)
      (case a29 => k_is)
      (case l29 => k_is)
      (case d29 => k_is)
      (case k29 => k_is)
      (case ca0 => k_is)
      (case cl0 => k_is)
      (case ca1 => k_is)
      (case ca2 => k_is)
      (case ca3 => k_is)
      (case ca4 => k_is)
      (case cl4 => k_is)
      (case ca5 => k_is)
      (case cl5 => k_is)
      (case ca6 => k_is)
      (case ca7 => k_is)
      (case ca8 => k_is)
      (case ca9 => k_is)
      (case ca10 => k_is)
      (case n_ValueError => k_is)
      (case n_all => k_is)
      (case n_bool => k_is)
      (case n_dict => k_is)
      (case n_int => k_is)
      (case n_isinstance => k_is)
      (case n_len => k_is)
      (case n_list => k_is)
      (case n_max => k_is)
      (case n_min => k_is)
      (case n_range => k_is)
      (case n_set => k_is)
      (case n_str => k_is)
      (case n_tuple => k_is)
      (case n_zip => k_is)
      (case fd_read_room_read_rule => dsimp only [MR.mkFd]; decide)
      (case cr0 => exact MR.strs_vals [("rows", _), ("readers", _), ("writers", _), ("turns", _), ("passes", _)])
      (case cz0 => decide)
      (case cr4 => exact MR.strs_vals [("out", _), ("reads", _), ("rising", _), ("writes", _), ("raised", _)])
      (case cz4 => decide)
      (case cr5 => exact MR.strs_vals [("read", _), ("write", _)])
      (case cz5 => decide)
    have e := hmg.symm.trans T.p_law.g
    cases e
    exact ⟨T.p_law.fd, fun s v => T.p_law.r s [v] rfl, fun base _ _ => LK.ok_law T⟩
