import PyProof.Rows.All
import PySem.Challenge.RW_manyreaders_k02_rooms_or_none
import Wide.All
import OpenK.AllK
import Wide.FinOn
import HandS.ForMost
import HandS.ForExc
import HandS.IsInst
import HandS.Deep
import HandS.TryOnly
import HandS.CallSlots
import HandS.WordsExc
import HandS.Walk
import KE.KDictKeyed
import KE.GoesNew
import HandS.Iter
import HandS.Zip
import HandS.Wide
import HandS.TupAny
import HandS.Style
import HandS.More
import HandS.Ends
import HandS.TupMul
import HandS.SetFor
import HandS.Conv
import HandS.Small
import HandS.Strs
import HandS.CallLocal
import HandS.TupSets
import HandS.FStr
import HandS.Text
import PyProof.StrBlock2
import PyProof.CallStr
import HandS.Flow
set_option Elab.async false
set_option linter.all false
set_option maxRecDepth 100000
/-! F1: data, the logical heap, results, what stands for what. -/
namespace MR
open PySem PySem.Spec PyProof.Rows L2

inductive D where
  | non | bl (b : Bool) | int (i : Int) | str (x : Str)
  | tup (xs : List D) | lst (xs : List D)
  /-- a pair that a walk hands out: to be taken apart -/
  | wtp (xs : List D)
  | ref (i : Nat) | glb (v : V)
  | scr (ns : List Int)

inductive O where
  | lst (xs : List D)
  | dK (kvs : List (Key × D))
  | dN (kvs : List (D × D))
  | ins (x : Str) (fs : List (Str × D))

abbrev Hh := List O
abbrev DEnv := List (Option D)
structure Exn where
  cls : Str
  fld : Option (Str × D)

inductive Res (α : Type) where
  | ok (a : α) (h : Hh)
  | err (x : Exn) (h : Hh)
  | stuck

def Res.bind {α β : Type} (r : Res α) (f : α → Hh → Res β) : Res β :=
  match r with
  | .ok a h => f a h
  | .err x h => .err x h
  | .stuck => .stuck
theorem bind_ok {α β : Type} (a : α) (h : Hh) (f : α → Hh → Res β) : (Res.ok a h).bind f = f a h := rfl
theorem bind_err {α β : Type} (x : Exn) (h : Hh) (f : α → Hh → Res β) : (Res.err x h : Res α).bind f = .err x h := rfl
theorem bind_stuck {α β : Type} (f : α → Hh → Res β) : (Res.stuck : Res α).bind f = .stuck := rfl
def lift {α : Type} (o : Option α) (h : Hh) : Res α := match o with | some a => .ok a h | none => .stuck

abbrev ME := DEnv → Hh → Res D
abbrev MT := DEnv → Hh → Res Bool
abbrev MA := DEnv → Hh → Res (List D)

/-- what is fixed through the law's run -/
structure Gm where
  P : Program
  w : World
  K : PySem.W.Frag

/-- where the things that may change stand; what is set apart -/
structure Rm where
  at_ : List Addr
  res : List Addr
def Rm.add (rho : Rm) (p : Addr) : Rm := ⟨rho.at_ ++ [p], rho.res⟩
def Rm.hold (rho : Rm) (p : Addr) : Rm := ⟨rho.at_, p :: rho.res⟩

/-! ### what stands for what -/
/-- a tuple, of which it is known that it has no dict -/
def SqTS (K : PySem.W.Frag) (H : Hp) (a : Addr) (vs : List V) : Prop :=
  (∃ o : Obj, H a = some (.frz o (.tup vs)) ∧ o.dict = none) ∨
    ∃ (o : Obj) (its : Array Value) (n : Nat), K.lookup a = some o ∧ o.cls = .type "tuple" ∧ o.dict = none ∧ o.data = .seq its n ∧ its.size ≤ sizeLine ∧ Vals vs its.toList
theorem SqTS.t {K : PySem.W.Frag} {H : Hp} {a : Addr} {vs : List V} (h : SqTS K H a vs) : SqT K H a vs := by
  rcases h with ⟨o, h, _⟩ | ⟨o, its, n, a, b, _, c⟩
  · exact .inl (.inr ⟨o, h⟩)
  · exact .inr ⟨o, its, n, a, b, c⟩
mutual
def Den (G : Gm) (rho : Rm) (H : Hp) : D → V → Prop
  | .non, v => v = .non
  | .bl b, v => v = .bl b
  | .int i, v => v = .int i
  | .str x, v => v = .str x
  | .tup ds, v => ∃ a vs, v = .ref a ∧ SqTS G.K H a vs ∧ vs.length ≤ sizeLine ∧ Dens G rho H ds vs
  | .wtp ds, v => ∃ a vs, v = .ref a ∧ SqT G.K H a vs ∧ vs.length ≤ sizeLine ∧ Dens G rho H ds vs
  | .lst ds, v => ∃ a vs, v = .ref a ∧ H a = some (.lst vs) ∧ a ∉ rho.at_ ∧ a ∉ rho.res ∧ vs.length ≤ sizeLine ∧ Dens G rho H ds vs
  | .ref i, v => ∃ a, rho.at_[i]? = some a ∧ v = .ref a
  | .glb u, v => v = u
  | .scr ns, v => ∃ a, v = .ref a ∧ ((∃ o, H a = some (.frz o (.lst (ns.map V.int)))) ∨ ∃ (o : Obj) (its : Array Value) (n : Nat), G.K.lookup a = some o ∧ o.cls = .type "list" ∧ o.dict = none ∧ o.data = .seq its n ∧ its.size ≤ sizeLine ∧ Vals (ns.map V.int) its.toList) ∧ ns.length ≤ sizeLine
def Dens (G : Gm) (rho : Rm) (H : Hp) : List D → List V → Prop
  | [], vs => vs = []
  | d :: ds, vs => ∃ v r, vs = v :: r ∧ Den G rho H d v ∧ Dens G rho H ds r
end

def Fields (G : Gm) (rho : Rm) (H : Hp) : List (Str × D) → List (Str × V) → Prop :=
  Paired fun p q => p.1 = q.1 ∧ Den G rho H p.2 q.2

/-- a dict whose keys are tuples: its entries as they stand -/
def dictRaw (a : Addr) (es : Array DictEntry) (h : Heap) : Prop := ∃ o ep, h.get? a = some o ∧ o.ExactDict ∧ o.data = .dict es ep

mutual
/-- a key by value -/
def nk : D → Option NestedKey
  | .non => some NestedKey.none
  | .bl b => some (NestedKey.num (if b then 1 else 0))
  | .int i => some (NestedKey.num i)
  | .str x => some (NestedKey.text x)
  | .tup ds => (nks ds).map NestedKey.tup
  | .wtp _ => none
  | .lst _ => none
  | .ref _ => none
  | .glb _ => none
  | .scr _ => none
def nks : List D → Option (List NestedKey)
  | [] => some []
  | d :: ds => match nk d, nks ds with
    | some k, some ks => some (k :: ks)
    | _, _ => none
end

def ObD (G : Gm) (rho : Rm) (H : Hp) (a : Addr) : O → Prop
  | .lst ds => ∃ vs, H a = some (.lst vs) ∧ vs.length ≤ sizeLine ∧ Dens G rho H ds vs
  | .dK kvs => ∃ fvs, H a = some (.dK fvs) ∧ fvs.length ≤ sizeLine ∧ Paired (fun (p : Key × D) (q : Key × V) => p.1 = q.1 ∧ Den G rho H p.2 q.2) kvs fvs
  | .dN kvs => ∃ xs : List (NestedKey × Addr × Value), (a == sysModules) = false ∧ xs.length ≤ sizeLine ∧ ∃ es, H a = some (.ext (dictRaw a es)) ∧
      Paired (fun (p : D × D) (q : NestedKey × Addr × Value) => nk p.1 = some q.1 ∧ Den G rho H p.1 (.ref q.2.1) ∧ ∃ v, RelV v q.2.2 ∧ Den G rho H p.2 v) kvs xs ∧
      es.toList = xs.map (entryOfKey (nestedKind G.P G.w)) ∧ (xs.map (·.1)).Nodup
  | .ins x fs => ∃ C dx fvs, PySem.W.nsIn G.K mainGlobals x = some (some (.ref C)) ∧ H a = some (.ins C dx fvs) ∧ H dx = some (.own a) ∧ Fields G rho H fs fvs

structure Rep (G : Gm) (rho : Rm) (hh : Hh) (H : Hp) : Prop where
  nd : rho.at_.Nodup
  hd : ∀ a ∈ rho.res, ∃ o, H a = some o
  len : rho.at_.length = hh.length
  ob : ∀ (i : Nat) (a : Addr) (o : O), rho.at_[i]? = some a → hh[i]? = some o → ObD G rho H a o

structure Step (rho : Rm) (H : Hp) (rho' : Rm) (H' : Hp) : Prop where
  ext : ∃ e, rho'.at_ = rho.at_ ++ e ∧ ∀ a ∈ e, H a = none
  new : ∀ a ∈ rho'.res, a ∈ rho.res ∨ H a = none
  kept : ∀ a ∈ rho.res, a ∈ rho'.res
  keep : ∀ a o, H a = some o → a ∉ rho.at_ → H' a = some o
  there : ∀ a o, H a = some o → ∃ o', H' a = some o'

def EnvD (G : Gm) (rho : Rm) (H : Hp) (env : DEnv) (σ : L2.St) : Prop :=
  env.length = σ.length ∧ ∀ (i : Nat) (d : D), env[i]? = some (some d) → ∃ v, σ[i]? = some (some v) ∧ Den G rho H d v

/-! ### steps -/
section
variable {G : Gm} {rho rho' rho'' : Rm} {H H' H'' : Hp}
theorem Step.refl : Step rho H rho H := ⟨⟨[], by simp, by simp⟩, fun _ h => .inl h, fun _ h => h, fun _ _ h _ => h, fun _ o h => ⟨o, h⟩⟩
theorem Step.back (a : Step rho H rho' H') {x : Addr} (hx : H' x = none) : H x = none := by
  cases q : H x with
  | none => rfl
  | some o =>
    obtain ⟨o', h'⟩ := a.there x o q
    rw [h'] at hx; cases hx
theorem Step.trans (a : Step rho H rho' H') (b : Step rho' H' rho'' H'') : Step rho H rho'' H'' := by
  obtain ⟨e, ee, he⟩ := a.ext
  obtain ⟨e', ee', he'⟩ := b.ext
  refine ⟨⟨e ++ e', by rw [ee', ee, List.append_assoc], fun x hx => ?_⟩, fun x hx => ?_, fun x hx => b.kept x (a.kept x hx), fun x o h hx => ?_, fun x o h => ?_⟩
  · rcases List.mem_append.mp hx with h | h
    · exact he x h
    · exact a.back (he' x h)
  · rcases b.new x hx with h | h
    · exact a.new x h
    · exact .inr (a.back h)
  · have h1 := a.keep x o h hx
    refine b.keep x o h1 fun hm => ?_
    rw [ee] at hm
    rcases List.mem_append.mp hm with h2 | h2
    · exact hx h2
    · have := he x h2
      rw [h] at this; cases this
  · obtain ⟨o', h'⟩ := a.there x o h
    exact b.there x o' h'
theorem Step.get (a : Step rho H rho' H') {i : Nat} {x : Addr} (h : rho.at_[i]? = some x) : rho'.at_[i]? = some x := by
  obtain ⟨e, ee, _⟩ := a.ext
  have hi : i < rho.at_.length := (List.getElem?_eq_some_iff.mp h).1
  rw [ee, List.getElem?_append_left hi]; exact h
theorem Step.out (a : Step rho H rho' H') {x : Addr} {o : HO} (h : H x = some o) (hx : x ∉ rho.at_) : x ∉ rho'.at_ := by
  obtain ⟨e, ee, he⟩ := a.ext
  intro hm
  rw [ee] at hm
  rcases List.mem_append.mp hm with h2 | h2
  · exact hx h2
  · have := he x h2
    rw [h] at this; cases this
theorem Step.outR (a : Step rho H rho' H') {x : Addr} {o : HO} (h : H x = some o) (hx : x ∉ rho.res) : x ∉ rho'.res := fun hm => by
  rcases a.new x hm with h2 | h2
  · exact hx h2
  · rw [h] at h2; cases h2
/-- back to what was there: what has been made is forgotten -/
theorem Step.drop (a : Step rho H rho' H') : Step rho H rho H' := ⟨⟨[], by simp, by simp⟩, fun _ h => .inl h, fun _ h => h, a.keep, a.there⟩
/-- a new thing is laid, not tracked as changing -/
theorem Step.laid {p : Addr} {o : HO} (h : H p = none) : Step rho H rho (upd H p o) :=
  ⟨⟨[], by simp, by simp⟩, fun _ h => .inl h, fun _ h => h, fun x o' hx _ => by rw [upd_ne (ne_of_none hx h)]; exact hx, fun x o' hx => ⟨o', by rw [upd_ne (ne_of_none hx h)]; exact hx⟩⟩
/-- a new thing is laid that may change -/
theorem Step.laidN {p : Addr} {o : HO} (h : H p = none) : Step rho H (rho.add p) (upd H p o) :=
  ⟨⟨[p], rfl, by simpa using h⟩, fun _ h => .inl h, fun _ h => h, fun x o' hx _ => by rw [upd_ne (ne_of_none hx h)]; exact hx, fun x o' hx => ⟨o', by rw [upd_ne (ne_of_none hx h)]; exact hx⟩⟩
/-- a new thing is laid and set apart -/
theorem Step.laidR {p : Addr} {o : HO} (h : H p = none) : Step rho H (rho.hold p) (upd H p o) :=
  ⟨⟨[], by simp [Rm.hold], by simp⟩, fun x hx => by
    rcases List.mem_cons.mp hx with e | hx
    · rw [e]; exact .inr h
    · exact .inl hx, fun _ h => List.mem_cons_of_mem _ h, fun x o' hx _ => by rw [upd_ne (ne_of_none hx h)]; exact hx, fun x o' hx => ⟨o', by rw [upd_ne (ne_of_none hx h)]; exact hx⟩⟩
/-- a thing that may change is changed -/
theorem Step.put {p : Addr} {o : HO} (h : p ∈ rho.at_) : Step rho H rho (upd H p o) :=
  ⟨⟨[], by simp, by simp⟩, fun _ h => .inl h, fun _ h => h, fun x o' hx hn => by rw [upd_ne (fun e => hn (by rw [e]; exact h))]; exact hx, fun x o' hx => by
    by_cases e : x = p
    · subst e; exact ⟨o, upd_same⟩
    · exact ⟨o', by rw [upd_ne e]; exact hx⟩⟩
/-- a thing made since is changed -/
theorem Step.since {p : Addr} {o : HO} (a : Step rho H rho' H') (h : H p = none) : Step rho H rho' (upd H' p o) :=
  ⟨a.ext, a.new, a.kept, fun x o' hx hn => by rw [upd_ne (ne_of_none hx h)]; exact a.keep x o' hx hn, fun x o' hx => by
    obtain ⟨o2, h2⟩ := a.there x o' hx
    exact ⟨o2, by rw [upd_ne (ne_of_none hx h)]; exact h2⟩⟩

/-- what may change is no tuple -/
theorem ObD.mut {a : Addr} {o : O} (x : ObD G rho H a o) : ∃ u, H a = some u ∧ Mut (some u) := by
  cases o with
  | lst ds => obtain ⟨vs, e, _⟩ := x; exact ⟨_, e, True.intro⟩
  | dK kvs => obtain ⟨vs, e, _⟩ := x; exact ⟨_, e, True.intro⟩
  | dN kvs => obtain ⟨xs, _, _, es, e, _⟩ := x; exact ⟨_, e, True.intro⟩
  | ins C fs => obtain ⟨_, dx, fvs, _, e, _⟩ := x; exact ⟨_, e, True.intro⟩
theorem Rep.mut {hh : Hh} (R : Rep G rho hh H) {a : Addr} (h : a ∈ rho.at_) : ∃ u, H a = some u ∧ Mut (some u) := by
  obtain ⟨i, hi, e⟩ := List.mem_iff_getElem.mp h
  have h1 : rho.at_[i]? = some a := by rw [List.getElem?_eq_getElem hi, e]
  have h2 : i < hh.length := by rw [← R.len]; exact hi
  exact (R.ob i a hh[i] h1 (List.getElem?_eq_getElem h2)).mut

theorem rd_step (S : Step rho H rho' H') {a : Addr} {u : HO} (h : Rd H a u) (n : a ∉ rho.at_) : Rd H' a u := by
  rcases h with h | ⟨o, h⟩
  · exact .inl (S.keep a u h n)
  · exact .inr ⟨o, S.keep a _ h n⟩
theorem sqT_step {hh : Hh} (R : Rep G rho hh H) (S : Step rho H rho' H') {a : Addr} {vs : List V} (h : SqT G.K H a vs) : SqT G.K H' a vs := by
  rcases h with h | h
  · refine .inl (rd_step S h fun hm => ?_)
    obtain ⟨u, e, mu⟩ := R.mut hm
    rcases h with h | ⟨o, h⟩
    · rw [h] at e; cases e; exact mu
    · rw [h] at e; cases e; exact mu
  · exact .inr h
theorem sqTS_step {hh : Hh} (R : Rep G rho hh H) (S : Step rho H rho' H') {a : Addr} {vs : List V} (h : SqTS G.K H a vs) : SqTS G.K H' a vs := by
  rcases h with ⟨o, h, d⟩ | h
  · refine .inl ⟨o, S.keep a _ h fun hm => ?_, d⟩
    obtain ⟨u, e, mu⟩ := R.mut hm
    rw [h] at e; cases e; exact mu
  · exact .inr h
mutual
theorem Den.step {hh : Hh} (R : Rep G rho hh H) (S : Step rho H rho' H') : ∀ (d : D) (v : V), Den G rho H d v → Den G rho' H' d v
  | .non, _, h => h
  | .bl _, _, h => h
  | .int _, _, h => h
  | .str _, _, h => h
  | .tup ds, v, h => by
    rw [Den] at h ⊢
    obtain ⟨a, vs, e, q, l, ds'⟩ := h
    exact ⟨a, vs, e, sqTS_step R S q, l, Dens.step R S ds vs ds'⟩
  | .wtp ds, v, h => by
    rw [Den] at h ⊢
    obtain ⟨a, vs, e, q, l, ds'⟩ := h
    exact ⟨a, vs, e, sqT_step R S q, l, Dens.step R S ds vs ds'⟩
  | .lst ds, v, h => by
    rw [Den] at h ⊢
    obtain ⟨a, vs, e, q, n, n2, l, ds'⟩ := h
    exact ⟨a, vs, e, S.keep a _ q n, S.out q n, S.outR q n2, l, Dens.step R S ds vs ds'⟩
  | .ref i, v, h => by
    rw [Den] at h ⊢
    obtain ⟨a, e, q⟩ := h
    exact ⟨a, S.get e, q⟩
  | .glb _, _, h => h
  | .scr ns, v, h => by
    rw [Den] at h ⊢
    obtain ⟨a, e, q, l⟩ := h
    refine ⟨a, e, ?_, l⟩
    rcases q with ⟨o, q⟩ | q
    · exact .inl ⟨o, S.keep a _ q fun hm => by
        obtain ⟨u, e, mu⟩ := R.mut hm
        rw [q] at e; cases e; exact mu⟩
    · exact .inr q
theorem Dens.step {hh : Hh} (R : Rep G rho hh H) (S : Step rho H rho' H') : ∀ (ds : List D) (vs : List V), Dens G rho H ds vs → Dens G rho' H' ds vs
  | [], _, h => h
  | d :: ds, vs, h => by
    rw [Dens] at h ⊢
    obtain ⟨v, r, e, a, b⟩ := h
    exact ⟨v, r, e, Den.step R S d v a, Dens.step R S ds r b⟩
end
theorem EnvD.step {hh : Hh} (R : Rep G rho hh H) (S : Step rho H rho' H') {env : DEnv} {σ : L2.St} (h : EnvD G rho H env σ) : EnvD G rho' H' env σ :=
  ⟨h.1, fun i d e => let ⟨v, e1, e2⟩ := h.2 i d e; ⟨v, e1, Den.step R S d v e2⟩⟩
theorem Fields.step {hh : Hh} (R : Rep G rho hh H) (S : Step rho H rho' H') {fs : List (Str × D)} {fvs : List (Str × V)} (h : Fields G rho H fs fvs) : Fields G rho' H' fs fvs :=
  Paired.mapP h fun p q r => ⟨r.1, Den.step R S _ _ r.2⟩

/-- an object that is not touched -/
theorem ObD.step {hh : Hh} (R : Rep G rho hh H) (S : Step rho H rho' H') {a : Addr} {o : O} (x : ObD G rho H a o) (h : ∀ u, H a = some u → H' a = some u) (ho : ∀ dx, H dx = some (.own a) → H' dx = some (.own a)) : ObD G rho' H' a o := by
  cases o with
  | lst ds => obtain ⟨vs, e, l, q⟩ := x; exact ⟨vs, h _ e, l, Dens.step R S ds vs q⟩
  | dK kvs => obtain ⟨vs, e, l, q⟩ := x; exact ⟨vs, h _ e, l, Paired.mapP q fun p q r => ⟨r.1, Den.step R S _ _ r.2⟩⟩
  | dN kvs =>
    obtain ⟨xs, l0, l1, es, e, q, r⟩ := x
    exact ⟨xs, l0, l1, es, h _ e, Paired.mapP q fun p q r => ⟨r.1, Den.step R S _ _ r.2.1, let ⟨v, a, b⟩ := r.2.2; ⟨v, a, Den.step R S _ _ b⟩⟩, r⟩
  | ins C fs => obtain ⟨c, dx, fvs, g, e, o, q⟩ := x; exact ⟨c, dx, fvs, g, h _ e, ho _ o, q.step R S⟩
/-- no changing thing is an own dict -/
theorem Rep.own {hh : Hh} (R : Rep G rho hh H) {dx a : Addr} (h : H dx = some (.own a)) : dx ∉ rho.at_ := fun hm => by
  obtain ⟨u, e, mu⟩ := R.mut hm
  rw [h] at e; cases e; exact mu

/-- a new thing is laid beside -/
theorem Rep.laid {hh : Hh} (R : Rep G rho hh H) {p : Addr} {o : HO} (h : H p = none) : Rep G rho hh (upd H p o) :=
  ⟨R.nd, fun a m => let ⟨o', e⟩ := R.hd a m; ⟨o', by rw [upd_ne (ne_of_none e h)]; exact e⟩, R.len, fun i a o' e1 e2 => (R.ob i a o' e1 e2).step R (.laid h) (fun u q => by rw [upd_ne (ne_of_none q h)]; exact q) fun dx q => by rw [upd_ne (ne_of_none q h)]; exact q⟩
theorem Rep.step {hh : Hh} (R : Rep G rho hh H) (S : Step rho H rho H') (h : ∀ a ∈ rho.at_, H' a = H a) : Rep G rho hh H' :=
  ⟨R.nd, fun a m => let ⟨o', e⟩ := R.hd a m; S.there a o' e, R.len, fun i a o' e1 e2 => (R.ob i a o' e1 e2).step R S (fun u q => by rw [h a (List.mem_of_getElem? e1)]; exact q) fun dx q => S.keep dx _ q (R.own q)⟩
/-- a new thing that may change -/
theorem Rep.laidN {hh : Hh} (R : Rep G rho hh H) {p : Addr} {o : HO} {ob : O} (h : H p = none) (new : ObD G (rho.add p) (upd H p o) p ob) : Rep G (rho.add p) (hh ++ [ob]) (upd H p o) := by
  have np : p ∉ rho.at_ := fun hm => by
    obtain ⟨u, e, _⟩ := R.mut hm
    rw [h] at e; cases e
  refine ⟨?_, fun a m => let ⟨o', e⟩ := R.hd a m; ⟨o', by rw [upd_ne (ne_of_none e h)]; exact e⟩, by simp [Rm.add, R.len], fun i a o' e1 e2 => ?_⟩
  · show (rho.at_ ++ [p]).Nodup
    rw [List.nodup_append]
    exact ⟨R.nd, by simp, fun x hx y hy e => np (by simp at hy; subst hy; exact e ▸ hx)⟩
  · have e1 : (rho.at_ ++ [p])[i]? = some a := e1
    by_cases hi : i < rho.at_.length
    · rw [List.getElem?_append_left hi] at e1
      rw [List.getElem?_append_left (by rw [← R.len]; exact hi)] at e2
      exact (R.ob i a o' e1 e2).step R (.laidN h) (fun u q => by rw [upd_ne (ne_of_none q h)]; exact q) fun dx q => by rw [upd_ne (ne_of_none q h)]; exact q
    · have hl : i < (rho.at_ ++ [p]).length := (List.getElem?_eq_some_iff.mp e1).1
      have e : i = rho.at_.length := by simp at hl; omega
      subst e
      rw [List.getElem?_append_right (Nat.le_refl _)] at e1
      rw [R.len, List.getElem?_append_right (Nat.le_refl _)] at e2
      simp at e1 e2
      subst e1; subst e2
      exact new
/-- a thing is changed -/
theorem Rep.put {hh : Hh} (R : Rep G rho hh H) {i : Nat} {p : Addr} {o : HO} {ob : O} (hp : rho.at_[i]? = some p) (new : ObD G rho (upd H p o) p ob) : Rep G rho (hh.set i ob) (upd H p o) := by
  have mp : p ∈ rho.at_ := List.mem_of_getElem? hp
  refine ⟨R.nd, fun a m => let ⟨o', e⟩ := R.hd a m; (Step.put mp).there a o' e, by simp [R.len], fun j a o' e1 e2 => ?_⟩
  by_cases hj : j = i
  · subst hj
    rw [hp] at e1; cases e1
    have hl : j < hh.length := by rw [← R.len]; exact (List.getElem?_eq_some_iff.mp hp).1
    rw [List.getElem?_set_self hl] at e2
    cases e2
    exact new
  · rw [List.getElem?_set_ne (Ne.symm hj)] at e2
    have ne : a ≠ p := fun e => by
      subst e
      obtain ⟨h1, q1⟩ := List.getElem?_eq_some_iff.mp e1
      obtain ⟨h2, q2⟩ := List.getElem?_eq_some_iff.mp hp
      exact hj ((List.getElem_inj R.nd).mp (q1.trans q2.symm))
    exact (R.ob j a o' e1 e2).step R (.put mp) (fun u q => by rw [upd_ne ne]; exact q) fun dx q => by
      rw [upd_ne (fun e => R.own q (by rw [e]; exact mp))]; exact q
theorem Dens.length {ds : List D} : ∀ {vs : List V}, Dens G rho H ds vs → ds.length = vs.length := by
  induction ds with
  | nil => intro vs h; rw [Dens] at h; subst h; rfl
  | cons d ds ih =>
    intro vs h
    rw [Dens] at h
    obtain ⟨v, r, rfl, _, q⟩ := h
    simp [ih q]
theorem Dens.append {ds es : List D} : ∀ {vs ws : List V}, Dens G rho H ds vs → Dens G rho H es ws → Dens G rho H (ds ++ es) (vs ++ ws) := by
  induction ds with
  | nil => intro vs ws h q; rw [Dens] at h; subst h; exact q
  | cons d ds ih =>
    intro vs ws h q
    rw [Dens] at h
    obtain ⟨v, r, rfl, a, b⟩ := h
    show Dens G rho H (d :: (ds ++ es)) _
    rw [Dens]
    exact ⟨v, r ++ ws, rfl, a, ih b q⟩
theorem Dens.get {ds : List D} : ∀ {vs : List V} {i : Nat} {d : D}, Dens G rho H ds vs → ds[i]? = some d → ∃ v, vs[i]? = some v ∧ Den G rho H d v := by
  induction ds with
  | nil => intro vs i d h e; simp at e
  | cons x ds ih =>
    intro vs i d h e
    rw [Dens] at h
    obtain ⟨v, r, rfl, a, b⟩ := h
    cases i with
    | zero => simp at e; subst e; exact ⟨v, rfl, a⟩
    | succ i =>
      obtain ⟨w, e1, e2⟩ := ih b (by simpa using e)
      exact ⟨w, by simpa using e1, e2⟩
theorem Dens.of_get {ds : List D} : ∀ {vs : List V}, ds.length = vs.length → (∀ (i : Nat) d v, ds[i]? = some d → vs[i]? = some v → Den G rho H d v) → Dens G rho H ds vs := by
  induction ds with
  | nil => intro vs h _; cases vs with
    | nil => rw [Dens]
    | cons => simp at h
  | cons x ds ih =>
    intro vs h q
    cases vs with
    | nil => simp at h
    | cons v r =>
      rw [Dens]
      exact ⟨v, r, rfl, q 0 x v rfl rfl, ih (by simpa using h) fun i d w e1 e2 => q (i + 1) d w (by simpa using e1) (by simpa using e2)⟩

/-! ### refs within bounds -/
mutual
def bel (n : Nat) : D → Bool
  | .ref i => decide (i < n)
  | .tup ds => bels n ds
  | .wtp ds => bels n ds
  | .lst ds => bels n ds
  | .non => true
  | .bl _ => true
  | .int _ => true
  | .str _ => true
  | .glb _ => true
  | .scr _ => true
def bels (n : Nat) : List D → Bool
  | [] => true
  | d :: ds => bel n d && bels n ds
end
mutual
theorem Den.bel : ∀ (d : D) (v : V), Den G rho H d v → bel rho.at_.length d = true
  | .non, _, _ => rfl
  | .bl _, _, _ => rfl
  | .int _, _, _ => rfl
  | .str _, _, _ => rfl
  | .tup ds, v, h => by
    rw [Den] at h
    obtain ⟨a, vs, _, _, _, q⟩ := h
    rw [MR.bel]; exact Dens.bel ds vs q
  | .wtp ds, v, h => by
    rw [Den] at h
    obtain ⟨a, vs, _, _, _, q⟩ := h
    rw [MR.bel]; exact Dens.bel ds vs q
  | .lst ds, v, h => by
    rw [Den] at h
    obtain ⟨a, vs, _, _, _, _, _, q⟩ := h
    rw [MR.bel]; exact Dens.bel ds vs q
  | .ref i, v, h => by
    rw [Den] at h
    obtain ⟨a, e, _⟩ := h
    rw [MR.bel]; exact decide_eq_true (List.getElem?_eq_some_iff.mp e).1
  | .glb _, _, _ => rfl
  | .scr _, _, _ => rfl
theorem Dens.bel : ∀ (ds : List D) (vs : List V), Dens G rho H ds vs → bels rho.at_.length ds = true
  | [], _, _ => rfl
  | d :: ds, vs, h => by
    rw [Dens] at h
    obtain ⟨v, r, _, a, b⟩ := h
    rw [MR.bels, Den.bel d v a, Dens.bel ds r b]; rfl
end
mutual
/-- fewer things that may change -/
theorem Den.res (h1 : ∃ e, rho'.at_ = rho.at_ ++ e) (h2 : ∀ a, a ∉ rho'.at_ → a ∉ rho'.res → a ∉ rho.res) : ∀ (d : D) (v : V), Den G rho' H d v → MR.bel rho.at_.length d = true → Den G rho H d v
  | .non, _, h, _ => h
  | .bl _, _, h, _ => h
  | .int _, _, h, _ => h
  | .str _, _, h, _ => h
  | .tup ds, v, h, b => by
    rw [Den] at h ⊢
    rw [MR.bel] at b
    obtain ⟨a, vs, e1, q, l, d⟩ := h
    exact ⟨a, vs, e1, q, l, Dens.res h1 h2 ds vs d b⟩
  | .wtp ds, v, h, b => by
    rw [Den] at h ⊢
    rw [MR.bel] at b
    obtain ⟨a, vs, e1, q, l, d⟩ := h
    exact ⟨a, vs, e1, q, l, Dens.res h1 h2 ds vs d b⟩
  | .lst ds, v, h, b => by
    rw [Den] at h ⊢
    rw [MR.bel] at b
    obtain ⟨a, vs, e1, q, n, n2, l, d⟩ := h
    obtain ⟨e, ee⟩ := h1
    exact ⟨a, vs, e1, q, fun hm => n (by rw [ee]; exact List.mem_append_left _ hm), h2 a n n2, l, Dens.res ⟨e, ee⟩ h2 ds vs d b⟩
  | .ref i, v, h, b => by
    rw [Den] at h ⊢
    rw [MR.bel] at b
    obtain ⟨a, e1, q⟩ := h
    obtain ⟨e, ee⟩ := h1
    rw [ee, List.getElem?_append_left (of_decide_eq_true b)] at e1
    exact ⟨a, e1, q⟩
  | .glb _, _, h, _ => h
  | .scr _, _, h, _ => h
theorem Dens.res (h1 : ∃ e, rho'.at_ = rho.at_ ++ e) (h2 : ∀ a, a ∉ rho'.at_ → a ∉ rho'.res → a ∉ rho.res) : ∀ (ds : List D) (vs : List V), Dens G rho' H ds vs → MR.bels rho.at_.length ds = true → Dens G rho H ds vs
  | [], _, h, _ => h
  | d :: ds, vs, h, b => by
    rw [Dens] at h ⊢
    rw [MR.bels, Bool.and_eq_true] at b
    obtain ⟨v, r, e1, x, y⟩ := h
    exact ⟨v, r, e1, Den.res h1 h2 d v x b.1, Dens.res h1 h2 ds r y b.2⟩
end
theorem Paired.and_left {α β : Type} {F : α → β → Prop} {q : α → Prop} : ∀ {l₁ : List α} {l₂ : List β}, Paired F l₁ l₂ → (∀ a b, F a b → q a) → ∀ a ∈ l₁, q a
  | _, _, .nil, _, _, h => nomatch h
  | _, _, .cons r t, f, a, h => by
    rcases List.mem_cons.mp h with e | h
    · rw [e]; exact f _ _ r
    · exact Paired.and_left t f a h
theorem Paired.strong {α β : Type} {F F' : α → β → Prop} {q : α → Prop} : ∀ {l₁ : List α} {l₂ : List β}, Paired F l₁ l₂ → (∀ a ∈ l₁, q a) → (∀ a b, q a → F a b → F' a b) → Paired F' l₁ l₂
  | _, _, .nil, _, _ => .nil
  | _, _, .cons r t, h, f => .cons (f _ _ (h _ List.mem_cons_self) r) (Paired.strong t (fun a m => h a (List.mem_cons_of_mem _ m)) f)
def O.bel (n : Nat) : O → Prop
  | .lst ds => bels n ds = true
  | .dK kvs => ∀ p ∈ kvs, MR.bel n p.2 = true
  | .dN kvs => ∀ p ∈ kvs, MR.bel n p.1 = true ∧ MR.bel n p.2 = true
  | .ins _ fs => ∀ p ∈ fs, MR.bel n p.2 = true
theorem ObD.bel {a : Addr} {o : O} (x : ObD G rho H a o) : O.bel rho.at_.length o := by
  cases o with
  | lst ds => obtain ⟨vs, _, _, q⟩ := x; exact Dens.bel _ _ q
  | dK kvs => obtain ⟨vs, _, _, q⟩ := x; exact Paired.and_left q fun p q r => Den.bel _ _ r.2
  | dN kvs => obtain ⟨xs, _, _, es, _, q, _⟩ := x; exact Paired.and_left q fun p q r => ⟨Den.bel _ _ r.2.1, let ⟨_, _, z⟩ := r.2.2; Den.bel _ _ z⟩
  | ins C fs => obtain ⟨c, dx, fvs, _, _, _, q⟩ := x; exact Paired.and_left q fun p q r => Den.bel _ _ r.2
theorem ObD.res (h1 : ∃ e, rho'.at_ = rho.at_ ++ e) (h2 : ∀ a, a ∉ rho'.at_ → a ∉ rho'.res → a ∉ rho.res) {a : Addr} {o : O} (x : ObD G rho' H a o) (b : O.bel rho.at_.length o) : ObD G rho H a o := by
  cases o with
  | lst ds => obtain ⟨vs, h, l, q⟩ := x; exact ⟨vs, h, l, Dens.res h1 h2 _ _ q b⟩
  | dK kvs => obtain ⟨vs, h, l, q⟩ := x; exact ⟨vs, h, l, Paired.strong q b fun p q z r => ⟨r.1, Den.res h1 h2 _ _ r.2 z⟩⟩
  | dN kvs =>
    obtain ⟨xs, l0, l1, es, h, q, r⟩ := x
    exact ⟨xs, l0, l1, es, h, Paired.strong q b fun p q z r => ⟨r.1, Den.res h1 h2 _ _ r.2.1 z.1, let ⟨v, c, d⟩ := r.2.2; ⟨v, c, Den.res h1 h2 _ _ d z.2⟩⟩, r⟩
  | ins C fs => obtain ⟨c, dx, fvs, g, h, o, q⟩ := x; exact ⟨c, dx, fvs, g, h, o, Paired.strong q b fun p q z r => ⟨r.1, Den.res h1 h2 _ _ r.2 z⟩⟩
/-- what has been made is forgotten -/
theorem Rep.drop {hh g : Hh} (R0 : Rep G rho hh H) (S : Step rho H rho' H') (h1 : ∃ e, rho'.at_ = rho.at_ ++ e) (h2 : ∀ a, a ∉ rho'.at_ → a ∉ rho'.res → a ∉ rho.res) (R : Rep G rho' (hh ++ g) H') : Rep G rho hh H' :=
  ⟨R0.nd, fun a m => let ⟨o', e⟩ := R0.hd a m; S.there a o' e, R0.len, fun i a o e1 e2 => (R.ob i a o (by obtain ⟨e, ee⟩ := h1; rw [ee, List.getElem?_append_left (List.getElem?_eq_some_iff.mp e1).1]; exact e1) (by rw [List.getElem?_append_left (List.getElem?_eq_some_iff.mp e2).1]; exact e2)).res h1 h2 (R0.ob i a o e1 e2).bel⟩
/-- what was set apart is free -/
theorem Rep.free {hh : Hh} {res : List Addr} (R : Rep G rho hh H) (h : ∀ a, a ∈ res → a ∈ rho.res) : Rep G ⟨rho.at_, res⟩ hh H :=
  ⟨R.nd, fun a m => R.hd a (h a m), R.len, fun i a o e1 e2 => (R.ob i a o e1 e2).res (rho := ⟨rho.at_, res⟩) (rho' := rho) ⟨[], by simp⟩ (fun a _ n hm => n (h a hm)) (R.ob i a o e1 e2).bel⟩
end
end MR

/-! F2: readings over data, expressions, tests, arguments. -/
namespace MR
open PySem PySem.Spec PyProof.Rows L2

def ExD (G : Gm) (rho : Rm) (H : Hp) (x : Exn) (c : Value) (d : Option Addr) : Prop :=
  (∃ C, PySem.W.nsIn G.K mainGlobals x.cls = some (some (.ref C)) ∧ c = .ref C) ∧ match x.fld with
    | none => d = none
    | some (f, y) => ∃ a v, d = some a ∧ H a = some (.xd [(f, v)]) ∧ a ∉ rho.at_ ∧ Den G rho H y v
theorem ExD.step {G : Gm} {rho rho' : Rm} {H H' : Hp} {hh : Hh} (R : Rep G rho hh H) (S : Step rho H rho' H') {x : Exn} {c : Value} {d : Option Addr} (h : ExD G rho H x c d) : ExD G rho' H' x c d := by
  obtain ⟨e, h⟩ := h
  refine ⟨e, ?_⟩
  cases q : x.fld with
  | none => rw [q] at h; exact h
  | some p =>
    obtain ⟨f, y⟩ := p
    rw [q] at h
    obtain ⟨a, v, e1, e2, n, e3⟩ := h
    exact ⟨a, v, e1, S.keep a _ e2 n, S.out e2 n, Den.step R S _ _ e3⟩

section
variable {α β : Type}
def PostE (G : Gm) (Rl : Rm → Hp → α → β → Prop) (W : XK) (rho : Rm) (H : Hp) (r : Res α) (Q : β → Hp → Prop) : Prop :=
  match r with
  | .ok a hh => ∀ rho' H' b, Step rho H rho' H' → Rep G rho' hh H' → Rl rho' H' a b → Q b H'
  | .err x hh => ∀ rho' H' c d, Step rho H rho' H' → Rep G rho' hh H' → ExD G rho' H' x c d → W c d H'
  | .stuck => False
variable {G : Gm} {Rl : Rm → Hp → α → β → Prop} {W : XK} {rho rho' : Rm} {H H' : Hp} {Q Q' : β → Hp → Prop}
theorem PostE.start {r : Res α} (h : PostE G Rl W rho H r Q) (S : Step rho H rho' H') : PostE G Rl W rho' H' r Q := by
  cases r with
  | ok a hh => exact fun rho2 H2 b S2 R2 q => h rho2 H2 b (S.trans S2) R2 q
  | err x hh => exact fun rho2 H2 c d S2 R2 q => h rho2 H2 c d (S.trans S2) R2 q
  | stuck => exact h
end

abbrev Cx.gm (X : Cx) : Gm := ⟨X.prog, X.w, X.K⟩

abbrev wAt (W : WX) (σ : L2.St) : XK := fun c d H => W c d σ H
def TD (G : Gm) (W : WX) (m : ME) : TE := fun σ H Q => ∃ rho env hh, Rep G rho hh H ∧ EnvD G rho H env σ ∧ PostE G (Den G) (wAt W σ) rho H (m env hh) Q
def TDt (G : Gm) (W : WX) (m : MT) : TT := fun σ H Q => ∃ rho env hh, Rep G rho hh H ∧ EnvD G rho H env σ ∧ PostE G (fun _ _ a b => a = b) (wAt W σ) rho H (m env hh) Q
def TDa (G : Gm) (W : WX) (m : MA) : TA := fun σ H Q => ∃ rho env hh, Rep G rho hh H ∧ EnvD G rho H env σ ∧ PostE G (Dens G) (wAt W σ) rho H (m env hh) Q
/-- a new list: it stands apart -/
def TDl (G : Gm) (W : WX) (m : MA) : TE := fun σ H Q => ∃ rho env hh, Rep G rho hh H ∧ EnvD G rho H env σ ∧
  match m env hh with
  | .ok ds hh' => ∀ rho' H' p vs, Step rho H rho' H' → Rep G rho' hh' H' → H' p = some (.lst vs) → p ∈ rho'.res → p ∉ rho'.at_ → H p = none → vs.length ≤ sizeLine → Dens G rho' H' ds vs → Q (.ref p) H'
  | .err x hh' => ∀ rho' H' c d, Step rho H rho' H' → Rep G rho' hh' H' → ExD G rho' H' x c d → W c d σ H'
  | .stuck => False

structure DE (X : Cx) (e : Expr) (m : ME) : Prop where
  run : ∀ W, Takes X W → PE X e (TD (Cx.gm X) W m)
structure DT (X : Cx) (e : Expr) (m : MT) : Prop where
  run : ∀ W, Takes X W → PT X e (TDt (Cx.gm X) W m)
structure DW (X : Cx) (e : Expr) (m : MT) : Prop where
  run : ∀ W, Takes X W → PW X e (TDt (Cx.gm X) W m)
structure DA (X : Cx) (es : List Expr) (m : MA) : Prop where
  run : ∀ W, Takes X W → PA X es (TDa (Cx.gm X) W m)
structure DL (X : Cx) (e : Expr) (m : MA) : Prop where
  run : ∀ W, Takes X W → PE X e (TDl (Cx.gm X) W m)

theorem pe_weak {X : Cx} {e : Expr} {t t' : TE} (h : PE X e t) (i : ∀ σ H Q, t' σ H Q → t σ H Q) : PE X e t' := ⟨fun pins s σ H Q I q => h.run pins s σ H Q I (i σ H Q q)⟩
theorem pt_weak {X : Cx} {e : Expr} {t t' : TT} (h : PT X e t) (i : ∀ σ H Q, t' σ H Q → t σ H Q) : PT X e t' := ⟨fun pins s σ H Q I q => h.run pins s σ H Q I (i σ H Q q)⟩
theorem pw_weak {X : Cx} {e : Expr} {t t' : TT} (h : PW X e t) (i : ∀ σ H Q, t' σ H Q → t σ H Q) : PW X e t' := ⟨fun wh pins s σ H Q I q => h.run wh pins s σ H Q I (i σ H Q q)⟩
theorem pa_weak {X : Cx} {e : List Expr} {t t' : TA} (h : PA X e t) (i : ∀ σ H Q, t' σ H Q → t σ H Q) : PA X e t' := ⟨fun pos pins s σ H Q I q => h.run pos pins s σ H Q I (i σ H Q q)⟩

section
variable {α β : Type} {G : Gm} {W : WX} {σ : L2.St} {H : Hp} {Rl : Rm → Hp → α → β → Prop} {Q : β → Hp → Prop}
/-- the state at a place, and what is wanted from there -/
def At (G : Gm) (W : WX) (σ : L2.St) (H : Hp) (Rl : Rm → Hp → α → β → Prop) (Q : β → Hp → Prop) (f : DEnv → Hh → Res α) : Prop :=
  ∃ rho env hh, Rep G rho hh H ∧ EnvD G rho H env σ ∧ PostE G Rl (wAt W σ) rho H (f env hh) Q
theorem At.seq {m : ME} {f : DEnv → D → Hh → Res α} (h : At G W σ H Rl Q fun env hh => (m env hh).bind (f env)) :
    TD G W m σ H fun v H1 => ∃ rho env hh d, Rep G rho hh H1 ∧ EnvD G rho H1 env σ ∧ Den G rho H1 d v ∧ PostE G Rl (wAt W σ) rho H1 (f env d hh) Q := by
  obtain ⟨rho, env, hh, R, E, p⟩ := h
  refine ⟨rho, env, hh, R, E, ?_⟩
  have p : PostE G Rl (wAt W σ) rho H ((m env hh).bind (f env)) Q := p
  cases e : m env hh with
  | ok d hh1 =>
    rw [e, bind_ok] at p
    exact fun rho1 H1 v S R1 q => ⟨rho1, env, hh1, d, R1, E.step R S, q, p.start S⟩
  | err x hh1 => rw [e, bind_err] at p; exact p
  | stuck => rw [e, bind_stuck] at p; exact p
theorem At.seqT {m : MT} {f : DEnv → Bool → Hh → Res α} (h : At G W σ H Rl Q fun env hh => (m env hh).bind (f env)) :
    TDt G W m σ H fun b H1 => At G W σ H1 Rl Q fun env hh => f env b hh := by
  obtain ⟨rho, env, hh, R, E, p⟩ := h
  refine ⟨rho, env, hh, R, E, ?_⟩
  have p : PostE G Rl (wAt W σ) rho H ((m env hh).bind (f env)) Q := p
  cases e : m env hh with
  | ok d hh1 =>
    rw [e, bind_ok] at p
    exact fun rho1 H1 v S R1 q => ⟨rho1, env, hh1, R1, E.step R S, by subst q; exact p.start S⟩
  | err x hh1 => rw [e, bind_err] at p; exact p
  | stuck => rw [e, bind_stuck] at p; exact p
theorem At.seqA {m : MA} {f : DEnv → List D → Hh → Res α} (h : At G W σ H Rl Q fun env hh => (m env hh).bind (f env)) :
    TDa G W m σ H fun vs H1 => ∃ rho env hh ds, Rep G rho hh H1 ∧ EnvD G rho H1 env σ ∧ Dens G rho H1 ds vs ∧ PostE G Rl (wAt W σ) rho H1 (f env ds hh) Q := by
  obtain ⟨rho, env, hh, R, E, p⟩ := h
  refine ⟨rho, env, hh, R, E, ?_⟩
  have p : PostE G Rl (wAt W σ) rho H ((m env hh).bind (f env)) Q := p
  cases e : m env hh with
  | ok d hh1 =>
    rw [e, bind_ok] at p
    exact fun rho1 H1 v S R1 q => ⟨rho1, env, hh1, d, R1, E.step R S, q, p.start S⟩
  | err x hh1 => rw [e, bind_err] at p; exact p
  | stuck => rw [e, bind_stuck] at p; exact p
/-- one more, what is known of a first value kept -/
theorem At.seq2 {m : ME} {f : DEnv → D → D → Hh → Res α} {v1 : V} (h : ∃ rho env hh d, Rep G rho hh H ∧ EnvD G rho H env σ ∧ Den G rho H d v1 ∧ PostE G Rl (wAt W σ) rho H ((m env hh).bind (f env d)) Q) :
    TD G W m σ H fun v H1 => ∃ rho env hh d1 d2, Rep G rho hh H1 ∧ EnvD G rho H1 env σ ∧ Den G rho H1 d1 v1 ∧ Den G rho H1 d2 v ∧ PostE G Rl (wAt W σ) rho H1 (f env d1 d2 hh) Q := by
  obtain ⟨rho, env, hh, d1, R, E, q1, p⟩ := h
  refine ⟨rho, env, hh, R, E, ?_⟩
  cases e : m env hh with
  | ok d hh1 =>
    rw [e, bind_ok] at p
    exact fun rho1 H1 v S R1 q => ⟨rho1, env, hh1, d1, d, R1, E.step R S, Den.step R S _ _ q1, q, p.start S⟩
  | err x hh1 => rw [e, bind_err] at p; exact p
  | stuck => rw [e, bind_stuck] at p; exact p
theorem At.seq2A {m : MA} {f : DEnv → D → List D → Hh → Res α} {v1 : V} (h : ∃ rho env hh d, Rep G rho hh H ∧ EnvD G rho H env σ ∧ Den G rho H d v1 ∧ PostE G Rl (wAt W σ) rho H ((m env hh).bind (f env d)) Q) :
    TDa G W m σ H fun vs H1 => ∃ rho env hh d1 ds, Rep G rho hh H1 ∧ EnvD G rho H1 env σ ∧ Den G rho H1 d1 v1 ∧ Dens G rho H1 ds vs ∧ PostE G Rl (wAt W σ) rho H1 (f env d1 ds hh) Q := by
  obtain ⟨rho, env, hh, d1, R, E, q1, p⟩ := h
  refine ⟨rho, env, hh, R, E, ?_⟩
  cases e : m env hh with
  | ok d hh1 =>
    rw [e, bind_ok] at p
    exact fun rho1 H1 v S R1 q => ⟨rho1, env, hh1, d1, d, R1, E.step R S, Den.step R S _ _ q1, q, p.start S⟩
  | err x hh1 => rw [e, bind_err] at p; exact p
  | stuck => rw [e, bind_stuck] at p; exact p
theorem At.seq3 {m : ME} {f : DEnv → D → D → D → Hh → Res α} {v1 v2 : V} (h : ∃ rho env hh d1 d2, Rep G rho hh H ∧ EnvD G rho H env σ ∧ Den G rho H d1 v1 ∧ Den G rho H d2 v2 ∧ PostE G Rl (wAt W σ) rho H ((m env hh).bind (f env d1 d2)) Q) :
    TD G W m σ H fun v H1 => ∃ rho env hh d1 d2 d3, Rep G rho hh H1 ∧ EnvD G rho H1 env σ ∧ Den G rho H1 d1 v1 ∧ Den G rho H1 d2 v2 ∧ Den G rho H1 d3 v ∧ PostE G Rl (wAt W σ) rho H1 (f env d1 d2 d3 hh) Q := by
  obtain ⟨rho, env, hh, d1, d2, R, E, q1, q2, p⟩ := h
  refine ⟨rho, env, hh, R, E, ?_⟩
  cases e : m env hh with
  | ok d hh1 =>
    rw [e, bind_ok] at p
    exact fun rho1 H1 v S R1 q => ⟨rho1, env, hh1, d1, d2, d, R1, E.step R S, Den.step R S _ _ q1, Den.step R S _ _ q2, q, p.start S⟩
  | err x hh1 => rw [e, bind_err] at p; exact p
  | stuck => rw [e, bind_stuck] at p; exact p
/-- the end: a value that stands -/
theorem PostE.val {Wk : XK} {rho : Rm} {hh : Hh} {a : α} {b : β} (h : PostE G Rl Wk rho H (.ok a hh) Q) (R : Rep G rho hh H) (r : Rl rho H a b) : Q b H := h rho H b .refl R r
end

/-! ### names, constants -/
section
variable {X : Cx}
def eSlot (i : Nat) : ME := fun env h => match env[i]? with
  | some (some d) => .ok d h
  | _ => .stuck
def eC (d : D) : ME := fun _ h => .ok d h
theorem de_slot (i : Nat) {x : Str} {pos : Pos} (hN : X.N[i]? = some x := by rfl) (hv : Vis X.env.scope x := by first | exact Or.inl rfl | exact Or.inr (Or.inl rfl) | exact Or.inr (Or.inr rfl)) (hd : (x == ("__debug__" : Str)) = false := by decide)
    (hcd : (x == ("__classdict__" : Str)) = false := by decide) : DE X (.Name x pos) (eSlot i) := ⟨fun W _ => pe_weak (pe_var (i := i) hN hv hd hcd) fun σ H Q h => by
  obtain ⟨rho, env, hh, R, E, p⟩ := h
  unfold eSlot at p
  split at p
  · rename_i d e
    obtain ⟨v, e1, q⟩ := E.2 i d e
    exact ⟨v, e1, p.val R q⟩
  · exact p.elim⟩
theorem de_const {e : Expr} {v : V} {d : D} (h : PE X e (tC v)) (q : ∀ G rho H, Den G rho H d v) : DE X e (eC d) := ⟨fun W _ => pe_weak h fun σ H Q h => by
  obtain ⟨rho, env, hh, R, E, p⟩ := h
  exact p.val (b := v) R (q _ _ _)⟩
theorem de_int {i j pos} : DE X (.Constant (.int i) j pos) (eC (.int i)) := de_const pe_int fun _ _ _ => rfl
theorem de_bl {b j pos} : DE X (.Constant (.bool b) j pos) (eC (.bl b)) := de_const pe_bl fun _ _ _ => rfl
theorem de_non {j pos} : DE X (.Constant .none j pos) (eC .non) := de_const pe_non fun _ _ _ => rfl
theorem de_str {x j pos} : DE X (.Constant (.str x) j pos) (eC (.str x)) := de_const pe_str fun _ _ _ => rfl
/-- a name of the module -/
theorem de_glb {x : Str} {v : V} {u : Value} {pos : Pos} (hg : Gl X x) (hm : X.mg x = some u) (r : RelV v u) (hd : (x == ("__debug__" : Str)) = false := by decide) : DE X (.Name x pos) (eC (.glb v)) := de_const (pe_glob hg hm r hd) fun _ _ _ => rfl
theorem de_glbD {x : Str} {v : V} {d : D} {u : Value} {pos : Pos} (hg : Gl X x) (hm : X.mg x = some u) (r : RelV v u) (q : ∀ rho H, Den (Cx.gm X) rho H d v) (hd : (x == ("__debug__" : Str)) = false := by decide) : DE X (.Name x pos) (eC d) :=
  ⟨fun W _ => pe_weak (pe_glob hg hm r hd) fun σ H Q h => by
    obtain ⟨rho, env, hh, R, E, p⟩ := h
    exact p.val (b := v) R (q _ _)⟩
/-- a built-in's name as a value -/
theorem de_bltn {x : Str} {v : V} {u : Value} {pos : Pos} (hg : Gl X x) (hm : X.mg x = none) (hv : bootBuiltins x = some u) (r : RelV v u) (hn : x ≠ "__name__" := by decide) (hd : (x == ("__debug__" : Str)) = false := by decide) : DE X (.Name x pos) (eC (.glb v)) :=
  de_const (pe_bltn hg hm hv r hn hd) fun _ _ _ => rfl

/-! ### operators -/
abbrev Op2 := D → D → Hh → Option D
abbrev OpN := List D → Hh → Option D
def Rz2 (G : Gm) (r : R2) (op : Op2) : Prop := ∀ rho hh H d1 d2 v1 v2 d (Q : VK), Rep G rho hh H → Den G rho H d1 v1 → Den G rho H d2 v2 → op d1 d2 hh = some d →
  (∀ v H', Step rho H rho H' → Rep G rho hh H' → Den G rho H' d v → Q v H') → r v1 v2 H Q
def RzN (G : Gm) (r : List V → Hp → VK → Prop) (op : OpN) : Prop := ∀ rho hh H ds vs d (Q : VK), Rep G rho hh H → Dens G rho H ds vs → op ds hh = some d →
  (∀ v H', Step rho H rho H' → Rep G rho hh H' → Den G rho H' d v → Q v H') → r vs H Q
def eOp2 (f : Op2) (a b : ME) : ME := fun env h => (a env h).bind fun x h1 => (b env h1).bind fun y h2 => lift (f x y h2) h2
def eOpN (f : OpN) (as : MA) : ME := fun env h => (as env h).bind fun xs h1 => lift (f xs h1) h1
theorem tOp_of {G : Gm} {W : WX} {r : R2} {f : Op2} {ma mb : ME} {σ : L2.St} {H : Hp} {Q : VK} (z : Rz2 G r f) (h : TD G W (eOp2 f ma mb) σ H Q) : tOp r (TD G W ma) (TD G W mb) σ H Q := by
  have h1 := At.seq (m := ma) (f := fun env x h1 => (mb env h1).bind fun y h2 => lift (f x y h2) h2) h
  obtain ⟨rho, env, hh, R, E, p⟩ := h1
  refine ⟨rho, env, hh, R, E, ?_⟩
  cases e : ma env hh with
  | ok d hh1 =>
    rw [e] at p
    intro rho1 H1 v S R1 q
    have h2 := At.seq2 (m := mb) (f := fun env x y h2 => lift (f x y h2) h2) (p rho1 H1 v S R1 q)
    obtain ⟨rho2, env2, hh2, R2, E2, p2⟩ := h2
    refine ⟨rho2, env2, hh2, R2, E2, ?_⟩
    cases e2 : mb env2 hh2 with
    | ok d2 hh3 =>
      rw [e2] at p2
      intro rho3 H3 v3 S3 R3 q3
      obtain ⟨rho4, env4, hh4, x, y, R4, E4, qx, qy, p4⟩ := p2 rho3 H3 v3 S3 R3 q3
      cases o : f x y hh4 with
      | none => rw [show lift (f x y hh4) hh4 = .stuck by rw [o]; rfl] at p4; exact p4.elim
      | some dd =>
        rw [show lift (f x y hh4) hh4 = .ok dd hh4 by rw [o]; rfl] at p4
        exact z rho4 hh4 H3 x y v v3 dd Q R4 qx qy o fun w H' S' R' q' => p4 rho4 H' w S' R' q'
    | err x hh1 => rw [e2] at p2; exact p2
    | stuck => rw [e2] at p2; exact p2
  | err x hh1 => rw [e] at p; exact p
  | stuck => rw [e] at p; exact p
variable {a b : Expr} {ma mb : ME} {pos : Pos}
theorem de_op {op : Operator} {r : R2} {f : Op2} (ho : OpR X (binaryOp op) r) (z : Rz2 (Cx.gm X) r f) (ha : DE X a ma) (hb : DE X b mb) : DE X (.BinOp a op b pos) (eOp2 f ma mb) :=
  ⟨fun W tk => pe_weak (pe_op ho (ha.run W tk) (hb.run W tk)) fun σ H Q h => tOp_of z h⟩
theorem de_cmp {op : CmpOp} {r : R2} {f : Op2} (ho : OpR X (compareOp op) r) (z : Rz2 (Cx.gm X) r f) (ha : DE X a ma) (hb : DE X b mb) (hm : behindInMarks op b = false) : DE X (.Compare a [op] [b] pos) (eOp2 f ma mb) :=
  ⟨fun W tk => pe_weak (pe_cmpR ho (ha.run W tk) (hb.run W tk) hm) fun σ H Q h => tOp_of z h⟩
theorem de_ix {r : R2} {f : Op2} (hr : IxR X r) (z : Rz2 (Cx.gm X) r f) (ha : DE X a ma) (hb : DE X b mb) (hs : PlainIx b) : DE X (.Subscript a b pos) (eOp2 f ma mb) :=
  ⟨fun W tk => pe_weak (pe_ix hr (ha.run W tk) (hb.run W tk) hs) fun σ H Q h => tOp_of z h⟩

/-! ### arguments -/
def aNil : MA := fun _ h => .ok [] h
def aCons (a : ME) (as : MA) : MA := fun env h => (a env h).bind fun x h1 => (as env h1).bind fun xs h2 => .ok (x :: xs) h2
theorem da_nil : DA X [] aNil := ⟨fun W _ => pa_weak pa_nil fun σ H Q h => by
  obtain ⟨rho, env, hh, R, E, p⟩ := h
  exact PostE.val (b := []) p R rfl⟩
variable {es : List Expr} {e : Expr} {m : ME} {ms : MA}
theorem da_cons (ha : DE X e m) (hr : DA X es ms) (hs : starEach (e :: es) X.env = (false, eval e X.env) :: starEach es X.env := by rfl) : DA X (e :: es) (aCons m ms) :=
  ⟨fun W tk => pa_weak (pa_cons (ha.run W tk) (hr.run W tk) hs) fun σ H Q h => by
    have h1 := At.seq (m := m) (f := fun env x h1 => (ms env h1).bind fun xs h2 => .ok (x :: xs) h2) h
    obtain ⟨rho, env, hh, R, E, p⟩ := h1
    refine ⟨rho, env, hh, R, E, ?_⟩
    cases e : m env hh with
    | ok d hh1 =>
      rw [e] at p
      intro rho1 H1 v S R1 q
      have h2 := At.seq2A (m := ms) (f := fun env x xs h2 => .ok (x :: xs) h2) (p rho1 H1 v S R1 q)
      obtain ⟨rho2, env2, hh2, R2, E2, p2⟩ := h2
      refine ⟨rho2, env2, hh2, R2, E2, ?_⟩
      cases e2 : ms env2 hh2 with
      | ok d2 hh3 =>
        rw [e2] at p2
        intro rho3 H3 vs S3 R3 q3
        obtain ⟨rho4, env4, hh4, x, xs, R4, E4, qx, qy, p4⟩ := p2 rho3 H3 vs S3 R3 q3
        exact PostE.val (b := v :: vs) p4 R4 ⟨v, vs, rfl, qx, qy⟩
      | err x hh1 => rw [e2] at p2; exact p2
      | stuck => rw [e2] at p2; exact p2
    | err x hh1 => rw [e] at p; exact p
    | stuck => rw [e] at p; exact p⟩
/-- the reading of arguments, then something else -/
theorem tA_of {G : Gm} {W : WX} {ms : MA} {α β : Type} {Rl : Rm → Hp → α → β → Prop} {f : DEnv → List D → Hh → Res α} {σ : L2.St} {H : Hp} {Q : β → Hp → Prop} {k : List V → Hp → Prop}
    (h : At G W σ H Rl Q fun env hh => (ms env hh).bind (f env))
    (hk : ∀ rho env hh H1 ds vs, Rep G rho hh H1 → EnvD G rho H1 env σ → Dens G rho H1 ds vs → PostE G Rl (wAt W σ) rho H1 (f env ds hh) Q → k vs H1) : TDa G W ms σ H k := by
  obtain ⟨rho, env, hh, R, E, p⟩ := At.seqA h
  refine ⟨rho, env, hh, R, E, ?_⟩
  cases e : ms env hh with
  | ok d hh1 =>
    rw [e] at p
    intro rho1 H1 v S R1 q
    obtain ⟨rho4, env4, hh4, ds, R4, E4, q4, p4⟩ := p rho1 H1 v S R1 q
    exact hk rho4 env4 hh4 H1 ds v R4 E4 q4 p4
  | err x hh1 => rw [e] at p; exact p
  | stuck => rw [e] at p; exact p
theorem tE_of {G : Gm} {W : WX} {m : ME} {α β : Type} {Rl : Rm → Hp → α → β → Prop} {f : DEnv → D → Hh → Res α} {σ : L2.St} {H : Hp} {Q : β → Hp → Prop} {k : V → Hp → Prop}
    (h : At G W σ H Rl Q fun env hh => (m env hh).bind (f env))
    (hk : ∀ rho env hh H1 d v, Rep G rho hh H1 → EnvD G rho H1 env σ → Den G rho H1 d v → PostE G Rl (wAt W σ) rho H1 (f env d hh) Q → k v H1) : TD G W m σ H k := by
  obtain ⟨rho, env, hh, R, E, p⟩ := At.seq h
  refine ⟨rho, env, hh, R, E, ?_⟩
  cases e : m env hh with
  | ok d hh1 =>
    rw [e] at p
    intro rho1 H1 v S R1 q
    obtain ⟨rho4, env4, hh4, ds, R4, E4, q4, p4⟩ := p rho1 H1 v S R1 q
    exact hk rho4 env4 hh4 H1 ds v R4 E4 q4 p4
  | err x hh1 => rw [e] at p; exact p
  | stuck => rw [e] at p; exact p
theorem tE2_of {G : Gm} {W : WX} {m : ME} {α β : Type} {Rl : Rm → Hp → α → β → Prop} {f : DEnv → D → D → Hh → Res α} {σ : L2.St} {H : Hp} {Q : β → Hp → Prop} {v1 : V} {d1 : D} {k : V → Hp → Prop}
    (h : ∃ rho env hh, Rep G rho hh H ∧ EnvD G rho H env σ ∧ Den G rho H d1 v1 ∧ PostE G Rl (wAt W σ) rho H ((m env hh).bind (f env d1)) Q)
    (hk : ∀ rho env hh H1 d2 v, Rep G rho hh H1 → EnvD G rho H1 env σ → Den G rho H1 d1 v1 → Den G rho H1 d2 v → PostE G Rl (wAt W σ) rho H1 (f env d1 d2 hh) Q → k v H1) : TD G W m σ H k := by
  obtain ⟨rho, env, hh, R, E, q1, p⟩ := h
  refine ⟨rho, env, hh, R, E, ?_⟩
  cases e : m env hh with
  | ok d hh1 =>
    rw [e, bind_ok] at p
    exact fun rho1 H1 v S R1 q => hk rho1 env hh1 H1 d v R1 (E.step R S) (Den.step R S _ _ q1) q (p.start S)
  | err x hh1 => rw [e, bind_err] at p; exact p
  | stuck => rw [e, bind_stuck] at p; exact p
theorem lift_post {α β : Type} {G : Gm} {Rl : Rm → Hp → α → β → Prop} {W : XK} {rho : Rm} {H : Hp} {o : Option α} {hh : Hh} {Q : β → Hp → Prop} (p : PostE G Rl W rho H (lift o hh) Q) : ∃ a, o = some a ∧ PostE G Rl W rho H (.ok a hh) Q := by
  cases o with
  | none => exact p.elim
  | some a => exact ⟨a, rfl, p⟩
theorem rz_of {G : Gm} {W : XK} {r : List V → Hp → VK → Prop} {f : OpN} {rho : Rm} {hh : Hh} {H : Hp} {ds : List D} {vs : List V} {Q : VK} (z : RzN G r f) (R : Rep G rho hh H) (q : Dens G rho H ds vs)
    (p : PostE G (Den G) W rho H (lift (f ds hh) hh) Q) : r vs H Q := by
  obtain ⟨d, e, p⟩ := lift_post p
  exact z rho hh H ds vs d Q R q e fun w H' S' R' q' => p rho H' w S' R' q'

/-- a built-in function called by its name -/
theorem de_callB {id : String} {x : Str} {p : Pos} {r : List V → Hp → VK → Prop} {f : OpN} (hc : CallR X (.builtin id) r) (z : RzN (Cx.gm X) r f) (hg : Gl X x) (hm : X.mg x = none) (hv : bootBuiltins x = some (.builtin id)) (ha : DA X (e :: es) ms)
    (hn : x ≠ "__name__" := by decide) (hdb : (x == ("__debug__" : Str)) = false := by decide) (he : starEach (e :: es) X.env = (false, eval e X.env) :: starEach es X.env := by rfl) (hpl : (backTo pos (starEach es X.env)).any (·.1) = false := by rfl) :
    DE X (.Call (.Name x p) (e :: es) [] pos) (eOpN f ms) :=
  ⟨fun W tk => pe_weak (pe_callB hc hg hm hv (ha.run W tk) hn hdb he hpl) fun σ H Q h => tA_of h fun rho env hh H1 ds vs R E q p => rz_of z R q p⟩
theorem de_callTy {T : String} {x : Str} {p : Pos} {r : List V → Hp → VK → Prop} {f : OpN} (hc : CallR X (.type T) r) (z : RzN (Cx.gm X) r f) (hg : Gl X x) (hm : X.mg x = none) (hv : bootBuiltins x = some (.type T)) (ha : DA X (e :: es) ms)
    (hn : x ≠ "__name__" := by decide) (hdb : (x == ("__debug__" : Str)) = false := by decide) (he : starEach (e :: es) X.env = (false, eval e X.env) :: starEach es X.env := by rfl) (hpl : (backTo pos (starEach es X.env)).any (·.1) = false := by rfl) :
    DE X (.Call (.Name x p) (e :: es) [] pos) (eOpN f ms) :=
  ⟨fun W tk => pe_weak (pe_callTy hc hg hm hv (ha.run W tk) hn hdb he hpl) fun σ H Q h => tA_of h fun rho env hh H1 ds vs R E q p => rz_of z R q p⟩

/-! ### tuples, lists -/
def eTup (ms : MA) : ME := fun env h => (ms env h).bind fun xs h1 => .ok (.tup xs) h1
theorem Den.tup_new {G : Gm} {rho : Rm} {hh : Hh} {H : Hp} {ds : List D} {vs : List V} {p : Addr} {o : Obj} (ho : o.dict = none) (R : Rep G rho hh H) (q : Dens G rho H ds vs) (l : vs.length ≤ sizeLine) (hp : H p = none) : Den G rho (upd H p (.frz o (.tup vs))) (.tup ds) (.ref p) := by
  rw [Den]
  exact ⟨p, vs, rfl, .inl ⟨o, upd_same, ho⟩, l, Dens.step R (.laid hp) _ _ q⟩
/-- a pair that a walk hands out -/
theorem Den.wtp_new {G : Gm} {rho : Rm} {hh : Hh} {H : Hp} {ds : List D} {vs : List V} {p : Addr} (R : Rep G rho hh H) (q : Dens G rho H ds vs) (l : vs.length ≤ sizeLine) (hp : H p = none) : Den G rho (upd H p (.tup vs)) (.wtp ds) (.ref p) := by
  rw [Den]
  exact ⟨p, vs, rfl, SqT.of upd_same, l, Dens.step R (.laid hp) _ _ q⟩
/-- a new tuple, and what it is -/
abbrev NewT (H : Hp) (ys : List V) (Q : VK) : Prop := ∀ (p : Addr) (o : Obj), H p = none → o.dict = none → Q (.ref p) (upd H p (.frz o (.tup ys)))
theorem inv_newT {X : Cx} {pins : List (Addr × Obj)} {σ : L2.St} {H : Hp} {s : Shared} (I : Inv X pins σ H s) {ys : List V} {its : List Value} (r : Vals ys its) (hz : ys.length ≤ sizeLine) {Q : VK} (q : NewT H ys Q) :
    EP X pins σ Q (.ref s.heap.objs.size) { s with heap := s.heap.push { cls := .type "tuple", data := .seq its.toArray } } :=
  ⟨.ref s.heap.objs.size, _, I.laid (t' := s.toks) (o := .frz { cls := .type "tuple", data := .seq its.toArray } (.tup ys)) (fun b ob q => Heap.get?_push_of_some _ q) (Nat.le_refl _) ⟨Heap.get?_push_size _ rfl, hz, its, r, IsTup.new _ _⟩, rfl, q _ _ (I.hok.fresh (Nat.le_refl _)) rfl⟩
def tTupF (t : TA) : TE := fun σ H Q => t σ H fun xs H1 => xs.length ≤ sizeLine ∧ NewT H1 xs Q
theorem pe_tupF {X : Cx} {es : List Expr} {t : TA} {x1} {pos : Pos} (h : PA X es t) : PE X (.Tuple es x1 pos) (tTupF t) :=
  ⟨fun pins s σ H Q I hq => wpAny_Tuple_spliced (thn (h.run pos pins s σ H _ I hq) fun us s1 ⟨xs, H1, I1, r, z, q⟩ => ⟨by rw [← r.length]; exact z, inv_newT I1 r z q⟩)⟩
/-- so many arguments -/
structure DAn (X : Cx) (es : List Expr) (n : Nat) (m : MA) : Prop where
  da : DA X es m
  n : ∀ env h ds h', m env h = .ok ds h' → ds.length = n
theorem dan_nil : DAn X [] 0 aNil := ⟨da_nil, fun _ _ _ _ h => by cases h; rfl⟩
theorem dan_cons {n : Nat} (ha : DE X e m) (hr : DAn X es n ms) (hs : starEach (e :: es) X.env = (false, eval e X.env) :: starEach es X.env := by rfl) : DAn X (e :: es) (n + 1) (aCons m ms) := ⟨da_cons ha hr.da hs, fun env h ds h' q => by
  unfold aCons at q
  cases e : m env h with
  | ok d h1 =>
    rw [e, bind_ok] at q
    cases e2 : ms env h1 with
    | ok xs h2 =>
      rw [e2, bind_ok] at q
      cases q
      simp [hr.n _ _ _ _ e2]
    | err x h2 => rw [e2] at q; cases q
    | stuck => rw [e2] at q; cases q
  | err x h2 => rw [e] at q; cases q
  | stuck => rw [e] at q; cases q⟩
theorem de_tup {x1} {n : Nat} (h : DAn X es n ms) (hn : n ≤ sizeLine := by decide) : DE X (.Tuple es x1 pos) (eTup ms) :=
  ⟨fun W tk => pe_weak (pe_tupF (h.da.run W tk)) fun σ H Q hq => by
    obtain ⟨rho, env, hh, R, E, p⟩ := hq
    refine ⟨rho, env, hh, R, E, ?_⟩
    unfold eTup at p
    cases e : ms env hh with
    | ok ds hh1 =>
      rw [e, bind_ok] at p
      intro rho1 H1 vs S R1 q
      have hl : vs.length ≤ sizeLine := by rw [← q.length, h.n _ _ _ _ e]; exact hn
      exact ⟨hl, fun pp o hp ho => p rho1 _ _ (S.trans (.laid hp)) (R1.laid hp) (Den.tup_new ho R1 q hl hp)⟩
    | err x hh1 => rw [e] at p; exact p
    | stuck => rw [e] at p; exact p⟩
/-- a list that is laid anew, beside -/
theorem new_list {G : Gm} {rho rho' : Rm} {hh : Hh} {H H' : Hp} {ds : List D} {vs : List V} {p : Addr} (S : Step rho H rho' H') (R : Rep G rho' hh H') (q : Dens G rho' H' ds vs) (hp : H' p = none) :
    Step rho H (rho'.hold p) (upd H' p (.lst vs)) ∧ Rep G (rho'.hold p) hh (upd H' p (.lst vs)) ∧ p ∉ rho'.at_ ∧ Dens G (rho'.hold p) (upd H' p (.lst vs)) ds vs := by
  refine ⟨S.trans (.laidR hp), ?_, fun hm => ?_, Dens.step R (.laidR hp) _ _ q⟩
  · exact ⟨R.nd, fun a m => by
      rcases List.mem_cons.mp m with e | m
      · rw [e]; exact ⟨_, upd_same⟩
      · obtain ⟨o', e⟩ := R.hd a m
        exact ⟨o', by rw [upd_ne (ne_of_none e hp)]; exact e⟩, R.len, fun i a o' e1 e2 => (R.ob i a o' e1 e2).step R (.laidR hp) (fun u q => by rw [upd_ne (ne_of_none q hp)]; exact q) fun dx q => by rw [upd_ne (ne_of_none q hp)]; exact q⟩
  · obtain ⟨u, e, _⟩ := R.mut hm
    rw [hp] at e; cases e
/-- [a, b, ..]: a new list -/
theorem dl_lst {n : Nat} (h : DAn X es n ms) (hn : n ≤ sizeLine := by decide) : DL X (.List es pos) ms :=
  ⟨fun W tk => pe_weak (pe_lst (h.da.run W tk)) fun σ H Q hq => by
    obtain ⟨rho, env, hh, R, E, p⟩ := hq
    refine ⟨rho, env, hh, R, E, ?_⟩
    cases e : ms env hh with
    | ok ds hh1 =>
      rw [e] at p
      intro rho1 H1 vs S R1 q
      have hl : vs.length ≤ sizeLine := by rw [← q.length, h.n _ _ _ _ e]; exact hn
      refine ⟨hl, fun pp hp => ?_⟩
      obtain ⟨a, b, c, d⟩ := new_list S R1 q hp
      exact p _ _ pp vs a b upd_same List.mem_cons_self c (S.back hp) hl d
    | err x hh1 => rw [e] at p; exact p
    | stuck => rw [e] at p; exact p⟩
/-- a new list that never changes -/
def eFrz (ms : MA) : ME := fun env h => (ms env h).bind fun xs h1 => .ok (.lst xs) h1
theorem frz_of {G : Gm} {W : WX} {σ : L2.St} {H : Hp} {Q : VK} (hq : TD G W (eFrz ms) σ H Q) : TDl G W ms σ H Q := by
  obtain ⟨rho, env, hh, R, E, p⟩ := hq
  refine ⟨rho, env, hh, R, E, ?_⟩
  unfold eFrz at p
  cases e : ms env hh with
  | ok ds hh1 =>
    rw [e, bind_ok] at p
    intro rho1 H1 pp vs S R1 hp hr ha hn hl q
    -- all that was set apart but pp, and is still so
    have R2 := R1.free (res := rho1.res.filter (fun a => decide (a ≠ pp))) (fun a h => (List.mem_filter.mp h).1)
    refine p ⟨rho1.at_, rho1.res.filter (fun a => decide (a ≠ pp))⟩ H1 _ ⟨S.ext, fun a h => S.new a (List.mem_filter.mp h).1, fun a h => List.mem_filter.mpr ⟨S.kept a h, by
      obtain ⟨o', e⟩ := R.hd a h
      exact decide_eq_true (ne_of_none e hn)⟩, S.keep, S.there⟩ R2 ?_
    rw [Den]
    refine ⟨pp, vs, rfl, hp, ha, fun hm => by simp at hm, hl, ?_⟩
    exact Dens.res (rho' := rho1) ⟨[], by simp⟩ (fun a _ n hm => n (List.mem_filter.mp hm).1) _ _ q (show bels rho1.at_.length ds = true from Dens.bel _ _ q)
  | err x hh1 => rw [e] at p; exact p
  | stuck => rw [e] at p; exact p
theorem de_frz (h : DL X e ms) : DE X e (eFrz ms) := ⟨fun W tk => pe_weak (h.run W tk) fun σ H Q hq => frz_of hq⟩
/-- a new list that may change -/
def eNew (ms : MA) : ME := fun env h => (ms env h).bind fun xs h1 => .ok (.ref h1.length) (h1 ++ [.lst xs])
mutual
theorem den_turn {G : Gm} {rho rho' : Rm} {H : Hp} (h1 : ∀ (i : Nat) a, rho.at_[i]? = some a → rho'.at_[i]? = some a) (h2 : ∀ a, a ∉ rho.at_ → a ∉ rho.res → a ∉ rho'.at_ ∧ a ∉ rho'.res) : ∀ (d : D) (v : V), Den G rho H d v → Den G rho' H d v
  | .non, _, h => h
  | .bl _, _, h => h
  | .int _, _, h => h
  | .str _, _, h => h
  | .tup ds, v, h => by
    rw [Den] at h ⊢
    obtain ⟨a, vs, e, q, l, ds'⟩ := h
    exact ⟨a, vs, e, q, l, dens_turn h1 h2 ds vs ds'⟩
  | .wtp ds, v, h => by
    rw [Den] at h ⊢
    obtain ⟨a, vs, e, q, l, ds'⟩ := h
    exact ⟨a, vs, e, q, l, dens_turn h1 h2 ds vs ds'⟩
  | .lst ds, v, h => by
    rw [Den] at h ⊢
    obtain ⟨a, vs, e, q, n, n2, l, ds'⟩ := h
    exact ⟨a, vs, e, q, (h2 a n n2).1, (h2 a n n2).2, l, dens_turn h1 h2 ds vs ds'⟩
  | .ref i, v, h => by
    rw [Den] at h ⊢
    obtain ⟨a, e, q⟩ := h
    exact ⟨a, h1 i a e, q⟩
  | .glb _, _, h => h
  | .scr _, _, h => h
theorem dens_turn {G : Gm} {rho rho' : Rm} {H : Hp} (h1 : ∀ (i : Nat) a, rho.at_[i]? = some a → rho'.at_[i]? = some a) (h2 : ∀ a, a ∉ rho.at_ → a ∉ rho.res → a ∉ rho'.at_ ∧ a ∉ rho'.res) : ∀ (ds : List D) (vs : List V), Dens G rho H ds vs → Dens G rho' H ds vs
  | [], _, h => h
  | d :: ds, vs, h => by
    rw [Dens] at h ⊢
    obtain ⟨v, r, e, a, b⟩ := h
    exact ⟨v, r, e, den_turn h1 h2 d v a, dens_turn h1 h2 ds r b⟩
end
theorem obd_turn {G : Gm} {rho rho' : Rm} {H : Hp} (h1 : ∀ (i : Nat) a, rho.at_[i]? = some a → rho'.at_[i]? = some a) (h2 : ∀ a, a ∉ rho.at_ → a ∉ rho.res → a ∉ rho'.at_ ∧ a ∉ rho'.res) {a : Addr} {o : O} (x : ObD G rho H a o) : ObD G rho' H a o := by
  cases o with
  | lst ds => obtain ⟨vs, e, l, q⟩ := x; exact ⟨vs, e, l, dens_turn h1 h2 ds vs q⟩
  | dK kvs => obtain ⟨vs, e, l, q⟩ := x; exact ⟨vs, e, l, Paired.mapP q fun p q r => ⟨r.1, den_turn h1 h2 _ _ r.2⟩⟩
  | dN kvs =>
    obtain ⟨xs, l0, l1, es, e, q, r⟩ := x
    exact ⟨xs, l0, l1, es, e, Paired.mapP q fun p q r => ⟨r.1, den_turn h1 h2 _ _ r.2.1, let ⟨v, a, b⟩ := r.2.2; ⟨v, a, den_turn h1 h2 _ _ b⟩⟩, r⟩
  | ins C fs => obtain ⟨c, dx, fvs, g, e, o, q⟩ := x; exact ⟨c, dx, fvs, g, e, o, Paired.mapP q fun p q r => ⟨r.1, den_turn h1 h2 _ _ r.2⟩⟩
/-- what is set apart becomes one that may change -/
theorem Rep.turn {G : Gm} {rho : Rm} {H : Hp} {hh : Hh} {p : Addr} {ob : O} (R : Rep G rho hh H) (hr : p ∈ rho.res) (ha : p ∉ rho.at_) (new : ObD G rho H p ob) : Rep G (rho.add p) (hh ++ [ob]) H := by
  have h1 : ∀ (i : Nat) a, rho.at_[i]? = some a → (rho.add p).at_[i]? = some a := fun i a e => by
    show (rho.at_ ++ [p])[i]? = some a
    rw [List.getElem?_append_left (List.getElem?_eq_some_iff.mp e).1]; exact e
  have h2 : ∀ a, a ∉ rho.at_ → a ∉ rho.res → a ∉ (rho.add p).at_ ∧ a ∉ (rho.add p).res := fun a n n2 => ⟨fun hm => by
    rcases List.mem_append.mp (show a ∈ rho.at_ ++ [p] from hm) with h | h
    · exact n h
    · simp at h; subst h; exact n2 hr, n2⟩
  refine ⟨?_, R.hd, by simp [Rm.add, R.len], fun i a o' e1 e2 => ?_⟩
  · show (rho.at_ ++ [p]).Nodup
    rw [List.nodup_append]
    exact ⟨R.nd, by simp, fun x hx y hy e => ha (by simp at hy; subst hy; exact e ▸ hx)⟩
  · have e1 : (rho.at_ ++ [p])[i]? = some a := e1
    by_cases hi : i < rho.at_.length
    · rw [List.getElem?_append_left hi] at e1
      rw [List.getElem?_append_left (by rw [← R.len]; exact hi)] at e2
      exact obd_turn h1 h2 (R.ob i a o' e1 e2)
    · have hl : i < (rho.at_ ++ [p]).length := (List.getElem?_eq_some_iff.mp e1).1
      have e : i = rho.at_.length := by simp at hl; omega
      subst e
      rw [List.getElem?_append_right (Nat.le_refl _)] at e1
      rw [R.len, List.getElem?_append_right (Nat.le_refl _)] at e2
      simp at e1 e2
      subst e1; subst e2
      exact obd_turn h1 h2 new
theorem Step.turn {rho rho' : Rm} {H H' : Hp} {p : Addr} (S : Step rho H rho' H') (h : H p = none) : Step rho H (rho'.add p) H' := by
  obtain ⟨e, ee, he⟩ := S.ext
  refine ⟨⟨e ++ [p], by show rho'.at_ ++ [p] = _; rw [ee, List.append_assoc], fun a hm => ?_⟩, S.new, S.kept, S.keep, S.there⟩
  rcases List.mem_append.mp hm with h1 | h1
  · exact he a h1
  · simp at h1; subst h1; exact h
theorem new_of {G : Gm} {W : WX} {σ : L2.St} {H : Hp} {Q : VK} (hq : TD G W (eNew ms) σ H Q) : TDl G W ms σ H Q := by
  obtain ⟨rho, env, hh, R, E, p⟩ := hq
  refine ⟨rho, env, hh, R, E, ?_⟩
  unfold eNew at p
  cases e : ms env hh with
  | ok ds hh1 =>
    rw [e, bind_ok] at p
    intro rho1 H1 pp vs S R1 hp hr ha hn hl q
    refine p _ _ _ (S.turn hn) (R1.turn hr ha ⟨vs, hp, hl, q⟩) ?_
    rw [Den]
    exact ⟨pp, by rw [← R1.len]; show (rho1.at_ ++ [pp])[_]? = _; rw [List.getElem?_append_right (Nat.le_refl _)]; simp, rfl⟩
  | err x hh1 => rw [e] at p; exact p
  | stuck => rw [e] at p; exact p
theorem de_new (h : DL X e ms) : DE X e (eNew ms) := ⟨fun W tk => pe_weak (h.run W tk) fun σ H Q hq => new_of hq⟩
end
end MR

/-! F3: tests, truth values, statements, defs. -/
namespace MR
open PySem PySem.Spec PyProof.Rows L2

/-! ### tests -/
def asB (d : D) : Option Bool := match d with | .bl b => some b | _ => none
theorem asB_some {d : D} {b : Bool} (h : asB d = some b) : d = .bl b := by
  cases d <;> simp [asB] at h
  subst h; rfl
def tE (m : ME) : MT := fun env h => (m env h).bind fun d h1 => lift (asB d) h1
def tAnd (a b : MT) : MT := fun env h => (a env h).bind fun k h1 => if k = true then b env h1 else .ok false h1
def tOr (a b : MT) : MT := fun env h => (a env h).bind fun k h1 => if k = true then .ok true h1 else b env h1
def tNot (a : MT) : MT := fun env h => (a env h).bind fun k h1 => .ok (!k) h1
def eAnd (a b : ME) : ME := fun env h => (a env h).bind fun d h1 => (lift (asB d) h1).bind fun k h2 => if k = true then b env h2 else .ok (.bl false) h2
def eOr (a b : ME) : ME := fun env h => (a env h).bind fun d h1 => (lift (asB d) h1).bind fun k h2 => if k = true then .ok (.bl true) h2 else b env h2
def eNot (a : ME) : ME := fun env h => (a env h).bind fun d h1 => (lift (asB d) h1).bind fun k h2 => .ok (.bl (!k)) h2
def eIf (t : MT) (a b : ME) : ME := fun env h => (t env h).bind fun k h1 => if k = true then a env h1 else b env h1
section
variable {X : Cx} {e a b : Expr} {m ma mb : ME} {ta tb : MT} {pos : Pos} {rest : List Expr}
theorem tB_of {G : Gm} {W : WX} {σ : L2.St} {H : Hp} {Q : Bool → Hp → Prop} (h : TDt G W (tE m) σ H Q) : TD G W m σ H fun x H1 => ∃ c, x = .bl c ∧ Q c H1 :=
  tE_of (Rl := fun _ _ a b => a = b) h fun rho env hh H1 d v R E q p => by
    obtain ⟨k, e, p⟩ := lift_post p
    have e := asB_some e
    subst e
    exact ⟨k, q, p.val R rfl⟩
theorem dt_val (h : DE X e m) (he : ∀ whole, isTrue e X.env whole = (do let v ← whole; standAt e.pos; holding [v] (truthy v)) := by intro _; rfl) : DT X e (tE m) :=
  ⟨fun W tk => pt_weak (pt_val (h.run W tk) he) fun σ H Q h => tB_of h⟩
theorem tTest_of {G : Gm} {W : WX} {r : R2} {f : Op2} {σ : L2.St} {H : Hp} {Q : Bool → Hp → Prop} (z : Rz2 G r f) (h : TDt G W (tE (eOp2 f ma mb)) σ H Q) : tTest (tOp r (TD G W ma) (TD G W mb)) σ H Q :=
  tOp_of (Q := fun x H' => ∃ k, x = .bl k ∧ Q k H') z (tB_of h)
theorem dt_cmp {op : CmpOp} {r : R2} {f : Op2} (ho : OpR X (compareOp op) r) (z : Rz2 (Cx.gm X) r f) (ha : DE X a ma) (hb : DE X b mb) (hm : behindInMarks op b = false) : DT X (.Compare a [op] [b] pos) (tE (eOp2 f ma mb)) :=
  ⟨fun W tk => pt_weak (pt_cmpR ho (ha.run W tk) (hb.run W tk) hm) fun σ H Q h => tTest_of z h⟩
theorem tSeq_of {α β : Type} {G : Gm} {W : WX} {m : MT} {Rl : Rm → Hp → α → β → Prop} {f : DEnv → Bool → Hh → Res α} {σ : L2.St} {H : Hp} {Q : β → Hp → Prop} {k : Bool → Hp → Prop}
    (h : At G W σ H Rl Q fun env hh => (m env hh).bind (f env)) (hk : ∀ b H1, At G W σ H1 Rl Q (fun env hh => f env b hh) → k b H1) : TDt G W m σ H k := by
  obtain ⟨rho, env, hh, R, E, p⟩ := At.seqT h
  refine ⟨rho, env, hh, R, E, ?_⟩
  cases e : m env hh with
  | ok d hh1 =>
    rw [e] at p
    intro rho1 H1 v S R1 q
    exact hk _ _ (p rho1 H1 v S R1 q)
  | err x hh1 => rw [e] at p; exact p
  | stuck => rw [e] at p; exact p
theorem dt_not (h : DT X a ta) : DT X (.UnaryOp .Not a pos) (tNot ta) :=
  ⟨fun W tk => pt_weak (pt_not (h.run W tk)) fun σ H Q h => tSeq_of h fun k H1 ⟨rho, env, hh, R, E, p⟩ => p.val R rfl⟩
theorem dw_and1 (h : DT X a ta) : DW X (.BoolOp .And [a] pos) ta := ⟨fun W tk => pw_and1 (h.run W tk)⟩
theorem dw_or1 (h : DT X a ta) : DW X (.BoolOp .Or [a] pos) ta := ⟨fun W tk => pw_or1 (h.run W tk)⟩
theorem dw_and (h : DT X a ta) (hb : DW X (.BoolOp .And (b :: rest) pos) tb) : DW X (.BoolOp .And (a :: b :: rest) pos) (tAnd ta tb) :=
  ⟨fun W tk => pw_weak (pw_and (h.run W tk) (hb.run W tk)) fun σ H Q h => tSeq_of h fun k H1 q => by
    cases k with
    | true => exact q
    | false =>
      obtain ⟨rho, env, hh, R, E, p⟩ := q
      exact p.val R rfl⟩
theorem dw_or (h : DT X a ta) (hb : DW X (.BoolOp .Or (b :: rest) pos) tb) : DW X (.BoolOp .Or (a :: b :: rest) pos) (tOr ta tb) :=
  ⟨fun W tk => pw_weak (pw_or (h.run W tk) (hb.run W tk)) fun σ H Q h => tSeq_of h fun k H1 q => by
    cases k with
    | true =>
      obtain ⟨rho, env, hh, R, E, p⟩ := q
      exact p.val R rfl
    | false => exact q⟩
theorem dt_w (h : DW X a ta) : DT X a ta := ⟨fun W tk => PW.pt (h.run W tk)⟩
theorem de_one {op} (h : DE X a ma) : DE X (.BoolOp op [a] pos) ma := ⟨fun W tk => pe_one (h.run W tk)⟩
theorem de_and (ha : DE X a ma) (hb : DE X (.BoolOp .And (b :: rest) pos) mb) : DE X (.BoolOp .And (a :: b :: rest) pos) (eAnd ma mb) :=
  ⟨fun W tk => pe_weak (pe_and (ha.run W tk) (hb.run W tk)) fun σ H Q h => tE_of h fun rho env hh H1 d v R E q p => by
    cases o : asB d with
    | none => rw [o] at p; exact p.elim
    | some k =>
      rw [o] at p
      have e := asB_some o
      subst e
      refine ⟨k, q, ?_⟩
      cases k with
      | true => exact ⟨rho, env, hh, R, E, p⟩
      | false => exact PostE.val (a := D.bl false) (b := V.bl false) (Rl := Den _) p R rfl⟩
theorem de_or (ha : DE X a ma) (hb : DE X (.BoolOp .Or (b :: rest) pos) mb) : DE X (.BoolOp .Or (a :: b :: rest) pos) (eOr ma mb) :=
  ⟨fun W tk => pe_weak (pe_or (ha.run W tk) (hb.run W tk)) fun σ H Q h => tE_of h fun rho env hh H1 d v R E q p => by
    cases o : asB d with
    | none => rw [o] at p; exact p.elim
    | some k =>
      rw [o] at p
      have e := asB_some o
      subst e
      refine ⟨k, q, ?_⟩
      cases k with
      | true => exact PostE.val (a := D.bl true) (b := V.bl true) (Rl := Den _) p R rfl
      | false => exact ⟨rho, env, hh, R, E, p⟩⟩
theorem de_not (ha : DE X a ma) : DE X (.UnaryOp .Not a pos) (eNot ma) :=
  ⟨fun W tk => pe_weak (pe_not (ha.run W tk)) fun σ H Q h => tE_of h fun rho env hh H1 d v R E q p => by
    cases o : asB d with
    | none => rw [o] at p; exact p.elim
    | some k =>
      rw [o] at p
      have e := asB_some o
      subst e
      exact ⟨k, q, PostE.val (a := D.bl (!k)) (b := V.bl (!k)) (Rl := Den _) p R rfl⟩⟩
theorem de_if {c : Expr} {tc : MT} (hc : DT X c tc) (ha : DE X a ma) (hb : DE X b mb) : DE X (.IfExp c a b pos) (eIf tc ma mb) :=
  ⟨fun W tk => pe_weak (pe_ifExp (hc.run W tk) (ha.run W tk) (hb.run W tk)) fun σ H Q h => tSeq_of h fun k H1 q => by
    cases k with
    | true => exact q
    | false => exact q⟩
end

/-! ### statements -/
inductive RS where
  | nx (env : DEnv) (h : Hh)
  | rt (d : D) (h : Hh)
  | bk (env : DEnv) (h : Hh)
  | ct (env : DEnv) (h : Hh)
  | er (x : Exn) (env : DEnv) (h : Hh)
  | stuck
abbrev MS := DEnv → Hh → RS
def PostS (G : Gm) (W : WX) (D : Ends) (rho : Rm) (H : Hp) (r : RS) : Prop :=
  match r with
  | .nx env hh => ∀ rho' H' σ', Step rho H rho' H' → Rep G rho' hh H' → EnvD G rho' H' env σ' → D.nx σ' H'
  | .rt d hh => ∀ rho' H' v, Step rho H rho' H' → Rep G rho' hh H' → Den G rho' H' d v → D.rt v H'
  | .bk env hh => ∀ rho' H' σ', Step rho H rho' H' → Rep G rho' hh H' → EnvD G rho' H' env σ' → D.bk σ' H'
  | .ct env hh => ∀ rho' H' σ', Step rho H rho' H' → Rep G rho' hh H' → EnvD G rho' H' env σ' → D.ct σ' H'
  | .er x env hh => ∀ rho' H' σ' c d, Step rho H rho' H' → Rep G rho' hh H' → EnvD G rho' H' env σ' → ExD G rho' H' x c d → W c d σ' H'
  | .stuck => False
theorem PostS.start {G : Gm} {W : WX} {D : Ends} {rho rho' : Rm} {H H' : Hp} {r : RS} (h : PostS G W D rho H r) (S : Step rho H rho' H') : PostS G W D rho' H' r := by
  cases r with
  | nx env hh => exact fun rho2 H2 σ S2 R2 q => h rho2 H2 σ (S.trans S2) R2 q
  | rt d hh => exact fun rho2 H2 σ S2 R2 q => h rho2 H2 σ (S.trans S2) R2 q
  | bk env hh => exact fun rho2 H2 σ S2 R2 q => h rho2 H2 σ (S.trans S2) R2 q
  | ct env hh => exact fun rho2 H2 σ S2 R2 q => h rho2 H2 σ (S.trans S2) R2 q
  | er x env hh => exact fun rho2 H2 σ c d S2 R2 q => h rho2 H2 σ c d (S.trans S2) R2 q
  | stuck => exact h
def TDs (G : Gm) (W : WX) (m : MS) : TS := fun D σ H => ∃ rho env hh, Rep G rho hh H ∧ EnvD G rho H env σ ∧ PostS G W D rho H (m env hh)
structure DS (X : Cx) (st : Stmt) (m : MS) : Prop where
  run : ∀ W, Takes X W → PS X st (TDs (Cx.gm X) W m)
structure DSs (X : Cx) (st : List Stmt) (m : MS) : Prop where
  run : ∀ W, Takes X W → PSs X st (TDs (Cx.gm X) W m)
theorem ps_weak {X : Cx} {st : Stmt} {t t' : TS} (h : PS X st t) (i : ∀ D σ H, t' D σ H → t D σ H) : PS X st t' := ⟨fun pins s σ H D I q => h.run pins s σ H D I (i D σ H q)⟩
theorem pss_weak {X : Cx} {st : List Stmt} {t t' : TS} (h : PSs X st t) (i : ∀ D σ H, t' D σ H → t D σ H) : PSs X st t' := ⟨fun pins s σ H D I q => h.run pins s σ H D I (i D σ H q)⟩

def RS.seq (r : RS) (f : DEnv → Hh → RS) : RS := match r with | .nx env h => f env h | r => r
def sSeq (a b : MS) : MS := fun env h => (a env h).seq b
def sNext : MS := fun env h => .nx env h
/-- an expression's result, then a statement -/
def Res.st {α : Type} (r : Res α) (env : DEnv) (f : α → Hh → RS) : RS := match r with
  | .ok a h => f a h
  | .err x h => .er x env h
  | .stuck => .stuck
theorem st_ok {α : Type} (a : α) (h : Hh) (env : DEnv) (f : α → Hh → RS) : (Res.ok a h).st env f = f a h := rfl
def sDrop (m : ME) : MS := fun env h => (m env h).st env fun _ h1 => .nx env h1
def sRet (m : ME) : MS := fun env h => (m env h).st env fun d h1 => .rt d h1
def sRetN : MS := fun _ h => .rt .non h
def sIf (t : MT) (a b : MS) : MS := fun env h => (t env h).st env fun k h1 => if k = true then a env h1 else b env h1
def sBreak : MS := fun env h => .bk env h
def sCont : MS := fun env h => .ct env h
def sNever : MS := fun _ _ => .stuck
section
variable {X : Cx} {st : Stmt} {rest : List Stmt} {e : Expr} {m : ME} {t : MT} {ms ms' : MS} {pos : Pos} {G : Gm} {W : WX} {D : Ends} {σ : L2.St} {H : Hp}
theorem ss_nil : DSs X [] sNext := ⟨fun W _ => pss_weak pss_nil fun D σ H ⟨rho, env, hh, R, E, p⟩ => p rho H σ .refl R E⟩
theorem seq_post {rho : Rm} {r : RS} {f : DEnv → Hh → RS} (p : PostS G W D rho H (r.seq f)) : PostS G W { D with nx := TDs G W f D } rho H r := by
  cases r with
  | nx env hh => exact fun rho' H' σ' S R E => ⟨rho', env, hh, R, E, PostS.start (r := f env hh) p S⟩
  | rt d hh => exact p
  | bk env hh => exact p
  | ct env hh => exact p
  | er x env hh => exact p
  | stuck => exact p
theorem ss_cons (h1 : DS X st ms) (h2 : DSs X rest ms') : DSs X (st :: rest) (sSeq ms ms') :=
  ⟨fun W tk => pss_weak (pss_cons (h1.run W tk) (h2.run W tk)) fun D σ H ⟨rho, env, hh, R, E, p⟩ => ⟨rho, env, hh, R, E, seq_post p⟩⟩
theorem ss_one (h1 : DS X st ms) : DSs X [st] ms := ⟨fun W tk => pss_one (h1.run W tk)⟩
theorem ds_pass : DS X (.Pass pos) sNext := ⟨fun W _ => ps_weak ps_pass fun D σ H ⟨rho, env, hh, R, E, p⟩ => p rho H σ .refl R E⟩
theorem ds_break : DS X (.Break pos) sBreak := ⟨fun W _ => ps_weak ps_break fun D σ H ⟨rho, env, hh, R, E, p⟩ => p rho H σ .refl R E⟩
theorem ds_continue : DS X (.Continue pos) sCont := ⟨fun W _ => ps_weak ps_continue fun D σ H ⟨rho, env, hh, R, E, p⟩ => p rho H σ .refl R E⟩
theorem ds_never : DS X st sNever := ⟨fun W _ => ps_weak ps_never fun D σ H ⟨rho, env, hh, R, E, p⟩ => p.elim⟩
theorem ss_never {sts : List Stmt} : DSs X sts sNever := ⟨fun W _ => pss_weak pss_never fun D σ H ⟨rho, env, hh, R, E, p⟩ => p.elim⟩
theorem de_never {e : Expr} : DE X e (fun _ _ => .stuck) := ⟨fun W _ => ⟨fun pins s σ H Q I ⟨rho, env, hh, R, E, p⟩ => p.elim⟩⟩
theorem dt_never {e : Expr} : DT X e (fun _ _ => .stuck) := ⟨fun W _ => ⟨fun pins s σ H Q I ⟨rho, env, hh, R, E, p⟩ => p.elim⟩⟩
/-- the reading of an expression, then of a statement -/
theorem st_of {f : DEnv → MR.D → Hh → RS} {k : V → Hp → Prop} (h : TDs G W (fun env hh => (m env hh).st env (f env)) D σ H)
    (hk : ∀ rho env hh H1 d v, Rep G rho hh H1 → EnvD G rho H1 env σ → Den G rho H1 d v → PostS G W D rho H1 (f env d hh) → k v H1) : TD G W m σ H k := by
  obtain ⟨rho, env, hh, R, E, p⟩ := h
  refine ⟨rho, env, hh, R, E, ?_⟩
  have p : PostS G W D rho H ((m env hh).st env (f env)) := p
  cases e : m env hh with
  | ok d hh1 =>
    rw [e] at p
    exact fun rho1 H1 v S R1 q => hk rho1 env hh1 H1 d v R1 (E.step R S) q (PostS.start (r := f env d hh1) p S)
  | err x hh1 =>
    rw [e] at p
    exact fun rho1 H1 c d S R1 q => p rho1 H1 σ c d S R1 (E.step R S) q
  | stuck => rw [e] at p; exact p
theorem stT_of {f : DEnv → Bool → Hh → RS} {k : Bool → Hp → Prop} (h : TDs G W (fun env hh => (t env hh).st env (f env)) D σ H)
    (hk : ∀ b H1, TDs G W (fun env hh => f env b hh) D σ H1 → k b H1) : TDt G W t σ H k := by
  obtain ⟨rho, env, hh, R, E, p⟩ := h
  refine ⟨rho, env, hh, R, E, ?_⟩
  have p : PostS G W D rho H ((t env hh).st env (f env)) := p
  cases e : t env hh with
  | ok d hh1 =>
    rw [e] at p
    exact fun rho1 H1 v S R1 q => by
      subst q
      exact hk d H1 ⟨rho1, env, hh1, R1, E.step R S, PostS.start (r := f env d hh1) p S⟩
  | err x hh1 =>
    rw [e] at p
    exact fun rho1 H1 c d S R1 q => p rho1 H1 σ c d S R1 (E.step R S) q
  | stuck => rw [e] at p; exact p
theorem ds_expr (h : DE X e m) (hs : swapsWith e none pos.line X.env = pure false := by rfl) : DS X (.Expr e pos) (sDrop m) :=
  ⟨fun W tk => ps_weak (ps_expr (h.run W tk) hs) fun D σ H q => st_of q fun rho env hh H1 d v R E q p => p rho H1 σ .refl R E⟩
theorem ds_ret (h : DE X e m) : DS X (.Return (some e) pos) (sRet m) :=
  ⟨fun W tk => ps_weak (ps_ret (h.run W tk)) fun D σ H q => st_of q fun rho env hh H1 d v R E q p => p rho H1 v .refl R q⟩
theorem ds_retN : DS X (.Return none pos) sRetN := ⟨fun W tk => ps_weak ps_retN fun D σ H ⟨rho, env, hh, R, E, p⟩ => p rho H .non .refl R rfl⟩
theorem ds_if {c : Expr} {a b : List Stmt} {ma mb : MS} (hc : DT X c t) (ha : DSs X a ma) (hb : DSs X b mb) : DS X (.If c a b pos) (sIf t ma mb) :=
  ⟨fun W tk => ps_weak (ps_if (hc.run W tk) (ha.run W tk) (hb.run W tk)) fun D σ H q => stT_of q fun b H1 h => by
    cases b with
    | true => exact h
    | false => exact h⟩
end

/-! ### targets -/
abbrev MG := D → DEnv → Hh → Option (DEnv × Hh)
abbrev MGs := List D → DEnv → Hh → Option (DEnv × Hh)
def PostG (G : Gm) (rho : Rm) (H : Hp) (r : Option (DEnv × Hh)) (Q : L2.St → Hp → Prop) : Prop :=
  match r with
  | some (env, hh) => ∀ rho' H' σ', Step rho H rho' H' → Rep G rho' hh H' → EnvD G rho' H' env σ' → Q σ' H'
  | none => False
theorem PostG.start {G : Gm} {rho rho' : Rm} {H H' : Hp} {r : Option (DEnv × Hh)} {Q : L2.St → Hp → Prop} (h : PostG G rho H r Q) (S : Step rho H rho' H') : PostG G rho' H' r Q := by
  cases r with
  | none => exact h
  | some p => exact fun rho2 H2 σ S2 R2 q => h rho2 H2 σ (S.trans S2) R2 q
def TDg (G : Gm) (m : MG) : TG := fun v σ H Q => ∃ rho env hh d, Rep G rho hh H ∧ EnvD G rho H env σ ∧ Den G rho H d v ∧ PostG G rho H (m d env hh) Q
def TDgs (G : Gm) (m : MGs) : TGs := fun vs σ H Q => ∃ rho env hh ds, Rep G rho hh H ∧ EnvD G rho H env σ ∧ Dens G rho H ds vs ∧ PostG G rho H (m ds env hh) Q
structure DG (X : Cx) (tg : Expr) (m : MG) : Prop where
  run : PG X tg (TDg (Cx.gm X) m)
structure DGs (X : Cx) (tgs : List Expr) (m : MGs) : Prop where
  run : PGs X tgs (TDgs (Cx.gm X) m)
theorem pg_weak {X : Cx} {e : Expr} {t t' : TG} (h : PG X e t) (i : ∀ v σ H Q, t' v σ H Q → t v σ H Q) : PG X e t' := ⟨fun pins s σ H v u Q I r q => h.run pins s σ H v u Q I r (i v σ H Q q)⟩
theorem pgs_weak {X : Cx} {e : List Expr} {t t' : TGs} (h : PGs X e t) (i : ∀ v σ H Q, t' v σ H Q → t v σ H Q) : PGs X e t' := ⟨fun pins s σ H v u Q I r q => h.run pins s σ H v u Q I r (i v σ H Q q)⟩
def gName (i : Nat) : MG := fun d env h => some (env.set i (some d), h)
def gNil : MGs := fun ds env h => match ds with | [] => some (env, h) | _ :: _ => none
def gCons (g : MG) (gs : MGs) : MGs := fun ds env h => match ds with
  | [] => none
  | d :: r => match g d env h with
    | some (env', h') => gs r env' h'
    | none => none
def gTup (n : Nat) (gs : MGs) : MG := fun d env h => match d with
  | .tup ds => if ds.length = n then gs ds env h else none
  | _ => none
theorem EnvD.set {G : Gm} {rho : Rm} {H : Hp} {env : DEnv} {σ : L2.St} {i : Nat} {d : D} {v : V} (E : EnvD G rho H env σ) (q : Den G rho H d v) : EnvD G rho H (env.set i (some d)) (σ.set i (some v)) := by
  refine ⟨by simp [E.1], fun j d' e => ?_⟩
  by_cases hj : i = j
  · subst hj
    have hl : i < env.length := by
      have := (List.getElem?_eq_some_iff.mp e).1
      simpa using this
    rw [List.getElem?_set_self hl] at e
    cases e
    exact ⟨v, List.getElem?_set_self (by rw [← E.1]; exact hl), q⟩
  · rw [List.getElem?_set_ne hj] at e
    obtain ⟨w, e1, e2⟩ := E.2 j d' e
    exact ⟨w, by rw [List.getElem?_set_ne hj]; exact e1, e2⟩
section
variable {X : Cx} {pos : Pos}
theorem dg_name {i : Nat} {x : Str} (hN : X.N.Nodup) (hi : X.N[i]? = some x := by rfl) (hx : Loc X.env.scope x := by first | exact Or.inl rfl | exact Or.inr rfl) (hf : X.fn x = true ∨ X.env.scope.names.lookup x = some .local := by first | exact .inl rfl | exact .inr rfl) : DG X (.Name x pos) (gName i) :=
  ⟨pg_weak (pg_name hN hi hx hf) fun v σ H Q ⟨rho, env, hh, d, R, E, q, p⟩ => p rho H _ .refl R (E.set q)⟩
theorem dgs_nil : DGs X [] gNil := ⟨pgs_weak pgs_nil fun vs σ H Q ⟨rho, env, hh, ds, R, E, q, p⟩ => by
  cases ds with
  | nil => exact ⟨q, p rho H σ .refl R E⟩
  | cons d r => exact p.elim⟩
theorem dgs_cons {e : Expr} {es : List Expr} {g : MG} {gs : MGs} (h1 : DG X e g) (h2 : DGs X es gs)
    (hs : (assignEach (e :: es) X.env).map (·.2) = assign e X.env :: (assignEach es X.env).map (·.2) := by rfl) : DGs X (e :: es) (gCons g gs) :=
  ⟨pgs_weak (pgs_cons h1.run h2.run hs) fun vs σ H Q ⟨rho, env, hh, ds, R, E, q, p⟩ => by
    cases ds with
    | nil => exact p.elim
    | cons d r =>
      rw [Dens] at q
      obtain ⟨v, vr, e1, q1, q2⟩ := q
      refine ⟨v, vr, e1, rho, env, hh, d, R, E, q1, ?_⟩
      have p : PostG _ rho H (match g d env hh with
        | some (env', h') => gs r env' h'
        | none => none) Q := p
      cases e : g d env hh with
      | none => rw [e] at p; exact p.elim
      | some z =>
        obtain ⟨env', hh'⟩ := z
        rw [e] at p
        exact fun rho' H' σ' S R' E' => ⟨rho', env', hh', r, R', E', Dens.step R S _ _ q2, p.start S⟩⟩
theorem dg_tup {es : List Expr} {k : Nat} {gs : MGs} {n : Nat} (hc : X.calm = true) (h : DGs X es gs)
    (hn : (assignEach es X.env).length = n := by rfl) (hst : (assignEach es X.env).findIdx? (·.1) = none := by rfl) : DG X (.Tuple es k pos) (gTup n gs) :=
  ⟨pg_weak (pg_tup hc h.run hn hst) fun v σ H Q ⟨rho, env, hh, d, R, E, q, p⟩ => by
    cases d with
    | tup ds =>
      have p : PostG _ rho H (if ds.length = n then gs ds env hh else none) Q := p
      split at p
      · rename_i hl
        rw [Den] at q
        obtain ⟨a, vs, e1, hq, l, ds'⟩ := q
        exact ⟨a, vs, e1, hq.t, by rw [← ds'.length]; exact hl, rho, env, hh, ds, R, E, ds', p⟩
      · exact p.elim
    | wtp ds => exact p.elim
    | non => exact p.elim
    | bl b => exact p.elim
    | int i => exact p.elim
    | str x => exact p.elim
    | lst xs => exact p.elim
    | ref i => exact p.elim
    | scr i => exact p.elim
    | glb u => exact p.elim⟩
def RSof (r : Option (DEnv × Hh)) : RS := match r with | some (env, h) => .nx env h | none => .stuck
def sAsg (m : ME) (g : MG) : MS := fun env h => (m env h).st env fun d h1 => RSof (g d env h1)
theorem postG_of {G : Gm} {W : WX} {D : Ends} {rho : Rm} {H : Hp} {r : Option (DEnv × Hh)} (p : PostS G W D rho H (RSof r)) : PostG G rho H r D.nx := by
  cases r with
  | none => exact p
  | some z => exact p
theorem ds_asg {tg e : Expr} {m : ME} {g : MG} (he : DE X e m) (hg : DG X tg g) (hs : swapsWithSole [tg] e pos.line X.env = pure false := by rfl) (hw : swappedStores [tg] e X.env = pure none := by rfl)
    (h1 : (assignEach [tg] X.env).map (·.2) = [assign tg X.env] := by rfl) : DS X (.Assign [tg] e pos) (sAsg m g) :=
  ⟨fun W tk => ps_weak (ps_asg (he.run W tk) hg.run hs hw h1) fun D σ H q => st_of q fun rho env hh H1 d v R E q p => ⟨rho, env, hh, d, R, E, q, postG_of p⟩⟩
theorem ds_set {i : Nat} {x : Str} {e : Expr} {m : ME} {pos' : Pos} (hN : X.N.Nodup) (he : DE X e m) (hi : X.N[i]? = some x := by rfl) (hx : Loc X.env.scope x := by first | exact Or.inl rfl | exact Or.inr rfl) (hs : swapsWith e (some (.Name x pos')) pos.line X.env = pure false := by rfl)
    (hf : X.fn x = true ∨ X.env.scope.names.lookup x = some .local := by first | exact .inl rfl | exact .inr rfl) : DS X (.Assign [.Name x pos'] e pos) (sAsg m (gName i)) :=
  ⟨fun W tk => ps_weak (ps_set hN hi hx (he.run W tk) hs hf) fun D σ H q => st_of q fun rho env hh H1 d v R E q p => p rho H1 _ .refl R (E.set q)⟩
/-- a, b = e1, e2 -/
def sPar (i j : Nat) (ms : MA) : MS := fun env h => (ms env h).st env fun ds h1 => match ds with
  | [d1, d2] => .nx ((env.set i (some d1)).set j (some d2)) h1
  | _ => .stuck
theorem ds_par {i j : Nat} {x y : Str} {a b : Expr} {ms : MA} {px py pt : Pos} {kt k2 pt2} (hc : X.calm = true) (hN : X.N.Nodup) (hi : X.N[i]? = some x) (hj : X.N[j]? = some y) (hij : i ≠ j)
    (hx : X.env.scope.names.lookup x = some .local) (hy : X.env.scope.names.lookup y = some .local) (ha : DA X [a, b] ms)
    (hw : swappedStores [.Tuple [.Name x px, .Name y py] kt pt] (.Tuple [a, b] k2 pt2) X.env = pure (some [x, y]))
    (hs : swapsWithSole [.Tuple [.Name x px, .Name y py] kt pt] (.Tuple [a, b] k2 pt2) pos.line X.env = pure false := by rfl) :
    DS X (.Assign [.Tuple [.Name x px, .Name y py] kt pt] (.Tuple [a, b] k2 pt2) pos) (sPar i j ms) :=
  ⟨fun W tk => ps_weak (ps_par hc hN hi hj hij hx hy (ha.run W tk) hw hs) fun D σ H ⟨rho, env, hh, R, E, p⟩ => by
    refine ⟨rho, env, hh, R, E, ?_⟩
    unfold sPar at p
    cases e : ms env hh with
    | ok ds h1 =>
      rw [e, st_ok] at p
      intro rho1 H1 vs S R1 q
      match ds, p, q with
      | [d1, d2], p, q =>
        simp only [Dens] at q
        obtain ⟨v, r, rfl, q1, w, r', rfl, q2, rfl⟩ := q
        exact ⟨v, w, rfl, p rho1 H1 _ S R1 (((E.step R S).set q1).set q2)⟩
      | [], p, q => exact p.elim
      | [_], p, q => exact p.elim
      | _ :: _ :: _ :: _, p, q => exact p.elim
    | err x h1 =>
      rw [e] at p
      exact fun rho1 H1 c d S R1 q => p rho1 H1 σ c d S R1 (E.step R S) q
    | stuck => rw [e] at p; exact p⟩
end

/-! ### defs -/
def startD (N : List Str) (ds : List D) : DEnv := ds.map some ++ List.replicate (N.length - ds.length) none
theorem startD_ok {G : Gm} {rho : Rm} {H : Hp} {N : List Str} {ds : List D} {vs : List V} (q : Dens G rho H ds vs) : EnvD G rho H (startD N ds) (L2.start N vs) := by
  have hl := q.length
  refine ⟨by simp [startD, L2.start, hl], fun i d e => ?_⟩
  unfold startD at e
  unfold L2.start
  by_cases hi : i < ds.length
  · rw [List.getElem?_append_left (by simpa using hi), List.getElem?_map] at e
    cases e2 : ds[i]? with
    | none => rw [e2] at e; cases e
    | some d' =>
      rw [e2] at e
      simp at e
      subst e
      obtain ⟨v, e3, q3⟩ := q.get e2
      exact ⟨v, by rw [List.getElem?_append_left (by simpa [← hl] using hi), List.getElem?_map, e3]; rfl, q3⟩
  · rw [List.getElem?_append_right (by simpa using hi)] at e
    rw [List.getElem?_replicate] at e
    split at e
    · cases e
    · cases e
/-- a def: from its arguments and the heap -/
abbrev MF := List D → Hh → Res D
def runF (n : Nat) (N : List Str) (body : MS) : MF := fun ds h => if ds.length = n then (match body (startD N ds) h with
  | .nx _ h' => .ok .non h'
  | .rt d h' => .ok d h'
  | .er x _ h' => .err x h'
  | _ => .stuck) else .stuck
def spD (G : Gm) (n : Nat) (F : MF) : Sp := fun vs H Q E => vs.length = n ∧ ∃ rho hh ds, Rep G rho hh H ∧ Dens G rho H ds vs ∧ PostE G (Den G) E rho H (F ds hh) Q
/-- the def at f does what F says -/
def FnD (P : Program) (w : World) (K : PySem.W.Frag) (mg : Str → Option Value) (base : Heap) (k : Nat) (f : Addr) (fd : FuncData) (ps : List Str) (F : MF) : Prop :=
  FnOk P w K mg base (L2.CX P w) k f fd ps (spD ⟨P, w, K⟩ ps.length F)
section
variable {P : Program} {w : World} {K : PySem.W.Frag} {mg : Str → Option Value} {base : Heap}
theorem fn_ok {x qual : Str} {st : Stmt} {f : Addr} {fd : FuncData} {N ps : List Str} {k : Nat} {m : MS} (F : Fun K x qual st f fd) (S : FnScope N ps (defScope st))
    (hbody : ∀ (cdv : Value) (A : Around) (outer : List PySem.Env) (s : Shared) (H : Hp) (E : XK), Room k (A.deeper (envOfC qual (defScope st) s.heap.objs.size f cdv)) →
      DSs (cxOf (L2.CX P w) P w K mg base N qual (defScope st) f cdv A outer s H E) (defBody st) m) : FnD P w K mg base (k + 1) f fd ps (runF ps.length N m) := by
  refine F.okX S (fun vs H Q E h => h.1) fun cdv A outer s H vs Q E hr h => ?_
  obtain ⟨hl, rho, hh, ds, R, q, p⟩ := h
  refine ⟨_, (hbody cdv A outer s H E hr).run (fun c d σ H => E c d H) (takes_of rfl rfl rfl rfl), rho, startD N ds, hh, R, startD_ok q, ?_⟩
  unfold runF at p
  split at p
  · generalize m (startD N ds) hh = r at p
    cases r with
    | nx env hh' => exact fun rho' H' σ' S R' _ => p rho' H' .non S R' rfl
    | rt d hh' => exact fun rho' H' v S R' q' => p rho' H' v S R' q'
    | er x env hh' => exact fun rho' H' σ' c d S R' _ q' => p rho' H' c d S R' q'
    | bk env hh' => exact p.elim
    | ct env hh' => exact p.elim
    | stuck => exact p.elim
  · exact p.elim
/-- a promise by a function that says no less -/
theorem FnD.imp {k : Nat} {f : Addr} {fd : FuncData} {ps : List Str} {F F' : MF} (h : FnD P w K mg base k f fd ps F) (hi : ∀ ds hh, F' ds hh = .stuck ∨ F' ds hh = F ds hh) : FnD P w K mg base k f fd ps F' :=
  FnOk.imp h fun vs H Q E ⟨hl, rho, hh, ds, R, q, p⟩ => ⟨hl, rho, hh, ds, R, q, by
    rcases hi ds hh with e | e
    · rw [e] at p; exact p.elim
    · rw [← e]; exact p⟩
/-- what a def has made for itself is forgotten -/
noncomputable def pureF (F : MF) : MF := fun ds h => match F ds h with
  | .ok d h' => open Classical in if bel h.length d = true ∧ ∃ g, h' = h ++ g then .ok d h else .stuck
  | .err x h' => .err x h'
  | .stuck => .stuck
theorem pureF_of {F : MF} {ds : List D} {h g : Hh} {d : D} (e : F ds h = .ok d (h ++ g)) (b : bel h.length d = true) : pureF F ds h = .ok d h := by
  unfold pureF
  rw [e]
  show (open Classical in if bel h.length d = true ∧ ∃ g', h ++ g = h ++ g' then Res.ok d h else .stuck) = _
  rw [if_pos ⟨b, g, rfl⟩]
theorem FnD.pure {k : Nat} {f : Addr} {fd : FuncData} {ps : List Str} {F : MF} (h : FnD P w K mg base k f fd ps F) : FnD P w K mg base k f fd ps (pureF F) :=
  FnOk.imp h fun vs H Q E ⟨hl, rho, hh, ds, R, q, p⟩ => ⟨hl, rho, hh, ds, R, q, by
    unfold pureF at p
    cases e : F ds hh with
    | ok d hh' =>
      rw [e] at p
      simp only at p
      split at p
      · rename_i hc
        obtain ⟨hb, g, rfl⟩ := hc
        intro rho' H' v S R' q'
        obtain ⟨ex, ee, hex⟩ := S.ext
        have b' : bel rho.at_.length d = true := by rw [R.len]; exact hb
        have h2 : ∀ a, a ∉ rho'.at_ → a ∉ rho'.res → a ∉ rho.res := fun a _ n m => n (S.kept a m)
        exact p rho H' v S.drop (R.drop S ⟨ex, ee⟩ h2 R') (Den.res ⟨ex, ee⟩ h2 d v q' b')
      · exact p.elim
    | err x hh' => rw [e] at p; exact p
    | stuck => rw [e] at p; exact p⟩
end
section
variable {X : Cx} {k : Nat} {f : Addr} {fd : FuncData} {ps : List Str} {F : MF} {x : Str} {p pos : Pos} {e : Expr} {es : List Expr} {ms : MA}
def eCall (F : MF) (ms : MA) : ME := fun env h => (ms env h).bind fun ds h1 => F ds h1
theorem call_of {W : WX} {σ : L2.St} {H : Hp} {Q : VK} (h : TD (Cx.gm X) W (eCall F ms) σ H Q) (hl : ∀ vs H1, (∃ rho ds, Dens (Cx.gm X) rho H1 ds vs ∧ ∃ env h0 h1, ms env h0 = .ok ds h1) → vs.length = ps.length) :
    tCallS (spD (Cx.gm X) ps.length F) (WE W) (TDa (Cx.gm X) W ms) σ H Q := by
  obtain ⟨rho, env, hh, R, E, p⟩ := h
  refine ⟨rho, env, hh, R, E, ?_⟩
  unfold eCall at p
  cases e : ms env hh with
  | ok ds hh1 =>
    rw [e, bind_ok] at p
    exact fun rho1 H1 vs S R1 q => ⟨hl vs H1 ⟨rho1, ds, q, env, hh, hh1, e⟩, rho1, hh1, ds, R1, q, p.start S⟩
  | err x hh1 => rw [e, bind_err] at p; exact p
  | stuck => rw [e, bind_stuck] at p; exact p
theorem de_call {n : Nat} (Fn : FnD X.prog X.w X.K X.mg X.base k f fd ps F) (hr : Room k X.A) (hg : Gl X x) (hm : X.mg x = some (.ref f)) (hk : PySem.W.keepIn X.K (.ref f) = true) (hb : Binds X.K fd ps []) (ha : DAn X (e :: es) n ms) (hn : n = ps.length := by rfl)
    (hdb : (x == ("__debug__" : Str)) = false := by decide) (he : starEach (e :: es) X.env = (false, eval e X.env) :: starEach es X.env := by rfl) (hpl : (backTo pos (starEach es X.env)).any (·.1) = false := by rfl) :
    DE X (.Call (.Name x p) (e :: es) [] pos) (eCall F ms) :=
  ⟨fun W tk => pe_weak (pe_callS (E := WE W) Fn hr hg hm hk hb (passAt tk) (ha.da.run W tk) hdb he hpl) fun σ H Q h => call_of h fun vs H1 ⟨rho, ds, q, env, h0, h1, e⟩ => by rw [← q.length, ha.n _ _ _ _ e, hn]⟩
/-- f() -/
theorem pe_callS0 {sp : Sp} {CX : CXT} {E : L2.St → XK} (F : FnOk X.prog X.w X.K X.mg X.base CX k f fd ps sp) (hr : Room k X.A) (hg : Gl X x) (hm : X.mg x = some (.ref f)) (hk : PySem.W.keepIn X.K (.ref f) = true) (hb : Binds X.K fd ps []) (hx : ∀ σ, PassesAt CX X σ (E σ))
    (hdb : (x == ("__debug__" : Str)) = false := by decide) : PE X (.Call (.Name x p) [] [] pos) (tCallS sp E tNil) := by
  refine ⟨fun pins s σ H Q I h => ?_⟩
  refine wpAny_Call_Name_kw (ld_glob I hg hm ?_ hdb)
  exact PySem.W.callWith_K0 I.kIn hk (run_fnS (us := []) F hr hb (hx σ) I .nil h)
theorem de_call0 (Fn : FnD X.prog X.w X.K X.mg X.base k f fd ps F) (hr : Room k X.A) (hg : Gl X x) (hm : X.mg x = some (.ref f)) (hk : PySem.W.keepIn X.K (.ref f) = true) (hb : Binds X.K fd ps []) (hn : ps = [] := by rfl)
    (hdb : (x == ("__debug__" : Str)) = false := by decide) : DE X (.Call (.Name x p) [] [] pos) (eCall F aNil) :=
  ⟨fun W tk => pe_weak (pe_callS0 (E := WE W) Fn hr hg hm hk hb (passAt tk) hdb) fun σ H Q ⟨rho, env, hh, R, E, p⟩ => ⟨by rw [hn]; rfl, rho, hh, [], R, rfl, p⟩⟩
end
end MR

/-! F4: loops and comprehensions over data. -/
namespace MR
open PySem PySem.Spec PyProof.Rows L2

/-! ### targets that are names -/
inductive Tg where
  | name (i : Nat)
  | tup (is : List Nat)
def setAll {α : Type} : List Nat → List α → List (Option α) → List (Option α)
  | i :: is, d :: ds, env => setAll is ds (env.set i (some d))
  | _, _, env => env
def bindT (T : Tg) (d : D) (env : DEnv) : Option DEnv := match T with
  | .name i => some (env.set i (some d))
  | .tup is => match d with
    | .tup ds => if ds.length = is.length then some (setAll is ds env) else none
    | .wtp ds => if ds.length = is.length then some (setAll is ds env) else none
    | _ => none
def Tg.slots : Tg → List Nat
  | .name i => [i]
  | .tup is => is
def gSet : List Nat → TGs := fun is vs σ H Q => vs.length = is.length ∧ Q (setAll is vs σ) H
def gT (K : PySem.W.Frag) : Tg → TG
  | .name i => L2.gName i
  | .tup is => L2.gTup K is.length (gSet is)
structure DTg (X : Cx) (tg : Expr) (T : Tg) : Prop where
  run : PG X tg (gT X.K T)
structure DTgs (X : Cx) (tgs : List Expr) (is : List Nat) : Prop where
  run : PGs X tgs (gSet is)
section
variable {X : Cx} {pos : Pos}
theorem dtg_name {i : Nat} {x : Str} (hN : X.N.Nodup) (hi : X.N[i]? = some x := by rfl) (hx : Loc X.env.scope x := by first | exact Or.inl rfl | exact Or.inr rfl) (hf : X.fn x = true ∨ X.env.scope.names.lookup x = some .local := by first | exact .inl rfl | exact .inr rfl) : DTg X (.Name x pos) (.name i) := ⟨pg_name hN hi hx hf⟩
theorem dtgs_nil : DTgs X [] [] := ⟨pgs_weak pgs_nil fun vs σ H Q ⟨h, q⟩ => by
  cases vs with
  | nil => exact ⟨rfl, q⟩
  | cons v r => simp at h⟩
theorem dtgs_cons {i : Nat} {x : Str} {es : List Expr} {is : List Nat} (hN : X.N.Nodup) (h2 : DTgs X es is) (hi : X.N[i]? = some x := by rfl) (hx : Loc X.env.scope x := by first | exact Or.inl rfl | exact Or.inr rfl) (hf : X.fn x = true ∨ X.env.scope.names.lookup x = some .local := by first | exact .inl rfl | exact .inr rfl)
    (hs : (assignEach (.Name x pos :: es) X.env).map (·.2) = assign (.Name x pos) X.env :: (assignEach es X.env).map (·.2) := by rfl) : DTgs X (.Name x pos :: es) (i :: is) :=
  ⟨pgs_weak (pgs_cons (pg_name hN hi hx hf) h2.run hs) fun vs σ H Q ⟨h, q⟩ => by
    cases vs with
    | nil => simp at h
    | cons v r => exact ⟨v, r, rfl, by simpa using h, q⟩⟩
theorem dtg_tup {es : List Expr} {k : Nat} {is : List Nat} (hc : X.calm = true) (h : DTgs X es is)
    (hn : (assignEach es X.env).length = is.length := by rfl) (hst : (assignEach es X.env).findIdx? (·.1) = none := by rfl) : DTg X (.Tuple es k pos) (.tup is) := ⟨pg_tup hc h.run hn hst⟩
end
section
variable {G : Gm} {rho : Rm} {H : Hp}
theorem EnvD.setAll {is : List Nat} : ∀ {ds : List D} {vs : List V} {env : DEnv} {σ : L2.St}, EnvD G rho H env σ → Dens G rho H ds vs → EnvD G rho H (MR.setAll is ds env) (MR.setAll is vs σ) := by
  induction is with
  | nil => intro ds vs env σ E q; exact E
  | cons i is ih =>
    intro ds vs env σ E q
    cases ds with
    | nil => rw [Dens] at q; subst q; exact E
    | cons d ds =>
      rw [Dens] at q
      obtain ⟨v, r, rfl, q1, q2⟩ := q
      exact ih (E.set q1) q2
theorem wipe_at {σ : L2.St} {j : Nat} : ∀ {vs : List Nat}, (wipe σ vs)[j]? = if j ∈ vs then (if j < σ.length then some none else none) else σ[j]?
  | [] => by simp [wipe]
  | v :: vs => by
    unfold wipe
    have ih := wipe_at (σ := σ) (j := j) (vs := vs)
    by_cases hj : v = j
    · subst hj
      by_cases hl : v < σ.length
      · rw [List.getElem?_set_self (by rw [wipe_length]; exact hl)]; simp [hl]
      · rw [List.getElem?_eq_none (by rw [List.length_set, wipe_length]; omega)]; simp [hl]
    · rw [List.getElem?_set_ne hj, ih]
      have : (j ∈ v :: vs) ↔ j ∈ vs := by simp [Ne.symm hj, fun e => hj (Eq.symm e)]
      simp only [this]
theorem wipe_set {σ : L2.St} {i : Nat} {x : Option V} {vs : List Nat} (h : i ∈ vs) : wipe (σ.set i x) vs = wipe σ vs := by
  apply List.ext_getElem?
  intro j
  rw [wipe_at, wipe_at, List.length_set]
  by_cases hj : j ∈ vs
  · simp [hj]
  · simp only [hj, if_false]
    exact List.getElem?_set_ne fun e => hj (by rw [← e]; exact h)
theorem wipe_setAll {vs : List Nat} {is : List Nat} : ∀ {ws : List V} {σ : L2.St}, (∀ i ∈ is, i ∈ vs) → wipe (MR.setAll is ws σ) vs = wipe σ vs := by
  induction is with
  | nil => intro ws σ h; rfl
  | cons i is ih =>
    intro ws σ h
    cases ws with
    | nil => rfl
    | cons w ws => exact (ih fun j hj => h j (List.mem_cons_of_mem _ hj)).trans (wipe_set (h i List.mem_cons_self))
def wipeE (env : DEnv) : List Nat → DEnv
  | [] => env
  | v :: vs => (wipeE env vs).set v none
theorem EnvD.setN {env : DEnv} {σ : L2.St} {i : Nat} (E : EnvD G rho H env σ) : EnvD G rho H (env.set i none) (σ.set i none) := by
  refine ⟨by simp [E.1], fun j d e => ?_⟩
  by_cases hj : i = j
  · subst hj
    by_cases hl : i < env.length
    · rw [List.getElem?_set_self hl] at e; cases e
    · rw [List.getElem?_eq_none (by rw [List.length_set]; omega)] at e; cases e
  · rw [List.getElem?_set_ne hj] at e ⊢
    exact E.2 j d e
theorem EnvD.wipe {env : DEnv} {σ : L2.St} (E : EnvD G rho H env σ) : ∀ vs : List Nat, EnvD G rho H (wipeE env vs) (L2.wipe σ vs)
  | [] => E
  | v :: vs => (EnvD.wipe E vs).setN
/-- a target takes its value -/
theorem bindT_of {T : Tg} {d : D} {v : V} {env env' : DEnv} {σ : L2.St} {Q : L2.St → Hp → Prop} (E : EnvD G rho H env σ) (q : Den G rho H d v) (h : bindT T d env = some env')
    (hq : ∀ σ', EnvD G rho H env' σ' → (∀ vs, (∀ i ∈ T.slots, i ∈ vs) → L2.wipe σ' vs = L2.wipe σ vs) → Q σ' H) : gT G.K T v σ H Q := by
  cases T with
  | name i =>
    cases h
    exact hq _ (E.set q) fun vs hv => wipe_set (hv i (by simp [Tg.slots]))
  | tup is =>
    unfold bindT at h
    cases d with
    | tup ds =>
      simp only at h
      split at h
      · rename_i hl
        cases h
        rw [Den] at q
        obtain ⟨a, vs, rfl, hs, l, q⟩ := q
        refine ⟨a, vs, rfl, hs.t, by rw [← q.length]; exact hl, by rw [← q.length]; exact hl, ?_⟩
        exact hq _ (E.setAll q) fun ws hv => wipe_setAll hv
      · cases h
    | wtp ds =>
      simp only at h
      split at h
      · rename_i hl
        cases h
        rw [Den] at q
        obtain ⟨a, vs, rfl, hs, l, q⟩ := q
        refine ⟨a, vs, rfl, hs, by rw [← q.length]; exact hl, by rw [← q.length]; exact hl, ?_⟩
        exact hq _ (E.setAll q) fun ws hv => wipe_setAll hv
      · cases h
    | non => cases h
    | bl b => cases h
    | int i => cases h
    | str x => cases h
    | lst xs => cases h
    | ref i => cases h
    | glb u => cases h
    | scr u => cases h
end

/-! ### what is walked -/
structure Src where
  items : List D
  live : Option (Nat × List D)
def gOk (g : Option (Nat × List D)) (h : Hh) : Prop := ∀ i ds, g = some (i, ds) → h[i]? = some (.lst ds)
theorem gOk_none {h : Hh} : gOk none h := fun _ _ e => nomatch e
abbrev MI := DEnv → Hh → Res Src
def WalkD (G : Gm) (rho1 : Rm) (H1 : Hp) (src : Src) (J : It) : Prop := src.items.length ≤ sizeLine ∧ ∀ rho hh H, Step rho1 H1 rho H → Rep G rho hh H → gOk src.live hh →
  (∀ i, i < src.items.length → J.go i H) ∧ J.stop src.items.length H ∧ ∀ i d x H', src.items[i]? = some d → J.yld i H x H' → Step rho H rho H' ∧ Rep G rho hh H' ∧ Den G rho H' d x
def TDi (G : Gm) (W : WX) (m : MI) : TI := fun σ H R => ∃ rho env hh, Rep G rho hh H ∧ EnvD G rho H env σ ∧ PostE G (WalkD G) (wAt W σ) rho H (m env hh) R
structure DI (X : Cx) (tg iter : Expr) (m : MI) : Prop where
  run : ∀ W, Takes X W → PI X tg iter (TDi (Cx.gm X) W m)
theorem pi_weak {X : Cx} {tg e : Expr} {t t' : TI} (h : PI X tg e t) (i : ∀ σ H R, t' σ H R → t σ H R) : PI X tg e t' := ⟨fun pins s σ H R I q => h.run pins s σ H R I (i σ H R q)⟩

/-! ### for -/
def loopBack (r : RS) (f : DEnv → Hh → RS) : RS := match r with
  | .nx e h => f e h
  | .ct e h => f e h
  | .bk e h => .nx e h
  | r => r
open Classical in
noncomputable def forL (g : Option (Nat × List D)) (body : D → DEnv → Hh → RS) : List D → DEnv → Hh → RS
  | [], env, h => if gOk g h then .nx env h else .stuck
  | d :: ds, env, h => if gOk g h then loopBack (body d env h) (forL g body ds) else .stuck
def bodyT (T : Tg) (b : MS) : D → DEnv → Hh → RS := fun d env h => match bindT T d env with
  | some env' => b env' h
  | none => .stuck
noncomputable def sFor (mi : MI) (T : Tg) (b : MS) : MS := fun env h => (mi env h).st env fun src h1 => forL src.live (bodyT T b) src.items env h1
section
variable {X : Cx} {G : Gm} {W : WX}
theorem loop_post {De : Ends} {rho : Rm} {H : Hp} {r : RS} {f : DEnv → Hh → RS} {N : L2.St → Hp → Prop} (p : PostS G W De rho H (loopBack r f))
    (hN : ∀ rho' H' σ' env hh, Step rho H rho' H' → Rep G rho' hh H' → EnvD G rho' H' env σ' → PostS G W De rho' H' (f env hh) → N σ' H') :
    PostS G W { De with nx := N, ct := N, bk := De.nx } rho H r := by
  cases r with
  | nx env hh => exact fun rho' H' σ' S R E => hN rho' H' σ' env hh S R E (PostS.start (r := f env hh) p S)
  | rt d hh => exact p
  | bk env hh => exact p
  | ct env hh => exact fun rho' H' σ' S R E => hN rho' H' σ' env hh S R E (PostS.start (r := f env hh) p S)
  | er x env hh => exact p
  | stuck => exact p
theorem ds_for {tg iter : Expr} {body : List Stmt} {mi : MI} {T : Tg} {b : MS} {pos : Pos} (hp : PassesOwn (model X.prog X.w) X.A X.env X.xe) (hc : X.calm = true) (hi : DI X tg iter mi) (hg : DTg X tg T) (hb : DSs X body b)
    (hs : ∀ x, foldedSetIterable iter X.env x = pure x := by intro _; rfl) : DS X (.For tg iter body [] pos) (sFor mi T b) :=
  ⟨fun W tk => ps_weak (ps_for hp hc (hi.run W tk) hg.run (hb.run W tk) hs) fun De σ H ⟨rho, env, hh, R, E, p⟩ => by
    refine ⟨rho, env, hh, R, E, ?_⟩
    unfold sFor at p
    cases e : mi env hh with
    | stuck => rw [e] at p; exact p
    | err x h1 =>
      rw [e] at p
      exact fun rho1 H1 c d S R1 q => p rho1 H1 σ c d S R1 (E.step R S) q
    | ok src h1 =>
      rw [e, st_ok] at p
      intro rho1 H1 J S1 R1 wk
      have E1 := E.step R S1
      have p1 := PostS.start p S1
      refine ⟨fun i m σ H => m = src.items.length - i ∧ i ≤ src.items.length ∧ ∃ rho env hh, Rep (Cx.gm X) rho hh H ∧ EnvD (Cx.gm X) rho H env σ ∧ Step rho1 H1 rho H ∧ PostS (Cx.gm X) W De rho H (forL src.live (bodyT T b) (src.items.drop i) env hh),
        ⟨_, rfl, Nat.zero_le _, rho1, env, h1, R1, E1, .refl, by rw [List.drop_zero]; exact p1⟩, ?_⟩
      rintro i m σ2 H2 ⟨rfl, hi, rho2, env2, hh2, R2, E2, S2, p2⟩
      obtain ⟨wl, wk⟩ := wk
      by_cases hlt : i < src.items.length
      · have ed : src.items.drop i = src.items[i] :: src.items.drop (i + 1) := List.drop_eq_getElem_cons hlt
        rw [ed] at p2
        unfold forL at p2
        split at p2
        · rename_i hg2
          obtain ⟨w1, w2, w3⟩ := wk rho2 hh2 H2 S2 R2 hg2
          refine .inr ⟨w1 i hlt, fun σ' H' => ∃ rho env hh, Rep (Cx.gm X) rho hh H' ∧ EnvD (Cx.gm X) rho H' env σ' ∧ Step rho1 H1 rho H' ∧ PostS (Cx.gm X) W De rho H' (forL src.live (bodyT T b) (src.items.drop (i + 1)) env hh),
            fun σ' H' q => ⟨src.items.length - (i + 1), by omega, rfl, hlt, q⟩, fun x H3 y => ?_⟩
          obtain ⟨S3, R3, q3⟩ := w3 i _ x H3 (List.getElem?_eq_getElem hlt) y
          have E3 := E2.step R2 S3
          have p3 := PostS.start p2 S3
          unfold bodyT at p3
          cases eb : bindT T src.items[i] env2 with
          | none => rw [eb] at p3; exact p3.elim
          | some env3 =>
            rw [eb] at p3
            refine bindT_of (G := Cx.gm X) E3 q3 eb fun σ4 E4 _ => ⟨rho2, env3, hh2, R3, E4, ?_⟩
            exact loop_post p3 fun rho' H' σ' env' hh' S' R' E' p' => ⟨rho', env', hh', R', E', S2.trans (S3.trans S'), p'⟩
        · exact p2.elim
      · have ei : i = src.items.length := by omega
        subst ei
        rw [List.drop_length] at p2
        unfold forL at p2
        split at p2
        · rename_i hg2
          obtain ⟨w1, w2, w3⟩ := wk rho2 hh2 H2 S2 R2 hg2
          exact .inl ⟨w2, p2 rho2 H2 σ2 .refl R2 E2⟩
        · exact p2.elim⟩

/-! ### while -/
def whileN (t : MT) (b : MS) : Nat → MS
  | 0 => fun _ _ => .stuck
  | n + 1 => fun env h => (t env h).st env fun k h1 => if k = true then loopBack (b env h1) (whileN t b n) else .nx env h1
open Classical in
noncomputable def sWhile (t : MT) (b : MS) : MS := fun env h => if q : ∃ n, whileN t b n env h ≠ .stuck then whileN t b (Classical.choose q) env h else .stuck
theorem loopBack_stuck {r : RS} {f f' : DEnv → Hh → RS} (h : ∀ e h, f e h ≠ .stuck → f' e h = f e h) (q : loopBack r f ≠ .stuck) : loopBack r f' = loopBack r f := by
  cases r with
  | nx e hh => exact h e hh q
  | ct e hh => exact h e hh q
  | bk e hh => rfl
  | rt d hh => rfl
  | er x e hh => rfl
  | stuck => rfl
theorem whileN_eq (t : MT) (b : MS) (n : Nat) (env : DEnv) (h : Hh) : whileN t b (n + 1) env h = (t env h).st env fun k h1 => if k = true then loopBack (b env h1) (whileN t b n) else .nx env h1 := rfl
theorem whileN_succ {t : MT} {b : MS} : ∀ (n : Nat) (env : DEnv) (h : Hh), whileN t b n env h ≠ .stuck → whileN t b (n + 1) env h = whileN t b n env h
  | 0, _, _, q => absurd rfl q
  | n + 1, env, h, q => by
    rw [whileN_eq] at q
    rw [whileN_eq t b (n + 1), whileN_eq t b n]
    cases e : t env h with
    | stuck => rfl
    | err x h1 => rfl
    | ok k h1 =>
      rw [e, st_ok] at q
      rw [st_ok, st_ok]
      cases k with
      | false => rfl
      | true =>
        simp only [if_true] at q ⊢
        exact loopBack_stuck (fun e h => whileN_succ n e h) q
theorem whileN_mono {t : MT} {b : MS} {n : Nat} (k : Nat) {env : DEnv} {h : Hh} (q : whileN t b n env h ≠ .stuck) : whileN t b (n + k) env h = whileN t b n env h := by
  induction k with
  | zero => rfl
  | succ k ih => rw [← Nat.add_assoc, whileN_succ _ _ _ (by rw [ih]; exact q), ih]
theorem sWhile_eq {t : MT} {b : MS} {n : Nat} {env : DEnv} {h : Hh} (q : whileN t b n env h ≠ .stuck) : sWhile t b env h = whileN t b n env h := by
  unfold sWhile
  have hq : ∃ n, whileN t b n env h ≠ .stuck := ⟨n, q⟩
  rw [dif_pos hq]
  have q2 := Classical.choose_spec hq
  have a := whileN_mono n q2
  have c := whileN_mono (Classical.choose hq) q
  rw [Nat.add_comm] at c
  exact a.symm.trans c
theorem sWhile_step {t : MT} {b : MS} {env : DEnv} {h : Hh} {r : RS} (hr : r ≠ .stuck) (e : (t env h).st env (fun k h1 => if k = true then loopBack (b env h1) (sWhile t b) else .nx env h1) = r) : sWhile t b env h = r := by
  cases et : t env h with
  | stuck => rw [et] at e; exact absurd e.symm hr
  | err x h1 =>
    rw [et] at e
    have : whileN t b 1 env h = r := by rw [whileN_eq, et]; exact e
    rw [sWhile_eq (n := 1) (by rw [this]; exact hr)]; exact this
  | ok k h1 =>
    rw [et, st_ok] at e
    cases k with
    | false =>
      have : whileN t b 1 env h = r := by rw [whileN_eq, et, st_ok]; exact e
      rw [sWhile_eq (n := 1) (by rw [this]; exact hr)]; exact this
    | true =>
      simp only [if_true] at e
      have key : ∃ n, loopBack (b env h1) (whileN t b n) = r := by
        cases eb : b env h1 with
        | nx e2 h2 =>
          rw [eb] at e
          have e : sWhile t b e2 h2 = r := e
          by_cases q : ∃ n, whileN t b n e2 h2 ≠ .stuck
          · obtain ⟨n, q⟩ := q
            rw [sWhile_eq q] at e
            exact ⟨n, e⟩
          · unfold sWhile at e
            rw [dif_neg q] at e
            exact absurd e.symm hr
        | ct e2 h2 =>
          rw [eb] at e
          have e : sWhile t b e2 h2 = r := e
          by_cases q : ∃ n, whileN t b n e2 h2 ≠ .stuck
          · obtain ⟨n, q⟩ := q
            rw [sWhile_eq q] at e
            exact ⟨n, e⟩
          · unfold sWhile at e
            rw [dif_neg q] at e
            exact absurd e.symm hr
        | bk e2 h2 => rw [eb] at e; exact ⟨0, e⟩
        | rt d h2 => rw [eb] at e; exact ⟨0, e⟩
        | er x e2 h2 => rw [eb] at e; exact ⟨0, e⟩
        | stuck => rw [eb] at e; exact ⟨0, e⟩
      obtain ⟨n, key⟩ := key
      have : whileN t b (n + 1) env h = r := by rw [whileN_eq, et, st_ok]; simp only [if_true]; exact key
      rw [sWhile_eq (n := n + 1) (by rw [this]; exact hr)]; exact this
theorem ds_while {c : Expr} {body : List Stmt} {t : MT} {b : MS} {pos : Pos} (hp : PassesOwn (model X.prog X.w) X.A X.env X.xe) (hc : DT X c t) (hb : DSs X body b) : DS X (.While c body [] pos) (sWhile t b) :=
  ⟨fun W tk => ps_weak (ps_while hp (hc.run W tk) (hb.run W tk)) fun De σ H ⟨rho, env, hh, R, E, p⟩ => by
    unfold sWhile at p
    split at p
    · rename_i q
      generalize Classical.choose q = n at p
      refine ⟨fun m σ H => TDs (Cx.gm X) W (whileN t b m) De σ H, ⟨n, rho, env, hh, R, E, p⟩, ?_⟩
      rintro m σ2 H2 ⟨rho2, env2, hh2, R2, E2, p2⟩
      cases m with
      | zero => exact p2.elim
      | succ m =>
        rw [whileN_eq] at p2
        refine stT_of (f := fun env k h1 => if k = true then loopBack (b env h1) (whileN t b m) else .nx env h1) ⟨rho2, env2, hh2, R2, E2, p2⟩ fun k H3 h3 => ?_
        obtain ⟨rho3, env3, hh3, R3, E3, p3⟩ := h3
        cases k with
        | true =>
          refine ⟨fun σ' H' => TDs (Cx.gm X) W (whileN t b m) De σ' H', fun σ' H' q => ⟨m, Nat.lt_succ_self _, q⟩, rho3, env3, hh3, R3, E3, ?_⟩
          exact loop_post (f := whileN t b m) p3 fun rho' H' σ' env' hh' S' R' E' p' => ⟨rho', env', hh', R', E', p'⟩
        | false => exact p3 rho3 H3 σ2 .refl R3 E3
    · exact p.elim⟩
end
end MR

/-! F5: comprehensions over data. -/
namespace MR
open PySem PySem.Spec PyProof.Rows L2

structure DTs (X : Cx) (ifs : List Expr) (m : MT) : Prop where
  run : ∀ W, Takes X W → PTs X ifs (TDt (Cx.gm X) W m)
theorem dts_nil {X : Cx} : DTs X [] (fun _ h => .ok true h) := ⟨fun W _ => ⟨fun pins s σ H Q I ⟨rho, env, hh, R, E, p⟩ => pts_nil.run pins s σ H Q I (p.val R rfl)⟩⟩
theorem dts_one {X : Cx} {c : Expr} {t : MT} (h : DT X c t) : DTs X [c] t := ⟨fun W tk => pts_one (h.run W tk)⟩

open Classical in
noncomputable def compL (g : Option (Nat × List D)) (T : Tg) (t : MT) (e : ME) (env : DEnv) : List D → Hh → Res (List D)
  | [], h => if gOk g h then .ok [] h else .stuck
  | d :: ds, h => if gOk g h then (match bindT T d env with
    | some env' => (t env' h).bind fun k h1 => if k = true then (e env' h1).bind fun y h2 => (compL g T t e env ds h2).bind fun ys h3 => .ok (y :: ys) h3 else compL g T t e env ds h1
    | none => .stuck) else .stuck
def noErr {α : Type} (r : Res α) : Res α := match r with
  | .ok a h => .ok a h
  | _ => .stuck
noncomputable def aComp (mi : MI) (T : Tg) (t : MT) (e : ME) (vs : List Nat) : MA := fun env h => (mi env h).bind fun src h1 => noErr (compL src.live T t e (wipeE env vs) src.items h1)

abbrev WF : WX := fun _ _ _ _ => False
section
variable {G : Gm} {rho : Rm} {H H' : Hp}
mutual
theorem den_same (ht : ∀ a vs, SqT G.K H a vs → SqT G.K H' a vs) (hl : ∀ a vs, H a = some (.lst vs) → a ∉ rho.at_ → a ∉ rho.res → H' a = some (.lst vs)) (hf : ∀ a o u, H a = some (.frz o u) → H' a = some (.frz o u)) : ∀ (d : D) (v : V), Den G rho H d v → Den G rho H' d v
  | .non, _, h => h
  | .bl _, _, h => h
  | .int _, _, h => h
  | .str _, _, h => h
  | .tup ds, v, h => by
    rw [Den] at h ⊢
    obtain ⟨a, vs, e, q, l, ds'⟩ := h
    refine ⟨a, vs, e, ?_, l, dens_same ht hl hf ds vs ds'⟩
    rcases q with ⟨o, q, d⟩ | q
    · exact .inl ⟨o, hf a o _ q, d⟩
    · exact .inr q
  | .wtp ds, v, h => by
    rw [Den] at h ⊢
    obtain ⟨a, vs, e, q, l, ds'⟩ := h
    exact ⟨a, vs, e, ht a vs q, l, dens_same ht hl hf ds vs ds'⟩
  | .lst ds, v, h => by
    rw [Den] at h ⊢
    obtain ⟨a, vs, e, q, n, n2, l, ds'⟩ := h
    exact ⟨a, vs, e, hl a vs q n n2, n, n2, l, dens_same ht hl hf ds vs ds'⟩
  | .ref i, v, h => h
  | .glb _, _, h => h
  | .scr ns, v, h => by
    rw [Den] at h ⊢
    obtain ⟨a, e, q, l⟩ := h
    refine ⟨a, e, ?_, l⟩
    rcases q with ⟨o, q⟩ | q
    · exact .inl ⟨o, hf a o _ q⟩
    · exact .inr q
theorem dens_same (ht : ∀ a vs, SqT G.K H a vs → SqT G.K H' a vs) (hl : ∀ a vs, H a = some (.lst vs) → a ∉ rho.at_ → a ∉ rho.res → H' a = some (.lst vs)) (hf : ∀ a o u, H a = some (.frz o u) → H' a = some (.frz o u)) : ∀ (ds : List D) (vs : List V), Dens G rho H ds vs → Dens G rho H' ds vs
  | [], _, h => h
  | d :: ds, vs, h => by
    rw [Dens] at h ⊢
    obtain ⟨v, r, e, a, b⟩ := h
    exact ⟨v, r, e, den_same ht hl hf d v a, dens_same ht hl hf ds r b⟩
end
/-- a list that is set apart is changed -/
theorem putR {p : Addr} {xs ys : List V} (hp : H p = some (.lst xs)) (hr : p ∈ rho.res) : (∀ a vs, SqT G.K H a vs → SqT G.K (upd H p (.lst ys)) a vs) ∧ (∀ a vs, H a = some (.lst vs) → a ∉ rho.at_ → a ∉ rho.res → (upd H p (.lst ys)) a = some (.lst vs)) ∧ (∀ a o u, H a = some (.frz o u) → (upd H p (.lst ys)) a = some (.frz o u)) := by
  refine ⟨fun a vs h => ?_, fun a vs h n n2 => ?_, fun a o u h => ?_⟩
  · rcases h with (h | ⟨o, h⟩) | h
    · exact .inl (.inl (by rw [upd_ne (ne_of h hp (by intro z; cases z))]; exact h))
    · exact .inl (.inr ⟨o, by rw [upd_ne (ne_of h hp (by intro z; cases z))]; exact h⟩)
    · exact .inr h
  · have ne : a ≠ p := fun e => n2 (by rw [e]; exact hr)
    rw [upd_ne ne]; exact h
  · rw [upd_ne (ne_of h hp (by intro z; cases z))]; exact h
theorem Rep.putR {hh : Hh} (R : Rep G rho hh H) {p : Addr} {xs ys : List V} (hp : H p = some (.lst xs)) (hr : p ∈ rho.res) (ha : p ∉ rho.at_) : Rep G rho hh (upd H p (.lst ys)) := by
  obtain ⟨ht, hl, hf⟩ := MR.putR (G := G) (ys := ys) hp hr
  refine ⟨R.nd, fun a m => ?_, R.len, fun i a o e1 e2 => ?_⟩
  · by_cases e : a = p
    · subst e; exact ⟨_, upd_same⟩
    · obtain ⟨o, q⟩ := R.hd a m
      exact ⟨o, by rw [upd_ne e]; exact q⟩
  · have ne : a ≠ p := fun e => ha (by rw [← e]; exact List.mem_of_getElem? e1)
    have x := R.ob i a o e1 e2
    cases o with
    | lst ds => obtain ⟨vs, e, l, q⟩ := x; exact ⟨vs, by rw [upd_ne ne]; exact e, l, dens_same ht hl hf ds vs q⟩
    | dK kvs => obtain ⟨vs, e, l, q⟩ := x; exact ⟨vs, by rw [upd_ne ne]; exact e, l, Paired.mapP q fun p q r => ⟨r.1, den_same ht hl hf _ _ r.2⟩⟩
    | dN kvs =>
      obtain ⟨xs, l0, l1, es, e, q, r⟩ := x
      exact ⟨xs, l0, l1, es, by rw [upd_ne ne]; exact e, Paired.mapP q fun p q r => ⟨r.1, den_same ht hl hf _ _ r.2.1, let ⟨v, a, b⟩ := r.2.2; ⟨v, a, den_same ht hl hf _ _ b⟩⟩, r⟩
    | ins C fs =>
      obtain ⟨c, dx, fvs, g, e, o, q⟩ := x
      have nd : dx ≠ p := ne_of o hp (by intro z; cases z)
      exact ⟨c, dx, fvs, g, by rw [upd_ne ne]; exact e, by rw [upd_ne nd]; exact o, Paired.mapP q fun p q r => ⟨r.1, den_same ht hl hf _ _ r.2⟩⟩
theorem EnvD.putR {env : DEnv} {σ : L2.St} (E : EnvD G rho H env σ) {p : Addr} {xs ys : List V} (hp : H p = some (.lst xs)) (hr : p ∈ rho.res) : EnvD G rho (upd H p (.lst ys)) env σ := by
  obtain ⟨ht, hl, hf⟩ := MR.putR (G := G) (ys := ys) hp hr
  exact ⟨E.1, fun i d e => let ⟨v, e1, e2⟩ := E.2 i d e; ⟨v, e1, den_same ht hl hf _ _ e2⟩⟩
end

section
variable {X : Cx}
/-- what is wanted at the comprehension's end -/
def Fin (G : Gm) (rho1 : Rm) (H1 : Hp) (L : Addr) (Q : VK) (acc : List D) (r : Res (List D)) : Prop :=
  match r with
  | .ok ys hh' => ∀ rho' H' vs, Step rho1 H1 rho' H' → Rep G rho' hh' H' → H' L = some (.lst vs) → L ∈ rho'.res → L ∉ rho'.at_ → vs.length ≤ sizeLine → Dens G rho' H' (acc ++ ys) vs → Q (.ref L) H'
  | _ => False
theorem lc_of {G : Gm} {W : WX} {mi : MI} {T : Tg} {t : MT} {e : ME} {vs : List Nat} {σ : L2.St} {H : Hp} {Q : VK} (hT : ∀ i ∈ T.slots, i ∈ vs) (h : TDl G W (aComp mi T t e vs) σ H Q) :
    tLc (TDi G W mi) (gT G.K T) (TDt G WF t) (TD G WF e) vs σ H Q := by
  obtain ⟨rho, env, hh, R, E, p⟩ := h
  refine ⟨rho, env, hh, R, E, ?_⟩
  unfold aComp at p
  cases em : mi env hh with
  | stuck => rw [em] at p; exact p.elim
  | err x h1 =>
    rw [em] at p
    exact p
  | ok src h1 =>
    rw [em, bind_ok] at p
    intro rho1 H1 J S1 R1 wk L hL
    have E1 := (E.step R S1).wipe vs
    -- the list is laid, apart
    have hLa : L ∉ rho1.at_ := fun hm => by
      obtain ⟨u, e, _⟩ := R1.mut hm
      rw [hL] at e; cases e
    obtain ⟨S2, R2, _, _⟩ := new_list (ds := []) (vs := []) (Step.refl (rho := rho1) (H := H1)) R1 rfl hL
    have E2 := E1.step R1 S2
    have fin : Fin G rho1 H1 L Q [] (compL src.live T t e (wipeE env vs) src.items h1) := by
      cases ec : compL src.live T t e (wipeE env vs) src.items h1 with
      | ok ys h2 =>
        rw [ec] at p
        exact fun rho' H' ws S' R' hl hr ha hz q => p rho' H' L ws (S1.trans S') R' hl hr ha (S1.back hL) hz q
      | err x h2 => rw [ec] at p; exact p
      | stuck => rw [ec] at p; exact p
    obtain ⟨wl, wk⟩ := wk
    refine ⟨fun i m H => m = src.items.length - i ∧ i ≤ src.items.length ∧ ∃ rho hh acc av, Step rho1 H1 rho H ∧ Rep G rho hh H ∧ EnvD G rho H (wipeE env vs) (wipe σ vs) ∧ H L = some (.lst av) ∧ L ∈ rho.res ∧ L ∉ rho.at_ ∧ av.length ≤ i ∧ Dens G rho H acc av ∧
        Fin G rho1 H1 L Q acc (compL src.live T t e (wipeE env vs) (src.items.drop i) hh),
      ⟨_, rfl, Nat.zero_le _, rho1.hold L, h1, [], [], S2, R2, E2, upd_same, List.mem_cons_self, hLa, Nat.le_refl _, rfl, by rw [List.drop_zero]; exact fin⟩, ?_⟩
    rintro i m H3 ⟨rfl, hi, rho3, hh3, acc, av, S3, R3, E3, h3, hr3, ha3, hz3, q3, f3⟩
    by_cases hlt : i < src.items.length
    · have ed : src.items.drop i = src.items[i] :: src.items.drop (i + 1) := List.drop_eq_getElem_cons hlt
      rw [ed] at f3
      unfold compL at f3
      split at f3
      · rename_i hg3
        obtain ⟨w1, w2, w3⟩ := wk rho3 hh3 H3 S3 R3 hg3
        refine .inr ⟨w1 i hlt, fun H' => ∃ rho hh acc av, Step rho1 H1 rho H' ∧ Rep G rho hh H' ∧ EnvD G rho H' (wipeE env vs) (wipe σ vs) ∧ H' L = some (.lst av) ∧ L ∈ rho.res ∧ L ∉ rho.at_ ∧ av.length ≤ i + 1 ∧ Dens G rho H' acc av ∧
            Fin G rho1 H1 L Q acc (compL src.live T t e (wipeE env vs) (src.items.drop (i + 1)) hh),
          fun H' q => ⟨src.items.length - (i + 1), by omega, rfl, hlt, q⟩, fun x H4 y => ?_⟩
        obtain ⟨S4, R4, q4⟩ := w3 i _ x H4 (List.getElem?_eq_getElem hlt) y
        have E4 := E3.step R3 S4
        cases eb : bindT T src.items[i] (wipeE env vs) with
        | none => rw [eb] at f3; exact f3.elim
        | some env5 =>
          rw [eb] at f3
          refine bindT_of E4 q4 eb fun σ5 E5 hw => ⟨by rw [hw vs hT, show wipe (wipe σ vs) vs = wipe σ vs from by
            apply List.ext_getElem?
            intro j
            rw [wipe_at, wipe_length]
            by_cases hj : j ∈ vs
            · simp [hj, wipe_at]
            · simp [hj]], rho3, env5, hh3, R4, E5, ?_⟩
          simp only at f3
          cases et : t env5 hh3 with
          | stuck => rw [et] at f3; exact f3.elim
          | err x2 h5 => rw [et] at f3; exact f3.elim
          | ok k h5 =>
            rw [et, bind_ok] at f3
            intro rho6 H6 k' S6 R6 ek
            subst ek
            have S16 := S3.trans (S4.trans S6)
            have L4 := S4.keep L _ h3 ha3
            have L6 := S6.keep L _ L4 ha3
            have r6 := S6.kept L hr3
            have a6 : L ∉ rho6.at_ := S6.out L4 ha3
            have q6 := Dens.step R4 S6 _ _ (Dens.step R3 S4 _ _ q3)
            have E6 := (E3.step R3 S4).step R4 S6
            cases k with
            | false =>
              simp only [Bool.false_eq_true, if_false] at f3 ⊢
              exact ⟨rho6, h5, acc, av, S16, R6, E6, L6, r6, a6, Nat.le_succ_of_le hz3, q6, f3⟩
            | true =>
              simp only [if_true] at f3 ⊢
              refine ⟨rho6, env5, h5, R6, E5.step R4 S6, ?_⟩
              cases ee : e env5 h5 with
              | stuck => rw [ee] at f3; exact f3.elim
              | err x2 h7 => rw [ee] at f3; exact f3.elim
              | ok y2 h7 =>
                rw [ee, bind_ok] at f3
                intro rho8 H8 yv S8 R8 q8
                have L8 := S8.keep L _ L6 a6
                have r8 := S8.kept L r6
                have a8 : L ∉ rho8.at_ := S8.out L6 a6
                refine ⟨av, L8, by omega, rho8, h7, acc ++ [y2], av ++ [yv], (S16.trans S8).since hL, R8.putR L8 r8 a8, (E6.step R6 S8).putR L8 r8, upd_same, r8, a8, by simp; omega, ?_, ?_⟩
                · obtain ⟨ht, hl, hf⟩ := putR (G := G) (ys := av ++ [yv]) L8 r8
                  exact dens_same ht hl hf _ _ ((Dens.step R6 S8 _ _ q6).append ⟨yv, [], rfl, q8, rfl⟩)
                · cases ec : compL src.live T t e (wipeE env vs) (src.items.drop (i + 1)) h7 with
                  | stuck => rw [ec] at f3; exact f3.elim
                  | err x2 h9 => rw [ec] at f3; exact f3.elim
                  | ok ys h9 =>
                    rw [ec, bind_ok] at f3
                    intro rho' H' ws a b c d e' f g
                    exact f3 rho' H' ws a b c d e' f (by rw [List.append_assoc] at g; exact g)
      · exact f3.elim
    · have ei : i = src.items.length := by omega
      subst ei
      rw [List.drop_length] at f3
      unfold compL at f3
      split at f3
      · rename_i hg3
        obtain ⟨w1, w2, w3⟩ := wk rho3 hh3 H3 S3 R3 hg3
        exact .inl ⟨w2, f3 rho3 H3 av S3 R3 h3 hr3 ha3 (by omega) (by rw [List.append_nil]; exact q3)⟩
      · exact f3.elim
variable {elt tg iter : Expr} {ifs : List Expr} {scope : Scope} {own : List (Str × Nat)} {pos : Pos} {mi : MI} {T : Tg} {t : MT} {e : ME}
/-- [elt for tg in iter if ..] -/
theorem dl_comp (hc : X.calm = true) (hN : X.N.Nodup) (hi : DI X tg iter mi) (ok : BlkOk X.N X.env.scope scope own)
    (hg : ∀ (s : Shared) (H : Hp) (C : Addr) (cl : List (Str × Addr)) (fp : List Addr), DTg (X.blk s H scope (compEnvC scope cl C X.env) fp) tg T) (ht : ∀ (s : Shared) (H : Hp) (C : Addr) (cl : List (Str × Addr)) (fp : List Addr), DTs (X.blk s H scope (compEnvC scope cl C X.env) fp) ifs t)
    (he : ∀ (s : Shared) (H : Hp) (C : Addr) (cl : List (Str × Addr)) (fp : List Addr), DE (X.blk s H scope (compEnvC scope cl C X.env) fp) elt e) (hT : ∀ i ∈ T.slots, i ∈ own.map (·.2) := by decide) (hs : ∀ x, foldedSetIterable iter X.env x = pure x := by intro _; rfl) :
    DL X (.ListComp elt [⟨tg, iter, ifs, 0⟩] scope pos) (aComp mi T t e (own.map (·.2))) :=
  ⟨fun W tk => pe_weak (pe_lc hc hN (hi.run W tk) ok (fun s H C cl fp => (hg s H C cl fp).run) (fun s H C cl fp => (ht s H C cl fp).run WF takes0) (fun s H C cl fp => (he s H C cl fp).run WF takes0) hs) fun σ H Q h => lc_of hT h⟩
theorem asg_of {G : Gm} {W : WX} {m : ME} {i : Nat} {De : Ends} {σ : L2.St} {H : Hp} (h : TDs G W (sAsg m (gName i)) De σ H) : TD G W m σ H fun x H1 => L2.gName i x σ H1 De.nx :=
  st_of h fun rho env hh H1 d v R E q p => p rho H1 _ .refl R (E.set q)
variable {i : Nat} {y : Str} {py spos : Pos}
/-- name = [..] on one line -/
theorem ds_setComp {m : ME} (hm : ∀ {G : Gm} {W : WX} {σ : L2.St} {H : Hp} {Q : VK}, TD G W m σ H Q → TDl G W (aComp mi T t e (own.map (·.2))) σ H Q) (hc : X.calm = true) (hN : X.N.Nodup) (hy : X.N[i]? = some y) (hyl : X.env.scope.names.lookup y = some .local)
    (hsw : swapsWith (.ListComp elt [⟨tg, iter, ifs, 0⟩] scope pos) (some (.Name y py)) spos.line X.env = pure true) (hi : DI X tg iter mi) (ok : BlkOk X.N X.env.scope scope own)
    (hg : ∀ (s : Shared) (H : Hp) (C : Addr) (cl : List (Str × Addr)) (fp : List Addr), DTg (X.blk s H scope (compEnvC scope cl C X.env) fp) tg T) (ht : ∀ (s : Shared) (H : Hp) (C : Addr) (cl : List (Str × Addr)) (fp : List Addr), DTs (X.blk s H scope (compEnvC scope cl C X.env) fp) ifs t)
    (he : ∀ (s : Shared) (H : Hp) (C : Addr) (cl : List (Str × Addr)) (fp : List Addr), DE (X.blk s H scope (compEnvC scope cl C X.env) fp) elt e) (hT : ∀ i ∈ T.slots, i ∈ own.map (·.2) := by decide) (hs : ∀ x, foldedSetIterable iter X.env x = pure x := by intro _; rfl) :
    DS X (.Assign [.Name y py] (.ListComp elt [⟨tg, iter, ifs, 0⟩] scope pos) spos) (sAsg m (gName i)) :=
  ⟨fun W tk => ps_weak (ps_setLc hc hN hy hyl hsw (hi.run W tk) ok (fun s H C cl fp => (hg s H C cl fp).run) (fun s H C cl fp => (ht s H C cl fp).run WF takes0) (fun s H C cl fp => (he s H C cl fp).run WF takes0) hs) fun De σ H h => lc_of hT (hm (asg_of h))⟩
end
end MR

set_option maxHeartbeats 1000000
/-! F6: what is walked: sequences, ranges, enumerate, zip. -/
namespace MR
open PySem PySem.Spec PyProof.Rows L2

/-! ### a kind of sequence -/
structure SeqK (P : Program) (w : World) (K : PySem.W.Frag) (Sq : Hp → Addr → List V → Prop) (IsIt : Heap → Addr → Addr → Nat → Prop) (IsSq : Heap → Addr → Array Value → Prop) (io : Addr → Obj) : Prop where
  beg : ∀ a items, Begins (.ref a) (io a) (fun h => IsSq h a items)
  it0 : ∀ (h : Heap) it a, h.get? it = some (io a) → IsIt h it a 0
  at_ : ∀ (h h' : Heap) it a i, IsIt h it a i → (∀ o, h.get? it = some o → h'.get? it = some o) → IsIt h' it a i
  obj : ∀ (h : Heap) it a i, IsIt h it a i → ∃ o, h.get? it = some o ∧ ∀ v, o.data ≠ .cell v
  draws : ∀ (A : Around) it a (items : Array Value), A.handled = none → a ≠ it → Draws P w A it [it, a] items.size (fun i v => items[i]? = some v) (fun i h => IsIt h it a i ∧ IsSq h a items)
  inv : ∀ (X : Cx) pins σ H s a xs, X.prog = P → X.w = w → X.K = K → Inv X pins σ H s → Sq H a xs → ∃ its : List Value, Vals xs its ∧ IsSq s.heap a its.toArray ∧ a < s.heap.objs.size
  inj : ∀ (X : Cx) pins σ H s a xs ys, X.K = K → Inv X pins σ H s → Sq H a xs → Sq H a ys → xs = ys
theorem seqK_list (P : Program) (w : World) (K : PySem.W.Frag) : SeqK P w K (SqL K) (fun h it a i => h.IsListIter it a i) (fun h a items => h.IsList a items) (fun a => { cls := .type "list_iterator", data := .fields #[.ref a, .int 0 0] }) where
  beg := begins_list
  it0 := fun h it a e => ⟨_, e, rfl, rfl⟩
  at_ := fun h h' it a i x k => x.at k
  obj := fun h it a i ⟨o, ho, _, hd⟩ => ⟨o, ho, fun v q => by rw [hd] at q; cases q⟩
  draws := fun A it a items hh ne => Draws.list hh it a ne items
  inv := fun X pins σ H s a xs hP hw hK I q => by
    subst hP hw hK
    obtain ⟨its, r, p, _⟩ := I.list q
    exact ⟨its, r, p.isList, p.lt⟩
  inj := fun X pins σ H s a xs ys hK I q q' => by subst hK; exact I.list_inj q q'
theorem seqK_tup (P : Program) (w : World) (K : PySem.W.Frag) : SeqK P w K (SqT K) (fun h it a i => h.IsTupleIter it a i) (fun h a items => h.IsTuple a items) (fun a => { cls := .type "tuple_iterator", data := .fields #[.ref a, .int 0 0] }) where
  beg := begins_tuple
  it0 := fun h it a e => ⟨_, e, rfl, rfl⟩
  at_ := fun h h' it a i x k => x.at k
  obj := fun h it a i ⟨o, ho, _, hd⟩ => ⟨o, ho, fun v q => by rw [hd] at q; cases q⟩
  draws := fun A it a items hh ne => Draws.tuple hh it a ne items
  inv := fun X pins σ H s a xs hP hw hK I q => by
    subst hP hw hK
    obtain ⟨its, r, p, _⟩ := I.tuple q
    obtain ⟨o, ho, _⟩ := id p
    exact ⟨its, r, p, Heap.lt_size ho⟩
  inj := fun X pins σ H s a xs ys hK I q q' => by subst hK; exact I.tuple_inj q q'

/-! ### enumerate -/
def IteK (Sq : Hp → Addr → List V → Prop) (a : Addr) : It :=
  ⟨fun i H => ∃ (xs : List V) (x : V), Sq H a xs ∧ xs[i]? = some x, fun i H v H' => ∃ T x, v = .ref T ∧ H T = none ∧ H' = upd H T (.tup [.int (i : Nat), x]) ∧ ∀ xs, Sq H a xs → xs[i]? = some x, fun i H => ∃ xs : List V, Sq H a xs ∧ xs.length = i⟩
theorem turn_enumK {P : Program} {w : World} {K : PySem.W.Frag} {Sq : Hp → Addr → List V → Prop} {IsIt : Heap → Addr → Addr → Nat → Prop} {IsSq : Heap → Addr → Array Value → Prop} {io : Addr → Obj} (S : SeqK P w K Sq IsIt IsSq io)
    {elts : List Expr} {kk : Nat} {tpos : Pos} (a e it : Addr) :
    Turn P w K (.Tuple elts kk tpos) (IteK Sq a) [e, it] e (fun i h => (∃ old, IsEnum h e it ((i : Nat) : Int) old) ∧ IsIt h it a i ∧ e ≠ it ∧ a ≠ it ∧ a ≠ e) where
  mem := by simp
  obj := fun i h st b hb => by
    obtain ⟨⟨old, he⟩, hi, _⟩ := st
    have e' : b = e ∨ b = it := by simpa using hb
    rcases e' with z | z
    · rw [z]; exact ⟨_, he, fun v q => nomatch q⟩
    · rw [z]; exact S.obj _ _ _ _ hi
  keep := fun i h h' st k => let ⟨⟨old, he⟩, hi, hne⟩ := st; ⟨⟨old, k e (by simp) _ he⟩, S.at_ _ _ _ _ _ hi fun o q => k it (by simp) o q, hne⟩
  item := by
    intro X hP hw hK hc i pins s σ H E I hf st hg
    obtain ⟨⟨old, he⟩, hit, hne, hai, hae⟩ := st
    obtain ⟨xs, x, hq, hx⟩ := hg
    obtain ⟨its, rv, p, hz⟩ := S.inv X pins σ H s a xs hP hw hK I hq
    have hn := rv.length
    have hi : i < its.toArray.size := by have := (List.getElem?_eq_some_iff.mp hx).1; simp; omega
    have hh : X.A.in1.handled = none := I.ok.hd hc
    have D := S.draws X.A.in1 it a its.toArray hh hai
    have Gn := GoesN.enumFrom (elts := elts) (x1 := kk) (pos := tpos) 0 D e hne (by simp [hne, Ne.symm hae]) (by simp)
    refine Gn.goes i s _ E hi ⟨⟨old, by rw [Int.zero_add]; exact he⟩, hit, p⟩ fun v h' tk hY hSt hk htk => ?_
    obtain ⟨T, t, y, rfl, hT, hy, hTup⟩ := hY
    rw [Int.zero_add] at hTup
    obtain ⟨⟨old', he'⟩, hit', _⟩ := hSt
    rw [Int.zero_add] at he'
    obtain ⟨u, hu, ru⟩ := rv.get hx
    have ey : y = u := by
      have : its.toArray[i]? = some u := by simpa using hu
      rw [this] at hy; exact (Option.some.inj hy).symm
    subst ey
    have el : e < s.heap.objs.size := Heap.lt_size he
    have il : it < s.heap.objs.size := by obtain ⟨o, q, _⟩ := S.obj _ _ _ _ hit; exact Heap.lt_size q
    have new : ObjOk X.prog X.w (upd H T (.tup [.int (i : Nat), x])) h' T (.tup [.int (i : Nat), x]) :=
      ⟨by show 2 ≤ sizeLine; decide, [.int i t, y], .cons ⟨_, rfl⟩ (.cons ru .nil), hTup⟩
    have I1 : Inv X pins σ (upd H T (.tup [.int (i : Nat), x])) { s with heap := h', toks := tk } :=
      I.turnedNew (ch := [e, it]) (fun b ob hb q => hk b ob (fun z => hb z) q) hf hT new
    refine ⟨.ref T, _, I1, rfl, ⟨T, x, rfl, I.hok.fresh hT, rfl, fun ys hy => by rw [S.inj X pins σ H s a ys xs hK I hy hq]; exact hx⟩, ⟨⟨old', he'⟩, hit', hne, hai, hae⟩, fun b hb => ?_⟩
    have hb' : b < s.heap.objs.size := by
      have e' : b = e ∨ b = it := by simpa using hb
      rcases e' with z | z
      · rw [z]; exact el
      · rw [z]; exact il
    rw [upd_ne (Nat.ne_of_lt (Nat.lt_of_lt_of_le hb' hT))]
    exact (hf b hb).1
  done := by
    intro X hP hw hK hc i pins s σ H E I hf st hg
    obtain ⟨⟨old, he⟩, hit, hne, hai, hae⟩ := st
    obtain ⟨xs, hq, hx⟩ := hg
    obtain ⟨its, rv, p, hz⟩ := S.inv X pins σ H s a xs hP hw hK I hq
    have hn := rv.length
    have ei : i = its.toArray.size := by simp; omega
    subst ei
    have hh : X.A.in1.handled = none := I.ok.hd hc
    have D := S.draws X.A.in1 it a its.toArray hh hai
    have Gn := GoesN.enumFrom (elts := elts) (x1 := kk) (pos := tpos) 0 D e hne (by simp [hne, Ne.symm hae]) (by simp)
    exact Gn.stops s (fun s1 => Inv X pins σ H s1) E ⟨⟨old, by rw [Int.zero_add]; exact he⟩, hit, p⟩ fun h' tk hk htk => I.turnedL (ch := [e, it]) (fun b ob hb q => hk b ob hb q) hf
  self := fun A i s Q E st h => let ⟨⟨_, he⟩, _⟩ := st; wpAny_pyIter_enum he h
set_option maxHeartbeats 2000000 in
theorem meets_enum1 {v : Value} {o : Obj} {H : Heap → Prop} (B : Begins v o H) :
    Meets (Builtin.«enumerate.__new__» ⟨[.type "enumerate", v], []⟩) (fun _ R s => H s.heap ∧
      R (.ok (.ret (.ref (s.heap.push o).objs.size))) { s with heap := (s.heap.push o).push { cls := .type "enumerate", data := .fields #[.none, .bool false, .ref s.heap.objs.size, rawInt 0, .none, .none] } }) :=
  .of_wp fun prog w A R s h => by
    obtain ⟨hp, g, d, tk, os⟩ := s; obtain ⟨h1, h⟩ := h
    have hsub := sub_enumerate
    have q1 : ∀ {A' : Around} {E : Value → Shared → Prop} {Q : Value → Shared → Prop}, Q (.ref hp.objs.size) ⟨hp.push o, g, d, tk, os⟩ → wpAny (model prog w) A' (pyIter v) Q E ⟨hp, g, d, tk, os⟩ :=
      fun q => B.iter prog w _ _ ⟨hp, g, d, tk, os⟩ _ h1 q
    wp_walk using q1
    refine wpAny_stack_any fun st => wpAny_pure ?_
    split
    · rename_i c _ _ _ _ _
      cases (c == Value.type "enumerate")
      · wp_walk using q1
        exact ⟨_, rfl, h⟩
      · wp_walk using q1
        exact ⟨_, rfl, h⟩
    · wp_walk using q1
      exact ⟨_, rfl, h⟩
theorem enum1_begins {prog : Program} {w : World} {A : Around} {E : Value → Shared → Prop} {s : Shared} {v : Value} {o : Obj} {H : Heap → Prop} {Q : Value → Shared → Prop} (B : Begins v o H) (h1 : H s.heap)
    (h : ∀ h', IsEnum h' (s.heap.objs.size + 1) s.heap.objs.size 0 .none → h'.get? s.heap.objs.size = some o → h'.objs.size = s.heap.objs.size + 2 →
      (∀ b o, s.heap.get? b = some o → h'.get? b = some o) → Q (.ref (s.heap.objs.size + 1)) { s with heap := h' }) :
    wpAny (model prog w) A (call (.type "enumerate") [v]) Q E s := by
  refine callType_new F.called_enumerate (by decide) (F.typeCall_enumerate_1 _) (F.newCall_enumerate_1 _) (fun obj => F.args_object_init_2 obj _) F.entry_enumerate_new
    (meets_enum1 B) ⟨h1, ?_⟩
  have hz : (s.heap.push o).objs.size = s.heap.objs.size + 1 := Heap.size_push ..
  show _ ∧ _
  rw [hz]
  have he : IsEnum ((s.heap.push o).push { cls := .type "enumerate", data := .fields #[.none, .bool false, .ref s.heap.objs.size, rawInt 0, .none, .none] }) (s.heap.objs.size + 1) s.heap.objs.size 0 .none := by
    have := Heap.get?_push_size (s.heap.push o) (o := { cls := .type "enumerate", data := .fields #[.none, .bool false, .ref s.heap.objs.size, rawInt 0, .none, .none] }) rfl
    rw [hz] at this; exact this
  refine ⟨⟨_, he, rfl⟩, h _ he (Heap.get?_push_of_some _ (Heap.get?_push_size _ B.free)) (by rw [Heap.size_push, hz]) fun b o x => Heap.get?_push_of_some _ (Heap.get?_push_of_some _ x)⟩
theorem enum_go {X : Cx} {Sq : Hp → Addr → List V → Prop} {IsIt : Heap → Addr → Addr → Nat → Prop} {IsSq : Heap → Addr → Array Value → Prop} {io : Addr → Obj} (S : SeqK X.prog X.w X.K Sq IsIt IsSq io) {pins : List (Addr × Obj)} {σ : L2.St} {H1 : Hp} {s1 : Shared} {a : Addr} {xs : List V} {R : It → Hp → Prop} {elts : List Expr} {kk : Nat} {tpos : Pos}
    (I1 : Inv X pins σ H1 s1) (hq : Sq H1 a xs) (q : R (IteK Sq a) H1) : wpAny (model X.prog X.w) X.A (call (.type "enumerate") [.ref a]) (fun v s2 => wpAny (model X.prog X.w) X.A (pyIter v) (PIE X pins σ (.Tuple elts kk tpos) R) X.xe s2) X.xe s1 := by
  obtain ⟨its, rv, p, hz⟩ := S.inv X pins σ H1 s1 a xs rfl rfl rfl I1 hq
  refine enum1_begins (S.beg a its.toArray) p fun h' he hit hsz hk => wpAny_pyIter_enum he ?_
  have I2 : Inv X pins σ H1 { s1 with heap := h' } := I1.kept (t' := s1.toks) hk
  refine ⟨s1.heap.objs.size + 1, [s1.heap.objs.size + 1, s1.heap.objs.size], _, _, H1, rfl, I2, turn_enumK S a (s1.heap.objs.size + 1) s1.heap.objs.size, ⟨⟨.none, he⟩, S.it0 _ _ _ hit, Nat.succ_ne_self _, Nat.ne_of_lt hz, Nat.ne_of_lt (Nat.lt_succ_of_lt hz)⟩, fun b hb => ?_, q⟩
  have e' : b = s1.heap.objs.size + 1 ∨ b = s1.heap.objs.size := by simpa using hb
  have hle : s1.heap.objs.size ≤ b := by
    rcases e' with z | z
    · rw [z]; exact Nat.le_add_right _ _
    · rw [z]; exact Nat.le_refl _
  exact I1.fpOk hle (I1.hok.fresh hle)
/-- enumerate of a list or a tuple -/
def iEnumK (K : PySem.W.Frag) (ta : TA) : TI := fun σ H R => ta σ H fun vs H1 => ∃ a, vs = [.ref a] ∧ ((∃ xs, SqL K H1 a xs ∧ R (IteK (SqL K) a) H1) ∨ (∃ xs, SqT K H1 a xs ∧ R (IteK (SqT K) a) H1))
theorem pi_enumK {X : Cx} {e : Expr} {ta : TA} {p pos tpos : Pos} {elts : List Expr} {kk : Nat} (hg : Gl X "enumerate") (hm : X.mg "enumerate" = none) (ha : PA X [e] ta) (hs : starEach [e] X.env = [(false, eval e X.env)] := by rfl) :
    PI X (.Tuple elts kk tpos) (.Call (.Name "enumerate" p) [e] [] pos) (iEnumK X.K ta) := by
  refine ⟨fun pins s σ H R I h => ?_⟩
  refine Call_ (ld_blt I hg hm boot_enumerate (PyProof.Rows.callWith_type1 (thn (ha.run pos pins s σ H _ I h) fun us s1 ⟨vs, H1, I1, r1, q1⟩ => ?_) hs rfl))
  obtain ⟨a, ex, q1⟩ := q1
  subst ex
  cases r1 with
  | cons r rr =>
    cases rr
    cases r
    rcases q1 with ⟨xs, hq, q⟩ | ⟨xs, hq, q⟩
    · exact enum_go (seqK_list X.prog X.w X.K) I1 hq q
    · exact enum_go (seqK_tup X.prog X.w X.K) I1 hq q

/-! ### zip -/
def ItzK (Sq Sq2 : Hp → Addr → List V → Prop) (a b : Addr) : It :=
  ⟨fun i H => ∃ (xs ys : List V) (x y : V), Sq H a xs ∧ Sq2 H b ys ∧ xs[i]? = some x ∧ ys[i]? = some y,
    fun i H v H' => ∃ T x y, v = .ref T ∧ H T = none ∧ H' = upd H T (.tup [x, y]) ∧ (∀ xs, Sq H a xs → xs[i]? = some x) ∧ ∀ ys, Sq2 H b ys → ys[i]? = some y,
    fun i H => ∃ xs ys : List V, Sq H a xs ∧ Sq2 H b ys ∧ min xs.length ys.length = i⟩
theorem turn_zipK {P : Program} {w : World} {K : PySem.W.Frag} {Sq Sq2 : Hp → Addr → List V → Prop} {IsIt IsIt2 : Heap → Addr → Addr → Nat → Prop} {IsSq IsSq2 : Heap → Addr → Array Value → Prop} {io io2 : Addr → Obj}
    (S : SeqK P w K Sq IsIt IsSq io) (S2 : SeqK P w K Sq2 IsIt2 IsSq2 io2) {elts : List Expr} {kk : Nat} {tpos : Pos} {a b z TI TO i1 i2 : Addr} (Z : ZipSep2 z TI TO i1 i2 [i1, a] [i2, b]) (n1 : a ≠ i1) (n2 : b ≠ i2) :
    Turn P w K (.Tuple elts kk tpos) (ItzK Sq Sq2 a b) [z, TI, TO, i1, i2] z (fun i h => IsZip h z TI TO .none ∧ IsTupOf2 h TI (.ref i1) (.ref i2) ∧ (∃ x y, IsTupOf2 h TO x y) ∧ IsIt h i1 a i ∧ IsIt2 h i2 b i) where
  mem := by simp
  obj := fun i h st c hc => by
    obtain ⟨hz, hTI, ⟨x, y, hTO⟩, h1, h2⟩ := st
    have e' : c = z ∨ c = TI ∨ c = TO ∨ c = i1 ∨ c = i2 := by simpa using hc
    rcases e' with q | q | q | q | q
    · rw [q]; exact ⟨_, hz, fun v q => nomatch q⟩
    · rw [q]; exact ⟨_, hTI, fun v q => nomatch q⟩
    · rw [q]; exact ⟨_, hTO, fun v q => nomatch q⟩
    · rw [q]; exact S.obj _ _ _ _ h1
    · rw [q]; exact S2.obj _ _ _ _ h2
  keep := fun i h h' st k => by
    obtain ⟨hz, hTI, ⟨x, y, hTO⟩, h1, h2⟩ := st
    exact ⟨k z (by simp) _ hz, k TI (by simp) _ hTI, ⟨x, y, k TO (by simp) _ hTO⟩, S.at_ _ _ _ _ _ h1 fun o q => k i1 (by simp) o q, S2.at_ _ _ _ _ _ h2 fun o q => k i2 (by simp) o q⟩
  item := by
    intro X hP hw hK hc i pins s σ H E I hf st hg
    obtain ⟨hz, hTI, ⟨x0, y0, hTO⟩, h1, h2⟩ := st
    obtain ⟨xs, ys, x, y, hqx, hqy, hx, hy⟩ := hg
    obtain ⟨its, rv, p, _⟩ := S.inv X pins σ H s a xs hP hw hK I hqx
    obtain ⟨its2, rv2, p2, _⟩ := S2.inv X pins σ H s b ys hP hw hK I hqy
    have l1 := rv.length
    have l2 := rv2.length
    have hh : X.A.in1.handled = none := I.ok.hd hc
    have hi1 : i < its.toArray.size := by have := (List.getElem?_eq_some_iff.mp hx).1; simp; omega
    have hi2 : i < its2.toArray.size := by have := (List.getElem?_eq_some_iff.mp hy).1; simp; omega
    have Gn := GoesN.zip2 (elts := elts) (x1 := kk) (pos := tpos) Z (S.draws X.A.in1 i1 a its.toArray hh n1) (S2.draws X.A.in1 i2 b its2.toArray hh n2)
    refine Gn.goes i s _ E (by omega) ⟨hz, hTI, ⟨x0, y0, hTO⟩, ⟨h1, p⟩, ⟨h2, p2⟩⟩ fun v h' tk hY hSt hk htk => ?_
    obtain ⟨T, ux, uy, rfl, hT, hux, huy, hTup⟩ := hY
    obtain ⟨hz', hTI', hTO', ⟨h1', _⟩, ⟨h2', _⟩⟩ := hSt
    obtain ⟨u, hu, ru⟩ := rv.get hx
    obtain ⟨u2, hu2, ru2⟩ := rv2.get hy
    have e1 : ux = u := by
      have : its.toArray[i]? = some u := by simpa using hu
      rw [this] at hux; exact (Option.some.inj hux).symm
    have e2 : uy = u2 := by
      have : its2.toArray[i]? = some u2 := by simpa using hu2
      rw [this] at huy; exact (Option.some.inj huy).symm
    subst e1 e2
    have new : ObjOk X.prog X.w (upd H T (.tup [x, y])) h' T (.tup [x, y]) :=
      ⟨by show 2 ≤ sizeLine; decide, [ux, uy], .cons ru (.cons ru2 .nil), hTup⟩
    have I1 : Inv X pins σ (upd H T (.tup [x, y])) { s with heap := h', toks := tk } :=
      I.turnedNew (ch := [z, TO, i1, i2]) (fun c o hb q => hk c o (fun q' => hb q') q) (fun c hcm => hf c (by simp only [List.mem_cons, List.not_mem_nil, or_false] at hcm ⊢; rcases hcm with q | q | q | q <;> simp [q])) hT new
    refine ⟨.ref T, _, I1, rfl, ⟨T, x, y, rfl, I.hok.fresh hT, rfl, fun l hl => by rw [S.inj X pins σ H s a l xs hK I hl hqx]; exact hx, fun l hl => by rw [S2.inj X pins σ H s b l ys hK I hl hqy]; exact hy⟩, ⟨hz', hTI', hTO', h1', h2'⟩, fun c hcm => ?_⟩
    have hlt : c < s.heap.objs.size := by
      have e' : c = z ∨ c = TI ∨ c = TO ∨ c = i1 ∨ c = i2 := by simpa using hcm
      rcases e' with q | q | q | q | q
      · rw [q]; exact Heap.lt_size hz
      · rw [q]; exact Heap.lt_size hTI
      · rw [q]; exact Heap.lt_size hTO
      · rw [q]; obtain ⟨o, e1, _⟩ := S.obj _ _ _ _ h1; exact Heap.lt_size e1
      · rw [q]; obtain ⟨o, e2, _⟩ := S2.obj _ _ _ _ h2; exact Heap.lt_size e2
    rw [upd_ne (Nat.ne_of_lt (Nat.lt_of_lt_of_le hlt hT))]
    exact (hf c hcm).1
  done := by
    intro X hP hw hK hc i pins s σ H E I hf st hg
    obtain ⟨hz, hTI, ⟨x0, y0, hTO⟩, h1, h2⟩ := st
    obtain ⟨xs, ys, hqx, hqy, hend⟩ := hg
    obtain ⟨its, rv, p, _⟩ := S.inv X pins σ H s a xs hP hw hK I hqx
    obtain ⟨its2, rv2, p2, _⟩ := S2.inv X pins σ H s b ys hP hw hK I hqy
    have l1 := rv.length
    have l2 := rv2.length
    have hh : X.A.in1.handled = none := I.ok.hd hc
    have Gn := GoesN.zip2 (elts := elts) (x1 := kk) (pos := tpos) Z (S.draws X.A.in1 i1 a its.toArray hh n1) (S2.draws X.A.in1 i2 b its2.toArray hh n2)
    have ei : i = min its.toArray.size its2.toArray.size := by simp; omega
    subst ei
    exact Gn.stops s (fun s1 => Inv X pins σ H s1) E ⟨hz, hTI, ⟨x0, y0, hTO⟩, ⟨h1, p⟩, ⟨h2, p2⟩⟩ fun h' tk hk htk => I.turnedL (ch := [z, TO, i1, i2]) (fun c o hb q => hk c o hb q) (fun c hcm => hf c (by simp only [List.mem_cons, List.not_mem_nil, or_false] at hcm ⊢; rcases hcm with q | q | q | q <;> simp [q]))
  self := fun A i s Q E st h => wpAny_pyIter_zip st.1 h
theorem zip_go {X : Cx} {Sq Sq2 : Hp → Addr → List V → Prop} {IsIt IsIt2 : Heap → Addr → Addr → Nat → Prop} {IsSq IsSq2 : Heap → Addr → Array Value → Prop} {io io2 : Addr → Obj} (S : SeqK X.prog X.w X.K Sq IsIt IsSq io) (S2 : SeqK X.prog X.w X.K Sq2 IsIt2 IsSq2 io2)
    {pins : List (Addr × Obj)} {σ : L2.St} {H1 : Hp} {s1 : Shared} {a b : Addr} {xs ys : List V} {R : It → Hp → Prop} {elts : List Expr} {kk : Nat} {tpos : Pos}
    (I1 : Inv X pins σ H1 s1) (hq : Sq H1 a xs) (hq2 : Sq2 H1 b ys) (q : R (ItzK Sq Sq2 a b) H1) : wpAny (model X.prog X.w) X.A (call (.type "zip") [.ref a, .ref b]) (fun v s2 => wpAny (model X.prog X.w) X.A (pyIter v) (PIE X pins σ (.Tuple elts kk tpos) R) X.xe s2) X.xe s1 := by
  obtain ⟨its, rv, p, hz⟩ := S.inv X pins σ H1 s1 a xs rfl rfl rfl I1 hq
  obtain ⟨its2, rv2, p2, hz2⟩ := S2.inv X pins σ H1 s1 b ys rfl rfl rfl I1 hq2
  refine zip_begins2 (S.beg a its.toArray) (S2.beg b its2.toArray) p p2 fun h' hzz hTI hTO h1 h2 hsz hk => wpAny_pyIter_zip hzz ?_
  have I2 : Inv X pins σ H1 { s1 with heap := h' } := I1.kept (t' := s1.toks) hk
  have Z : ZipSep2 (s1.heap.objs.size + 4) (s1.heap.objs.size + 2) (s1.heap.objs.size + 3) s1.heap.objs.size (s1.heap.objs.size + 1) [s1.heap.objs.size, a] [s1.heap.objs.size + 1, b] := zip_sep2 (fp1 := [a]) (fp2 := [b]) (by simpa using hz) (by simpa using hz2)
  refine ⟨s1.heap.objs.size + 4, [s1.heap.objs.size + 4, s1.heap.objs.size + 2, s1.heap.objs.size + 3, s1.heap.objs.size, s1.heap.objs.size + 1], _, _, H1, rfl, I2, turn_zipK S S2 Z (Nat.ne_of_lt hz) (Nat.ne_of_lt (Nat.lt_succ_of_lt hz2)), ⟨hzz, hTI, ⟨_, _, hTO⟩, S.it0 _ _ _ h1, S2.it0 _ _ _ h2⟩, fun c hcm => ?_, q⟩
  have e' : c = s1.heap.objs.size + 4 ∨ c = s1.heap.objs.size + 2 ∨ c = s1.heap.objs.size + 3 ∨ c = s1.heap.objs.size ∨ c = s1.heap.objs.size + 1 := by simpa using hcm
  have hle : s1.heap.objs.size ≤ c := by
    rcases e' with z | z | z | z | z
    · rw [z]; exact Nat.le_add_right _ _
    · rw [z]; exact Nat.le_add_right _ _
    · rw [z]; exact Nat.le_add_right _ _
    · rw [z]; exact Nat.le_refl _
    · rw [z]; exact Nat.le_add_right _ _
  exact I1.fpOk hle (I1.hok.fresh hle)
/-- zip of two, each a list or a tuple -/
def iZipK (K : PySem.W.Frag) (ta : TA) : TI := fun σ H R => ta σ H fun vs H1 => ∃ a b, vs = [.ref a, .ref b] ∧ ((∃ xs ys, SqL K H1 a xs ∧ SqL K H1 b ys ∧ R (ItzK (SqL K) (SqL K) a b) H1) ∨ (∃ xs ys, SqL K H1 a xs ∧ SqT K H1 b ys ∧ R (ItzK (SqL K) (SqT K) a b) H1) ∨
  (∃ xs ys, SqT K H1 a xs ∧ SqL K H1 b ys ∧ R (ItzK (SqT K) (SqL K) a b) H1) ∨ (∃ xs ys, SqT K H1 a xs ∧ SqT K H1 b ys ∧ R (ItzK (SqT K) (SqT K) a b) H1))
theorem pi_zipK {X : Cx} {e e2 : Expr} {ta : TA} {p pos tpos : Pos} {elts : List Expr} {kk : Nat} (hg : Gl X "zip") (hm : X.mg "zip" = none) (ha : PA X [e, e2] ta)
    (hs : starEach [e, e2] X.env = (false, eval e X.env) :: starEach [e2] X.env := by rfl) (hpl : (backTo pos (starEach [e2] X.env)).any (·.1) = false := by rfl) :
    PI X (.Tuple elts kk tpos) (.Call (.Name "zip" p) [e, e2] [] pos) (iZipK X.K ta) := by
  refine ⟨fun pins s σ H R I h => ?_⟩
  refine Call_ (ld_blt I hg hm PyProof.Rows.boot_zip (PyProof.Rows.callWith_type1 (thn (ha.run pos pins s σ H _ I h) fun us s1 ⟨vs, H1, I1, r1, q1⟩ => ?_) hs hpl))
  obtain ⟨a, b, ex, q1⟩ := q1
  subst ex
  cases r1 with
  | cons r rr =>
    cases rr with
    | cons r' rr =>
      cases rr
      cases r
      cases r'
      rcases q1 with ⟨xs, ys, h1, h2, q⟩ | ⟨xs, ys, h1, h2, q⟩ | ⟨xs, ys, h1, h2, q⟩ | ⟨xs, ys, h1, h2, q⟩
      · exact zip_go (seqK_list ..) (seqK_list ..) I1 h1 h2 q
      · exact zip_go (seqK_list ..) (seqK_tup ..) I1 h1 h2 q
      · exact zip_go (seqK_tup ..) (seqK_list ..) I1 h1 h2 q
      · exact zip_go (seqK_tup ..) (seqK_tup ..) I1 h1 h2 q
end MR

/-! F7: what is walked, over data. -/
namespace MR
open PySem PySem.Spec PyProof.Rows L2

/-- what a value is walked as -/
def srcOf (d : D) (h : Hh) : Option Src := match d with
  | .tup ds => some ⟨ds, none⟩
  | .lst ds => some ⟨ds, none⟩
  | .scr ns => some ⟨ns.map D.int, none⟩
  | .ref i => match h[i]? with
    | some (.lst ds) => some ⟨ds, some (i, ds)⟩
    | _ => none
  | .str x => if x.cps.size ≤ sizeLine then some ⟨x.cps.toList.map fun c => .str ⟨#[c]⟩, none⟩ else none
  | _ => none
/-- a list or a tuple as it is read -/
def seqOf (d : D) (h : Hh) : Option Src := match d with
  | .str _ => none
  | d => srcOf d h

section
variable {G : Gm} {rho : Rm} {H : Hp} {hh : Hh}
/-- a sequence at an address, as long as it is as it was -/
def SeqAt (G : Gm) (rho1 : Rm) (H1 : Hp) (src : Src) (a : Addr) (Sq : Hp → Addr → List V → Prop) : Prop :=
  src.items.length ≤ sizeLine ∧ ∀ rho hh H, Step rho1 H1 rho H → Rep G rho hh H → gOk src.live hh → ∃ vs, Sq H a vs ∧ Dens G rho H src.items vs
theorem SeqAt.here {src : Src} {a : Addr} {Sq : Hp → Addr → List V → Prop} (x : SeqAt G rho H src a Sq) (R : Rep G rho hh H) (g : gOk src.live hh) : ∃ vs, Sq H a vs ∧ Dens G rho H src.items vs := x.2 rho hh H .refl R g
theorem srcOf_live {d : D} {src : Src} (h : srcOf d hh = some src) : gOk src.live hh := by
  intro i ds e
  cases d with
  | wtp ds => cases h
  | tup ds => cases h; cases e
  | lst ds => cases h; cases e
  | scr ns => cases h; cases e
  | ref j =>
    have h : (match hh[j]? with
      | some (O.lst ds) => some (⟨ds, some (j, ds)⟩ : Src)
      | _ => none) = some src := h
    split at h
    · rename_i ds2 e2
      cases h
      cases e
      exact e2
    · cases h
  | str x =>
    have h : (if x.cps.size ≤ sizeLine then some (⟨x.cps.toList.map fun c => .str ⟨#[c]⟩, none⟩ : Src) else none) = some src := h
    split at h
    · cases h; cases e
    · cases h
  | non => cases h
  | bl b => cases h
  | int i => cases h
  | glb u => cases h
theorem seqOf_srcOf {d : D} {src : Src} (h : seqOf d hh = some src) : srcOf d hh = some src := by
  cases d <;> first | exact h | cases h
theorem dens_ints (ns : List Int) : Dens G rho H (ns.map D.int) (ns.map V.int) := by
  induction ns with
  | nil => rfl
  | cons n ns ih => exact ⟨.int n, ns.map V.int, rfl, rfl, ih⟩
theorem seqAt_of {d : D} {v : V} {src : Src} (R : Rep G rho hh H) (q : Den G rho H d v) (h : seqOf d hh = some src) : ∃ a, v = .ref a ∧ (SeqAt G rho H src a (SqL G.K) ∨ SeqAt G rho H src a (SqT G.K)) := by
  cases d with
  | tup ds =>
    cases h
    rw [Den] at q
    obtain ⟨a, vs, rfl, hs, l, q⟩ := q
    have e := q.length
    exact ⟨a, rfl, .inr ⟨by show ds.length ≤ sizeLine; omega, fun rho2 hh2 H2 S R2 _ => ⟨vs, sqT_step R S hs.t, Dens.step R S _ _ q⟩⟩⟩
  | wtp ds => cases h
  | lst ds =>
    cases h
    rw [Den] at q
    obtain ⟨a, vs, rfl, hs, n, n2, l, q⟩ := q
    have e := q.length
    exact ⟨a, rfl, .inl ⟨by show ds.length ≤ sizeLine; omega, fun rho2 hh2 H2 S R2 _ => ⟨vs, .inl (.inl (S.keep a _ hs n)), Dens.step R S _ _ q⟩⟩⟩
  | scr ns =>
    cases h
    have q0 := q
    rw [Den] at q
    obtain ⟨a, rfl, hs, l⟩ := q
    refine ⟨a, rfl, .inl ⟨by simpa using l, fun rho2 hh2 H2 S R2 _ => ⟨ns.map V.int, ?_, ?_⟩⟩⟩
    · have q2 := Den.step R S _ _ q0
      rw [Den] at q2
      obtain ⟨a2, e2, hs2, _⟩ := q2
      cases e2
      rcases hs2 with ⟨o, hs2⟩ | hs2
      · exact .inl (.inr ⟨o, hs2⟩)
      · exact .inr hs2
    · exact dens_ints ns
  | ref i =>
    have h : (match hh[i]? with
      | some (O.lst ds) => some (⟨ds, some (i, ds)⟩ : Src)
      | _ => none) = some src := h
    split at h
    · rename_i ds e
      cases h
      rw [Den] at q
      obtain ⟨a, e1, rfl⟩ := q
      obtain ⟨vs, e2, l, q⟩ := R.ob i a _ e1 e
      have el := q.length
      refine ⟨a, rfl, .inl ⟨by show ds.length ≤ sizeLine; omega, fun rho2 hh2 H2 S R2 g => ?_⟩⟩
      obtain ⟨vs2, e3, l2, q2⟩ := R2.ob i a _ (S.get e1) (g i ds rfl)
      exact ⟨vs2, SqL.of e3, q2⟩
    · cases h
  | non => cases h
  | bl b => cases h
  | int i => cases h
  | str x => cases h
  | glb u => cases h
theorem walkD_seq {src : Src} {a : Addr} {Sq : Hp → Addr → List V → Prop} {J : It} (x : SeqAt G rho H src a Sq) (hw : ∀ xs, Walk J xs.length (fun H => Sq H a xs) (YAt xs)) : WalkD G rho H src J := by
  refine ⟨x.1, fun rho2 hh2 H2 S R2 g => ?_⟩
  obtain ⟨vs, hs, q⟩ := x.2 rho2 hh2 H2 S R2 g
  have w := hw vs
  have e := q.length
  refine ⟨fun i hi => w.goes i H2 (by omega) hs, by rw [e]; exact w.stops H2 hs, fun i d y H' hd hy => ?_⟩
  have hi : i < vs.length := by have := (List.getElem?_eq_some_iff.mp hd).1; omega
  obtain ⟨e1, e2⟩ := w.yields i H2 y H' hi hs hy
  subst e1
  obtain ⟨v, e3, q3⟩ := q.get hd
  rw [e3] at e2; cases e2
  exact ⟨.refl, R2, q3⟩
end

/-! ### a list, a tuple or a text, item by item -/
def iSeq (K : PySem.W.Frag) (tl : TE) : TI := fun σ H R => tl σ H fun x H1 => (∃ a, x = .ref a ∧ ((∃ xs, SqL K H1 a xs) ∧ R (Itl K a) H1 ∨ (∃ xs, SqT K H1 a xs) ∧ R (Itt K a) H1)) ∨ ∃ z, x = .str z ∧ R (Its z) H1
section
variable {X : Cx} {tg : Expr}
theorem pi_seq {l : Expr} {tl : TE} (hl : PE X l tl) : PI X tg l (iSeq X.K tl) := by
  refine ⟨fun pins s σ H R I h => ?_⟩
  refine thn (hl.run pins s σ H _ I h) fun v s1 ⟨x, H1, I1, r1, q1⟩ => ?_
  rcases q1 with ⟨a, e, q1⟩ | ⟨z, e, q1⟩
  · subst e
    cases r1
    rcases q1 with ⟨⟨xs, hq⟩, q⟩ | ⟨⟨xs, hq⟩, q⟩
    · obtain ⟨its, rv, p, hz⟩ := I1.list hq
      refine wpAny_pyIter_list p.isList ?_
      refine ⟨s1.heap.objs.size, [s1.heap.objs.size], _, _, H1, rfl, I1.kept (t' := s1.toks) fun b o e => Heap.get?_push_of_some _ e, turn_list a _, ⟨_, Heap.get?_push_size _ rfl, rfl, rfl⟩, fun b hb => ?_, q⟩
      have e : b = s1.heap.objs.size := by simpa using hb
      subst e
      exact I1.fpOk (Nat.le_refl _) (I1.hok.fresh (Nat.le_refl _))
    · obtain ⟨its, rv, p, hz⟩ := I1.tuple hq
      refine wpAny_pyIter_tuple (show s1.heap.IsTuple a its.toArray from p) ?_
      refine ⟨s1.heap.objs.size, [s1.heap.objs.size], _, _, H1, rfl, I1.kept (t' := s1.toks) fun b o e => Heap.get?_push_of_some _ e, turn_tuple a _, ⟨_, Heap.get?_push_size _ rfl, rfl, rfl⟩, fun b hb => ?_, q⟩
      have e : b = s1.heap.objs.size := by simpa using hb
      subst e
      exact I1.fpOk (Nat.le_refl _) (I1.hok.fresh (Nat.le_refl _))
  · subst e
    obtain ⟨t, rfl⟩ := r1
    cases ha : z.cps.all (· < 128)
    · exact wpAny_pyIter_wide ha (pi_one (tk := s1.toks) I1 _ (turn_str _ z t "str_iterator" (.inr rfl)) ⟨_, Heap.get?_push_size _ rfl, rfl, rfl⟩ q1)
    · exact wpAny_pyIter_ascii ha (pi_one (tk := s1.toks) I1 _ (turn_str _ z t "str_ascii_iterator" (.inl rfl)) ⟨_, Heap.get?_push_size _ rfl, rfl, rfl⟩ q1)
def iOf (m : ME) : MI := fun env h => (m env h).bind fun d h1 => lift (srcOf d h1) h1
theorem di_seq {l : Expr} {m : ME} (h : DE X l m) : DI X tg l (iOf m) :=
  ⟨fun W tk => pi_weak (pi_seq (h.run W tk)) fun σ H R q => tE_of (Rl := WalkD (Cx.gm X)) q fun rho env hh H1 d v Rp E qd p => by
    obtain ⟨src, es, pp⟩ := lift_post p
    clear p
    cases d with
    | str x =>
      have es : (if x.cps.size ≤ sizeLine then some (⟨x.cps.toList.map fun c => .str ⟨#[c]⟩, none⟩ : Src) else none) = some src := es
      split at es
      · rename_i hx
        cases es
        refine .inr ⟨x, qd, pp rho H1 _ .refl Rp ⟨by simpa using hx, fun rho2 hh2 H2 S R2 _ => ?_⟩⟩
        have w := walk_str (z := x)
        refine ⟨fun i hi => w.goes i H2 (by simpa using hi) True.intro, by simpa using w.stops H2 True.intro, fun i d y H' hd hy => ?_⟩
        have hi : i < x.cps.size := by have := (List.getElem?_eq_some_iff.mp hd).1; simpa using this
        obtain ⟨e1, c, ec, e2⟩ := w.yields i H2 y H' hi True.intro hy
        subst e1
        have ed : d = .str ⟨#[c]⟩ := by
          simp only [List.getElem?_map] at hd
          have : x.cps.toList[i]? = some c := by simpa using ec
          rw [this] at hd; exact (Option.some.inj hd).symm
        subst ed
        exact ⟨.refl, R2, e2⟩
      · cases es
    | tup ds =>
      obtain ⟨a, rfl, sq⟩ := seqAt_of Rp qd (src := src) es
      refine .inl ⟨a, rfl, ?_⟩
      rcases sq with sq | sq
      · obtain ⟨vs, h1, _⟩ := sq.here Rp (srcOf_live es)
        exact .inl ⟨⟨vs, h1⟩, pp rho H1 _ .refl Rp (walkD_seq sq fun xs => walk_list)⟩
      · obtain ⟨vs, h1, _⟩ := sq.here Rp (srcOf_live es)
        exact .inr ⟨⟨vs, h1⟩, pp rho H1 _ .refl Rp (walkD_seq sq fun xs => walk_tup)⟩
    | lst ds =>
      obtain ⟨a, rfl, sq⟩ := seqAt_of Rp qd (src := src) es
      refine .inl ⟨a, rfl, ?_⟩
      rcases sq with sq | sq
      · obtain ⟨vs, h1, _⟩ := sq.here Rp (srcOf_live es)
        exact .inl ⟨⟨vs, h1⟩, pp rho H1 _ .refl Rp (walkD_seq sq fun xs => walk_list)⟩
      · obtain ⟨vs, h1, _⟩ := sq.here Rp (srcOf_live es)
        exact .inr ⟨⟨vs, h1⟩, pp rho H1 _ .refl Rp (walkD_seq sq fun xs => walk_tup)⟩
    | scr ds =>
      obtain ⟨a, rfl, sq⟩ := seqAt_of Rp qd (src := src) es
      refine .inl ⟨a, rfl, ?_⟩
      rcases sq with sq | sq
      · obtain ⟨vs, h1, _⟩ := sq.here Rp (srcOf_live es)
        exact .inl ⟨⟨vs, h1⟩, pp rho H1 _ .refl Rp (walkD_seq sq fun xs => walk_list)⟩
      · obtain ⟨vs, h1, _⟩ := sq.here Rp (srcOf_live es)
        exact .inr ⟨⟨vs, h1⟩, pp rho H1 _ .refl Rp (walkD_seq sq fun xs => walk_tup)⟩
    | ref i =>
      obtain ⟨a, rfl, sq⟩ := seqAt_of Rp qd (src := src) es
      refine .inl ⟨a, rfl, ?_⟩
      rcases sq with sq | sq
      · obtain ⟨vs, h1, _⟩ := sq.here Rp (srcOf_live es)
        exact .inl ⟨⟨vs, h1⟩, pp rho H1 _ .refl Rp (walkD_seq sq fun xs => walk_list)⟩
      · obtain ⟨vs, h1, _⟩ := sq.here Rp (srcOf_live es)
        exact .inr ⟨⟨vs, h1⟩, pp rho H1 _ .refl Rp (walkD_seq sq fun xs => walk_tup)⟩
    | wtp ds => cases es
    | non => cases es
    | bl b => cases es
    | int i => cases es
    | glb u => cases es⟩

/-! ### range -/
def rangeD (lo hi : Int) : List D := (List.range (hi - lo).toNat).map fun i : Nat => D.int (lo + (i : Int))
def rng1 (ds : List D) (_ : Hh) : Option Src := match ds with
  | [.int j] => if -1000000 ≤ j ∧ j ≤ 1000000 then some ⟨rangeD 0 j, none⟩ else none
  | _ => none
def rng2 (ds : List D) (_ : Hh) : Option Src := match ds with
  | [.int i, .int j] => if (-1000000 ≤ i ∧ i ≤ 1000000) ∧ -1000000 ≤ j ∧ j ≤ 1000000 then some ⟨rangeD i j, none⟩ else none
  | _ => none
def iA (f : List D → Hh → Option Src) (ms : MA) : MI := fun env h => (ms env h).bind fun ds h1 => lift (f ds h1) h1
theorem walkD_range {G : Gm} {rho : Rm} {H : Hp} {lo : Int} {n : Nat} {hi : Int} (hn : n = (hi - lo).toNat) (hz : n ≤ sizeLine) : WalkD G rho H ⟨rangeD lo hi, none⟩ (Itr lo n) := by
  subst hn
  refine ⟨by simpa [rangeD] using hz, fun rho2 hh2 H2 S R2 _ => ?_⟩
  have w := walk_range (lo := lo) (n := (hi - lo).toNat)
  refine ⟨fun i h => w.goes i H2 (by simpa [rangeD] using h) True.intro, by simpa [rangeD] using w.stops H2 True.intro, fun i d y H' hd hy => ?_⟩
  have hi : i < (hi - lo).toNat := by have := (List.getElem?_eq_some_iff.mp hd).1; simpa [rangeD] using this
  obtain ⟨e1, e2⟩ := w.yields i H2 y H' hi True.intro hy
  subst e1 e2
  have ed : d = .int (lo + i) := by
    unfold rangeD at hd
    rw [List.getElem?_map, List.getElem?_range hi] at hd
    exact (Option.some.inj hd).symm
  subst ed
  exact ⟨.refl, R2, rfl⟩
theorem di_range1 {a : Expr} {ms : MA} {p pos : Pos} (hg : Gl X "range") (hm : X.mg "range" = none) (ha : DA X [a] ms) (hs : starEach [a] X.env = [(false, eval a X.env)] := by rfl) : DI X tg (.Call (.Name "range" p) [a] [] pos) (iA rng1 ms) :=
  ⟨fun W tk => pi_weak (pi_range1 hg hm (ha.run W tk) hs) fun σ H R q => tA_of (Rl := WalkD (Cx.gm X)) q fun rho env hh H1 ds vs Rp E qd p => by
    obtain ⟨src, es, p⟩ := lift_post p
    unfold rng1 at es
    split at es
    · rename_i j
      split at es
      · rename_i hj
        cases es
        rw [Dens] at qd
        obtain ⟨v, r, rfl, hv, hr⟩ := qd
        rw [Dens] at hr
        subst hr
        exact ⟨j, by rw [show v = .int j from hv], by omega, by omega, p rho H1 _ .refl Rp (walkD_range (by simp) (by rw [sizeLine_eq]; omega))⟩
      · cases es
    · cases es⟩
theorem di_range2 {a b : Expr} {ms : MA} {p pos : Pos} (hg : Gl X "range") (hm : X.mg "range" = none) (ha : DA X [a, b] ms) (hs : starEach [a, b] X.env = [(false, eval a X.env), (false, eval b X.env)] := by rfl) (hs2 : starEach [b] X.env = [(false, eval b X.env)] := by rfl) : DI X tg (.Call (.Name "range" p) [a, b] [] pos) (iA rng2 ms) :=
  ⟨fun W tk => pi_weak (pi_range2 hg hm (ha.run W tk) hs hs2) fun σ H R q => tA_of (Rl := WalkD (Cx.gm X)) q fun rho env hh H1 ds vs Rp E qd p => by
    obtain ⟨src, es, p⟩ := lift_post p
    unfold rng2 at es
    split at es
    · rename_i i j
      split at es
      · rename_i hj
        cases es
        simp only [Dens] at qd
        obtain ⟨v, r, rfl, hv, w, r2, rfl, hw, rfl⟩ := qd
        exact ⟨i, j, by rw [show v = .int i from hv, show w = .int j from hw], ⟨by omega, by omega, by omega, by omega⟩, p rho H1 _ .refl Rp (walkD_range rfl (by rw [sizeLine_eq]; omega))⟩
      · cases es
    · cases es⟩

/-! ### enumerate, zip -/
def enumD (ds : List D) : List D := ds.zipIdx.map fun p => D.wtp [.int (p.2 : Int), p.1]
def enm (ds : List D) (h : Hh) : Option Src := match ds with
  | [d] => (seqOf d h).map fun src => ⟨enumD src.items, src.live⟩
  | _ => none
def zipD (xs ys : List D) : List D := (xs.zip ys).map fun p => D.wtp [p.1, p.2]
def joinL (a b : Option (Nat × List D)) : Option (Option (Nat × List D)) := match a, b with
  | none, b => some b
  | a, none => some a
  | some _, some _ => none
def zp (ds : List D) (h : Hh) : Option Src := match ds with
  | [d, e] => match seqOf d h, seqOf e h with
    | some s1, some s2 => (joinL s1.live s2.live).map fun l => ⟨zipD s1.items s2.items, l⟩
    | _, _ => none
  | _ => none
theorem walkD_enum {G : Gm} {rho : Rm} {H : Hp} {src : Src} {a : Addr} {Sq : Hp → Addr → List V → Prop} (x : SeqAt G rho H src a Sq) : WalkD G rho H ⟨enumD src.items, src.live⟩ (IteK Sq a) := by
  refine ⟨by simpa [enumD] using x.1, fun rho2 hh2 H2 S R2 g => ?_⟩
  obtain ⟨vs, hs, q⟩ := x.2 rho2 hh2 H2 S R2 g
  have e := q.length
  refine ⟨fun i hi => ?_, ⟨vs, hs, by simp [enumD, e]⟩, fun i d y H' hd hy => ?_⟩
  · have hi' : i < vs.length := by simpa [enumD, e] using hi
    exact ⟨vs, vs[i], hs, List.getElem?_eq_getElem hi'⟩
  · obtain ⟨T, v, rfl, hT, rfl, hv⟩ := hy
    have hi : i < src.items.length := by have := (List.getElem?_eq_some_iff.mp hd).1; simpa [enumD] using this
    have ed : d = .wtp [.int (i : Int), src.items[i]] := by
      unfold enumD at hd
      rw [List.getElem?_map, List.getElem?_zipIdx, List.getElem?_eq_getElem hi] at hd
      simpa using (Option.some.inj hd).symm
    subst ed
    obtain ⟨v2, e3, q3⟩ := q.get (List.getElem?_eq_getElem hi)
    rw [hv vs hs] at e3; cases e3
    exact ⟨.laid hT, R2.laid hT, Den.wtp_new R2 ⟨.int i, [v], rfl, rfl, v, [], rfl, q3, rfl⟩ (by show 2 ≤ sizeLine; decide) hT⟩
theorem joinL_ok {a b l : Option (Nat × List D)} {h : Hh} (e : joinL a b = some l) (g : gOk l h) : gOk a h ∧ gOk b h := by
  unfold joinL at e
  split at e
  · cases e; exact ⟨gOk_none, g⟩
  · cases e; exact ⟨g, gOk_none⟩
  · cases e
theorem walkD_zip {G : Gm} {rho : Rm} {H : Hp} {s1 s2 : Src} {a b : Addr} {Sq Sq2 : Hp → Addr → List V → Prop} {l : Option (Nat × List D)} (hl : joinL s1.live s2.live = some l) (x : SeqAt G rho H s1 a Sq) (x2 : SeqAt G rho H s2 b Sq2) : WalkD G rho H ⟨zipD s1.items s2.items, l⟩ (ItzK Sq Sq2 a b) := by
  refine ⟨by have := x.1; simp [zipD]; omega, fun rho2 hh2 H2 S R2 g => ?_⟩
  obtain ⟨g1, g2⟩ := joinL_ok hl g
  obtain ⟨vs, hs, q⟩ := x.2 rho2 hh2 H2 S R2 g1
  obtain ⟨ws, hs2, q2⟩ := x2.2 rho2 hh2 H2 S R2 g2
  have e := q.length
  have e2 := q2.length
  refine ⟨fun i hi => ?_, ⟨vs, ws, hs, hs2, by simp [zipD, e, e2]⟩, fun i d y H' hd hy => ?_⟩
  · have hi' : i < vs.length ∧ i < ws.length := by simp [zipD, e, e2] at hi; omega
    exact ⟨vs, ws, vs[i]'hi'.1, ws[i]'hi'.2, hs, hs2, List.getElem?_eq_getElem hi'.1, List.getElem?_eq_getElem hi'.2⟩
  · obtain ⟨T, v, w, rfl, hT, rfl, hv, hw⟩ := hy
    have hi : i < s1.items.length ∧ i < s2.items.length := by have := (List.getElem?_eq_some_iff.mp hd).1; simp [zipD] at this; omega
    have ed : d = .wtp [s1.items[i]'hi.1, s2.items[i]'hi.2] := by
      unfold zipD at hd
      have hz : (s1.items.zip s2.items)[i]? = some (s1.items[i]'hi.1, s2.items[i]'hi.2) := by
        rw [List.getElem?_zip_eq_some]
        exact ⟨List.getElem?_eq_getElem hi.1, List.getElem?_eq_getElem hi.2⟩
      rw [List.getElem?_map, hz] at hd
      simpa using (Option.some.inj hd).symm
    subst ed
    obtain ⟨v2, e3, q3⟩ := q.get (List.getElem?_eq_getElem hi.1)
    obtain ⟨w2, e4, q4⟩ := q2.get (List.getElem?_eq_getElem hi.2)
    rw [hv vs hs] at e3; cases e3
    rw [hw ws hs2] at e4; cases e4
    exact ⟨.laid hT, R2.laid hT, Den.wtp_new R2 ⟨v, [w], rfl, q3, w, [], rfl, q4, rfl⟩ (by show 2 ≤ sizeLine; decide) hT⟩
theorem di_enum {e : Expr} {ms : MA} {p pos tpos : Pos} {elts : List Expr} {kk : Nat} (hg : Gl X "enumerate") (hm : X.mg "enumerate" = none) (ha : DA X [e] ms) (hs : starEach [e] X.env = [(false, eval e X.env)] := by rfl) :
    DI X (.Tuple elts kk tpos) (.Call (.Name "enumerate" p) [e] [] pos) (iA enm ms) :=
  ⟨fun W tk => pi_weak (pi_enumK hg hm (ha.run W tk) hs) fun σ H R q => tA_of (Rl := WalkD (Cx.gm X)) q fun rho env hh H1 ds vs Rp E qd p => by
    obtain ⟨src, es, p⟩ := lift_post p
    unfold enm at es
    split at es
    · rename_i d
      obtain ⟨s0, e0, e1⟩ := Option.map_eq_some_iff.mp es
      subst e1
      rw [Dens] at qd
      obtain ⟨v, r, rfl, hv, hr⟩ := qd
      rw [Dens] at hr
      subst hr
      obtain ⟨a, rfl, sq⟩ := seqAt_of Rp hv e0
      have lv := srcOf_live (seqOf_srcOf e0)
      refine ⟨a, rfl, ?_⟩
      rcases sq with sq | sq
      · obtain ⟨ws, h1, _⟩ := sq.here Rp lv
        exact .inl ⟨ws, h1, p rho H1 _ .refl Rp (walkD_enum sq)⟩
      · obtain ⟨ws, h1, _⟩ := sq.here Rp lv
        exact .inr ⟨ws, h1, p rho H1 _ .refl Rp (walkD_enum sq)⟩
    · cases es⟩
theorem di_zip {e e2 : Expr} {ms : MA} {p pos tpos : Pos} {elts : List Expr} {kk : Nat} (hg : Gl X "zip") (hm : X.mg "zip" = none) (ha : DA X [e, e2] ms)
    (hs : starEach [e, e2] X.env = (false, eval e X.env) :: starEach [e2] X.env := by rfl) (hpl : (backTo pos (starEach [e2] X.env)).any (·.1) = false := by rfl) :
    DI X (.Tuple elts kk tpos) (.Call (.Name "zip" p) [e, e2] [] pos) (iA zp ms) :=
  ⟨fun W tk => pi_weak (pi_zipK hg hm (ha.run W tk) hs hpl) fun σ H R q => tA_of (Rl := WalkD (Cx.gm X)) q fun rho env hh H1 ds vs Rp E qd p => by
    obtain ⟨src, es, p⟩ := lift_post p
    unfold zp at es
    split at es
    · rename_i d d2
      split at es
      · rename_i s1 s2 e1 e2
        obtain ⟨l, e0, e3⟩ := Option.map_eq_some_iff.mp es
        subst e3
        simp only [Dens] at qd
        obtain ⟨v, r, rfl, hv, v2, r2, rfl, hv2, rfl⟩ := qd
        obtain ⟨a, rfl, sq⟩ := seqAt_of Rp hv e1
        obtain ⟨b, rfl, sq2⟩ := seqAt_of Rp hv2 e2
        have lv := srcOf_live (seqOf_srcOf e1)
        have lv2 := srcOf_live (seqOf_srcOf e2)
        refine ⟨a, b, rfl, ?_⟩
        rcases sq with sq | sq <;> rcases sq2 with sq2 | sq2 <;> obtain ⟨xs, h1, _⟩ := sq.here Rp lv <;> obtain ⟨ys, h2, _⟩ := sq2.here Rp lv2
        · exact .inl ⟨xs, ys, h1, h2, p rho H1 _ .refl Rp (walkD_zip e0 sq sq2)⟩
        · exact .inr (.inl ⟨xs, ys, h1, h2, p rho H1 _ .refl Rp (walkD_zip e0 sq sq2)⟩)
        · exact .inr (.inr (.inl ⟨xs, ys, h1, h2, p rho H1 _ .refl Rp (walkD_zip e0 sq sq2)⟩))
        · exact .inr (.inr (.inr ⟨xs, ys, h1, h2, p rho H1 _ .refl Rp (walkD_zip e0 sq sq2)⟩))
      · cases es
    · cases es⟩
end
end MR

/-! F8: what values do: numbers, comparisons, sequences. -/
namespace MR
open PySem PySem.Spec PyProof.Rows L2

theorem OpR.imp {X : Cx} {f : Value → Value → Sem Value} {r r' : R2} (h : OpR X f r) (i : ∀ x y H Q, r' x y H Q → r x y H Q) : OpR X f r' := fun pins s σ H x y v u Q I rx ry q => h pins s σ H x y v u Q I rx ry (i x y H Q q)
theorem CallR.or {X : Cx} {f : Value} {r r' : List V → Hp → VK → Prop} (h : CallR X f r) (h' : CallR X f r') : CallR X f (fun xs H Q => r xs H Q ∨ r' xs H Q) := fun pins s σ H xs us Q I rx q => by
  rcases q with q | q
  · exact h pins s σ H xs us Q I rx q
  · exact h' pins s σ H xs us Q I rx q

/-! ### data as it is compared -/
mutual
def toPy : D → Option PyData
  | .non => some PyData.none
  | .bl b => some (PyData.bool b)
  | .int i => some (PyData.int i)
  | .str x => some (PyData.str x)
  | .tup ds => (toPys ds).map PyData.tuple
  | .lst ds => (toPys ds).map PyData.list
  | .ref _ => none
  | .glb _ => none
  | .scr _ => none
  | .wtp _ => none
def toPys : List D → Option (List PyData)
  | [] => some []
  | d :: ds => match toPy d, toPys ds with
    | some p, some ps => some (p :: ps)
    | _, _ => none
end
def deref (d : D) (h : Hh) : D := match d with
  | .ref i => match h[i]? with
    | some (.lst ds) => .lst ds
    | _ => .ref i
  | d => d
def pyOf (d : D) (h : Hh) : Option PyData := match toPy (deref d h) with
  | some p => if SeqAt.shaped p = true then some p else none
  | none => none
section
variable {G : Gm} {rho : Rm} {H : Hp} {hh : Hh}
mutual
theorem dp_of : ∀ (d : D) (v : V) (p : PyData), Den G rho H d v → toPy d = some p → Dp G.K H v p
  | .non, v, p, h, e => by cases e; rw [show v = .non from h]; exact .non
  | .bl b, v, p, h, e => by cases e; rw [show v = .bl b from h]; exact .bl b
  | .int i, v, p, h, e => by cases e; rw [show v = .int i from h]; exact .int i
  | .str x, v, p, h, e => by cases e; rw [show v = .str x from h]; exact .str x
  | .tup ds, v, p, h, e => by
    rw [Den] at h
    obtain ⟨a, vs, rfl, q, l, ds'⟩ := h
    rw [toPy] at e
    obtain ⟨ps, e1, rfl⟩ := Option.map_eq_some_iff.mp e
    exact .tup q.t (dps_of ds vs ps ds' e1)
  | .wtp ds, v, p, h, e => by rw [toPy] at e; cases e
  | .lst ds, v, p, h, e => by
    rw [Den] at h
    obtain ⟨a, vs, rfl, q, _, _, l, ds'⟩ := h
    rw [toPy] at e
    obtain ⟨ps, e1, rfl⟩ := Option.map_eq_some_iff.mp e
    exact .lst (SqL.of q) (dps_of ds vs ps ds' e1)
  | .ref i, v, p, h, e => by rw [toPy] at e; cases e
  | .glb i, v, p, h, e => by rw [toPy] at e; cases e
  | .scr i, v, p, h, e => by rw [toPy] at e; cases e
theorem dps_of : ∀ (ds : List D) (vs : List V) (ps : List PyData), Dens G rho H ds vs → toPys ds = some ps → DpAll G.K H vs ps
  | [], vs, ps, h, e => by
    rw [Dens] at h; subst h
    rw [toPys] at e; cases e
    exact .nil
  | d :: ds, vs, ps, h, e => by
    rw [Dens] at h
    obtain ⟨v, r, rfl, a, b⟩ := h
    rw [toPys] at e
    cases e1 : toPy d with
    | none => rw [e1] at e; cases e
    | some p =>
      cases e2 : toPys ds with
      | none => rw [e1, e2] at e; cases e
      | some qs =>
        rw [e1, e2] at e; cases e
        exact .cons (dp_of d v p a e1) (dps_of ds r qs b e2)
end
theorem dp_deref {d : D} {v : V} {p : PyData} (R : Rep G rho hh H) (h : Den G rho H d v) (e : toPy (deref d hh) = some p) : Dp G.K H v p := by
  cases d with
  | ref i =>
    have e : toPy (match hh[i]? with
      | some (O.lst ds) => D.lst ds
      | _ => D.ref i) = some p := e
    split at e
    · rename_i ds e1
      rw [Den] at h
      obtain ⟨a, e2, rfl⟩ := h
      obtain ⟨vs, e3, l, q⟩ := R.ob i a _ e2 e1
      rw [toPy] at e
      obtain ⟨ps, e4, rfl⟩ := Option.map_eq_some_iff.mp e
      exact .lst (SqL.of e3) (dps_of ds vs ps q e4)
    · rw [toPy] at e; cases e
  | non => exact dp_of _ _ _ h e
  | bl b => exact dp_of _ _ _ h e
  | int b => exact dp_of _ _ _ h e
  | str b => exact dp_of _ _ _ h e
  | tup b => exact dp_of _ _ _ h e
  | lst b => exact dp_of _ _ _ h e
  | glb b => exact dp_of _ _ _ h e
  | scr b => exact dp_of _ _ _ h e
  | wtp b => exact dp_of _ _ _ h e
theorem pyOf_dp {d : D} {v : V} {p : PyData} (R : Rep G rho hh H) (h : Den G rho H d v) (e : pyOf d hh = some p) : Dp G.K H v p ∧ SeqAt.shaped p = true := by
  unfold pyOf at e
  split at e
  · rename_i q e1
    split at e
    · rename_i hs
      cases e
      exact ⟨dp_deref R h e1, hs⟩
    · cases e
  · cases e
end
def eqO : Op2 := fun a b h => match pyOf a h, pyOf b h with
  | some p, some q => some (.bl (PyData.eqv p q))
  | _, _ => none
def neO : Op2 := fun a b h => match pyOf a h, pyOf b h with
  | some p, some q => some (.bl (!PyData.eqv p q))
  | _, _ => none
section
variable {G : Gm}
theorem rz_eq : Rz2 G (rEqD G.K) eqO := fun rho hh H d1 d2 v1 v2 d Q R q1 q2 e k => by
  unfold eqO at e
  split at e
  · rename_i p q e1 e2
    cases e
    obtain ⟨a, b⟩ := pyOf_dp R q1 e1
    obtain ⟨a2, b2⟩ := pyOf_dp R q2 e2
    exact ⟨p, q, a, a2, b, b2, k _ H .refl R rfl⟩
  · cases e
theorem rz_ne : Rz2 G (rNeD G.K) neO := fun rho hh H d1 d2 v1 v2 d Q R q1 q2 e k => by
  unfold neO at e
  split at e
  · rename_i p q e1 e2
    cases e
    obtain ⟨a, b⟩ := pyOf_dp R q1 e1
    obtain ⟨a2, b2⟩ := pyOf_dp R q2 e2
    exact ⟨p, q, a, a2, b, b2, k _ H .refl R rfl⟩
  · cases e
/-- x in a list or a tuple of data -/
def rInDT (K : PySem.W.Frag) (neg : Bool) : R2 := fun x y H Q => ∃ d ds, Dp K H x d ∧ (Dp K H y (.list ds) ∧ SeqAt.shaped (.list ds) = true ∨ Dp K H y (.tuple ds) ∧ SeqAt.shaped (.tuple ds) = true) ∧ SeqAt.shaped d = true ∧ Q (.bl (if neg then !(ds.any fun z => PyData.eqv z d) else ds.any fun z => PyData.eqv z d)) H
theorem op_inDT {X : Cx} (hu : X.A.units + 65 < cLine) : OpR X (compareOp .In) (rInDT X.K false) := by
  intro pins s σ H x y v u Q I rx ry h
  obtain ⟨d, ds, hd, he, sd, q⟩ := h
  obtain ⟨as, r1⟩ := Dp.reads I d x v hd rx
  rcases he with ⟨he, se⟩ | ⟨he, se⟩
  · obtain ⟨bs, r2⟩ := Dp.reads I (.list ds) y u he ry
    exact SeqAt.in_list_reads r2 r1 (SeqAt.canLay_of_shaped se) (SeqAt.canLay_of_shaped sd) (room_in_shaped sd hu) ⟨.bl _, H, I, rfl, q⟩
  · obtain ⟨bs, r2⟩ := Dp.reads I (.tuple ds) y u he ry
    exact SeqAt.in_tuple_reads r2 r1 (SeqAt.canLay_of_shaped se) (SeqAt.canLay_of_shaped sd) (room_in_shaped sd hu) ⟨.bl _, H, I, rfl, q⟩
theorem op_notInDT {X : Cx} (hu : X.A.units + 65 < cLine) : OpR X (compareOp .NotIn) (rInDT X.K true) := by
  intro pins s σ H x y v u Q I rx ry h
  obtain ⟨d, ds, hd, he, sd, q⟩ := h
  obtain ⟨as, r1⟩ := Dp.reads I d x v hd rx
  rcases he with ⟨he, se⟩ | ⟨he, se⟩
  · obtain ⟨bs, r2⟩ := Dp.reads I (.list ds) y u he ry
    exact SeqAt.notIn_list_reads r2 r1 (SeqAt.canLay_of_shaped se) (SeqAt.canLay_of_shaped sd) (room_in_shaped sd hu) ⟨.bl _, H, I, rfl, q⟩
  · obtain ⟨bs, r2⟩ := Dp.reads I (.tuple ds) y u he ry
    exact SeqAt.notIn_tuple_reads r2 r1 (SeqAt.canLay_of_shaped se) (SeqAt.canLay_of_shaped sd) (room_in_shaped sd hu) ⟨.bl _, H, I, rfl, q⟩
def inO (neg : Bool) : Op2 := fun a b h => match pyOf a h, pyOf b h with
  | some d, some (.list ds) => some (.bl (if neg then !(ds.any fun z => PyData.eqv z d) else ds.any fun z => PyData.eqv z d))
  | some d, some (.tuple ds) => some (.bl (if neg then !(ds.any fun z => PyData.eqv z d) else ds.any fun z => PyData.eqv z d))
  | _, _ => none
theorem rz_in (neg : Bool) : Rz2 G (rInDT G.K neg) (inO neg) := fun rho hh H d1 d2 v1 v2 d Q R q1 q2 e k => by
  unfold inO at e
  split at e
  · rename_i p ds e1 e2
    cases e
    obtain ⟨a, b⟩ := pyOf_dp R q1 e1
    obtain ⟨a2, b2⟩ := pyOf_dp R q2 e2
    exact ⟨p, ds, a, .inl ⟨a2, b2⟩, b, k _ H .refl R rfl⟩
  · rename_i p ds e1 e2
    cases e
    obtain ⟨a, b⟩ := pyOf_dp R q1 e1
    obtain ⟨a2, b2⟩ := pyOf_dp R q2 e2
    exact ⟨p, ds, a, .inr ⟨a2, b2⟩, b, k _ H .refl R rfl⟩
  · cases e

/-! ### is None, is True -/
def isNO (neg : Bool) : Op2 := fun a b _ => match b with
  | .non => match a with
    | .non => some (.bl (!neg))
    | .glb _ => none
    | _ => some (.bl neg)
  | _ => none
theorem den_non {rho : Rm} {H : Hp} {d : D} {v : V} (q : Den G rho H d v) (hn : d ≠ .non) (hg : ∀ u, d ≠ .glb u) : v ≠ .non := by
  intro e
  subst e
  cases d with
  | non => exact hn rfl
  | bl b => cases q
  | int b => cases q
  | str b => cases q
  | tup b => rw [Den] at q; obtain ⟨a, vs, e, _⟩ := q; cases e
  | wtp b => rw [Den] at q; obtain ⟨a, vs, e, _⟩ := q; cases e
  | lst b => rw [Den] at q; obtain ⟨a, vs, e, _⟩ := q; cases e
  | ref b => rw [Den] at q; obtain ⟨a, _, e⟩ := q; cases e
  | glb b => exact hg b rfl
  | scr b => rw [Den] at q; obtain ⟨a, e, _⟩ := q; cases e
theorem rz_isN : Rz2 G (fun x y H Q => y = .non ∧ Q (.bl (decide (x = .non))) H) (isNO false) := fun rho hh H d1 d2 v1 v2 d Q R q1 q2 e k => by
  unfold isNO at e
  split at e
  · refine ⟨q2, ?_⟩
    split at e
    · cases e
      rw [show v1 = .non from q1]
      exact k _ H .refl R rfl
    · cases e
    · rename_i hn hg
      cases e
      rw [decide_eq_false (den_non q1 hn hg)]
      exact k _ H .refl R rfl
  · cases e
theorem rz_notN : Rz2 G (fun x y H Q => y = .non ∧ Q (.bl (!decide (x = .non))) H) (isNO true) := fun rho hh H d1 d2 v1 v2 d Q R q1 q2 e k => by
  unfold isNO at e
  split at e
  · refine ⟨q2, ?_⟩
    split at e
    · cases e
      rw [show v1 = .non from q1]
      exact k _ H .refl R rfl
    · cases e
    · rename_i hn hg
      cases e
      rw [decide_eq_false (den_non q1 hn hg)]
      exact k _ H .refl R rfl
  · cases e

/-! ### numbers -/
def i2 (g : Int → Int → Option D) : Op2 := fun a b _ => match a, b with
  | .int i, .int j => g i j
  | _, _ => none
theorem rz_i2 {C : Int → Int → Prop} {g : Int → Int → V} {f : Int → Int → Option D} (h : ∀ i j d, f i j = some d → C i j ∧ ∀ rho H, Den G rho H d (g i j)) : Rz2 G (rI C g) (i2 f) := fun rho hh H d1 d2 v1 v2 d Q R q1 q2 e k => by
  unfold i2 at e
  split at e
  · rename_i i j
    obtain ⟨c, z⟩ := h i j d e
    exact ⟨i, j, q1, q2, c, k _ H .refl R (z rho H)⟩
  · cases e
theorem rz_i20 {g : Int → Int → V} {f : Int → Int → Option D} (h : ∀ i j d, f i j = some d → ∀ rho H, Den G rho H d (g i j)) : Rz2 G (rI0 g) (i2 f) := fun rho hh H d1 d2 v1 v2 d Q R q1 q2 e k => by
  unfold i2 at e
  split at e
  · rename_i i j
    exact ⟨i, j, q1, q2, k _ H .refl R (h i j d e rho H)⟩
  · cases e
def subO : Op2 := i2 fun i j => some (.int (i - j))
def ltO : Op2 := i2 fun i j => some (.bl (decide (i < j)))
def leO : Op2 := i2 fun i j => some (.bl (decide (i ≤ j)))
def gtO : Op2 := i2 fun i j => some (.bl (decide (j < i)))
def geO : Op2 := i2 fun i j => some (.bl (decide (j ≤ i)))
def modO : Op2 := i2 fun i j => if 0 < j then some (.int (i % j)) else none
def fdivO : Op2 := i2 fun i j => if 0 < j ∧ j < 1073741824 then some (.int (i / j)) else none
def powO : Op2 := i2 fun i j => if 0 ≤ j ∧ j ≤ 1000000 ∧ i.natAbs < 18446744073709551616 then some (.int (i ^ j.toNat)) else none
theorem rz_sub : Rz2 G (rI0 fun i j => .int (i - j)) subO := rz_i20 fun i j d e => by cases e; intro rho H; rfl
theorem rz_lt : Rz2 G (rI0 fun i j => .bl (decide (i < j))) ltO := rz_i20 fun i j d e => by cases e; intro rho H; rfl
theorem rz_le : Rz2 G (rI0 fun i j => .bl (decide (i ≤ j))) leO := rz_i20 fun i j d e => by cases e; intro rho H; rfl
theorem rz_gt : Rz2 G (rI0 fun i j => .bl (decide (j < i))) gtO := rz_i20 fun i j d e => by cases e; intro rho H; rfl
theorem rz_ge : Rz2 G (rI0 fun i j => .bl (decide (j ≤ i))) geO := rz_i20 fun i j d e => by cases e; intro rho H; rfl
theorem rz_mod : Rz2 G (rI (fun _ j => 0 < j) fun i j => .int (i % j)) modO := rz_i2 fun i j d e => by
  split at e
  · cases e; exact ⟨by assumption, fun _ _ => rfl⟩
  · cases e
theorem rz_fdiv : Rz2 G (rI CDiv fun i j => .int (i / j)) fdivO := rz_i2 fun i j d e => by
  split at e
  · rename_i h
    cases e; exact ⟨h, fun _ _ => rfl⟩
  · cases e
theorem rz_pow : Rz2 G (rI CPow fun i j => .int (i ^ j.toNat)) powO := rz_i2 fun i j d e => by
  split at e
  · rename_i h
    cases e; exact ⟨⟨h.1, h.2.1, by have := h.2.2; omega⟩, fun _ _ => rfl⟩
  · cases e

/-! ### + -/
def seqL (d : D) (h : Hh) : Option (List D) := match d with
  | .lst ds => some ds
  | .ref i => match h[i]? with
    | some (.lst ds) => some ds
    | _ => none
  | _ => none
theorem seqL_of {rho : Rm} {hh : Hh} {H : Hp} {d : D} {v : V} {ds : List D} (R : Rep G rho hh H) (q : Den G rho H d v) (e : seqL d hh = some ds) : ∃ a vs, v = .ref a ∧ H a = some (.lst vs) ∧ vs.length ≤ sizeLine ∧ Dens G rho H ds vs := by
  cases d with
  | lst es =>
    cases e
    rw [Den] at q
    obtain ⟨a, vs, rfl, h, _, _, l, q⟩ := q
    exact ⟨a, vs, rfl, h, l, q⟩
  | ref i =>
    have e : (match hh[i]? with
      | some (O.lst ds) => some ds
      | _ => none) = some ds := e
    split at e
    · rename_i es e1
      cases e
      rw [Den] at q
      obtain ⟨a, e2, rfl⟩ := q
      obtain ⟨vs, e3, l, q⟩ := R.ob i a _ e2 e1
      exact ⟨a, vs, rfl, e3, l, q⟩
    · cases e
  | non => cases e
  | bl b => cases e
  | int b => cases e
  | str b => cases e
  | tup b => cases e
  | wtp b => cases e
  | glb b => cases e
  | scr b => cases e
def addO : Op2 := fun a b h => match a, b with
  | .int i, .int j => some (.int (i + j))
  | .str x, .str y => if x.length + y.length ≤ sizeLine then some (.str (x ++ y)) else none
  | .tup xs, .tup ys => if xs.length + ys.length ≤ sizeLine then some (.tup (xs ++ ys)) else none
  | a, b => match seqL a h, seqL b h with
    | some xs, some ys => if xs.length + ys.length ≤ sizeLine then some (.lst (xs ++ ys)) else none
    | _, _ => none
/-- t + u, what is new known -/
def rCatF (K : PySem.W.Frag) : R2 := fun x y H Q => ∃ a b xs ys, x = .ref a ∧ y = .ref b ∧ SqT K H a xs ∧ SqT K H b ys ∧ xs.length + ys.length ≤ sizeLine ∧
  (xs = [] → Q (.ref b) H) ∧ (xs ≠ [] → ys = [] → Q (.ref a) H) ∧ (xs ≠ [] → ys ≠ [] → NewT H (xs ++ ys) Q)
theorem op_catF {X : Cx} : OpR X (binaryOp .Add) (rCatF X.K) := by
  intro pins s σ H x y v u Q I rx ry h
  obtain ⟨a, b, xs, ys, rfl, rfl, ha, hb, hz, q0, q1, q2⟩ := h
  by_cases hx : xs = []
  · exact op_catA pins s σ H _ _ v u Q I rx ry ⟨a, b, xs, ys, rfl, rfl, ha, hb, hz, q0, q1, fun z => absurd hx z⟩
  · cases rx
    cases ry
    obtain ⟨its, r1, p1, _⟩ := I.tuple ha
    obtain ⟨its2, r2, p2, _⟩ := I.tuple hb
    refine HT.cat_tup p1 p2 (fun z => hx (r1.nil_iff.mp z)) (fun z => ⟨.ref a, H, I, rfl, q1 hx (r2.nil_iff.mp z)⟩) (fun z => ?_) (by rw [← r1.length, ← r2.length]; exact hz)
    exact inv_newT I (r1.append r2) (by rw [List.length_append]; exact hz) (q2 hx fun w => z (r2.nil_iff.mpr w))
def rAddA (K : PySem.W.Frag) : R2 := fun x y H Q => rI0 (fun i j => .int (i + j)) x y H Q ∨ ((∃ i j, x = .str i ∧ y = .str j ∧ i.length + j.length ≤ sizeLine ∧ Q (.str (i ++ j)) H) ∨ (rCatF K x y H Q ∨ rCat x y H Q))
theorem op_addA {X : Cx} : OpR X (binaryOp .Add) (rAddA X.K) := op_add.or (op_add_str.or (op_catF.or op_cat))
theorem den_lst_new {rho : Rm} {hh : Hh} {H : Hp} {ds : List D} {vs : List V} {p : Addr} (R : Rep G rho hh H) (q : Dens G rho H ds vs) (l : vs.length ≤ sizeLine) (hp : H p = none) : Den G rho (upd H p (.lst vs)) (.lst ds) (.ref p) := by
  rw [Den]
  refine ⟨p, vs, rfl, upd_same, fun hm => ?_, fun hm => ?_, l, Dens.step R (.laid hp) _ _ q⟩
  · obtain ⟨u, e, _⟩ := R.mut hm
    rw [hp] at e; cases e
  · obtain ⟨o, e⟩ := R.hd p hm
    rw [hp] at e; cases e
theorem dens_nil {rho : Rm} {H : Hp} {ds : List D} (q : Dens G rho H ds []) : ds = [] := List.length_eq_zero_iff.mp q.length
theorem rz_add : Rz2 G (rAddA G.K) addO := fun rho hh H d1 d2 v1 v2 d Q R q1 q2 e k => by
  unfold addO at e
  split at e
  · rename_i i j
    cases e
    exact .inl ⟨i, j, q1, q2, k _ H .refl R rfl⟩
  · rename_i x y
    split at e
    · rename_i hl
      cases e
      exact .inr (.inl ⟨x, y, q1, q2, hl, k _ H .refl R rfl⟩)
    · cases e
  · rename_i xs ys
    split at e
    · rename_i hl
      cases e
      have q1' := q1
      have q2' := q2
      rw [Den] at q1 q2
      obtain ⟨a, vs, rfl, h1, l1, z1⟩ := q1
      obtain ⟨b, ws, rfl, h2, l2, z2⟩ := q2
      have e1 := z1.length
      have e2 := z2.length
      refine .inr (.inr (.inl ⟨a, b, vs, ws, rfl, rfl, h1.t, h2.t, by omega, fun hv => ?_, fun hv hw => ?_, fun hv hw p o hp ho => ?_⟩))
      · subst hv
        rw [dens_nil z1] at k
        exact k _ H .refl R q2'
      · subst hw
        rw [dens_nil z2, List.append_nil] at k
        exact k _ H .refl R q1'
      · exact k _ _ (.laid hp) (R.laid hp) (Den.tup_new ho R (z1.append z2) (by rw [List.length_append]; omega) hp)
    · cases e
  · split at e
    · rename_i xs ys e1 e2
      split at e
      · rename_i hl
        cases e
        obtain ⟨a, vs, rfl, h1, l1, z1⟩ := seqL_of R q1 e1
        obtain ⟨b, ws, rfl, h2, l2, z2⟩ := seqL_of R q2 e2
        have n1 := z1.length
        have n2 := z2.length
        exact .inr (.inr (.inr ⟨a, b, vs, ws, rfl, rfl, h1, h2, by omega, fun p hp => k _ _ (.laid hp) (R.laid hp) (den_lst_new R (z1.append z2) (by rw [List.length_append]; omega) hp)⟩))
      · cases e
    · cases e

/-! ### an item -/
def ixO : Op2 := fun a b h => match b with
  | .int i => match a with
    | .tup ds => atI ds i
    | .scr ns => atI (ns.map D.int) i
    | .str x => if x.length ≤ sizeLine then (atI x.cps.toList i).map fun c => .str ⟨#[c]⟩ else none
    | a => match seqL a h with
      | some ds => atI ds i
      | none => none
  | _ => none
theorem atI_of {rho : Rm} {H : Hp} {ds : List D} {vs : List V} {i : Int} {d : D} (q : Dens G rho H ds vs) (e : atI ds i = some d) : ∃ v, atI vs i = some v ∧ Den G rho H d v := by
  have hl := q.length
  unfold atI at e ⊢
  rw [← hl]
  cases h : ixN ds.length i with
  | none => rw [h] at e; cases e
  | some j =>
    rw [h] at e
    exact q.get e
theorem rz_ix : Rz2 G (rIx G.K) ixO := fun rho hh H d1 d2 v1 v2 d Q R q1 q2 e k => by
  unfold ixO at e
  split at e
  · rename_i i
    split at e
    · rename_i ds
      rw [Den] at q1
      obtain ⟨a, vs, rfl, h1, l1, z1⟩ := q1
      obtain ⟨v, e1, e2⟩ := atI_of z1 e
      exact .inr (.inl ⟨a, vs, i, v, rfl, q2, h1.t, e1, k _ H .refl R e2⟩)
    · rename_i ns
      rw [Den] at q1
      obtain ⟨a, rfl, hs, l⟩ := q1
      obtain ⟨v, e1, e2⟩ := atI_of (dens_ints (G := G) (rho := rho) (H := H) ns) e
      refine .inl ⟨a, ns.map V.int, i, v, rfl, q2, ?_, e1, k _ H .refl R e2⟩
      rcases hs with ⟨o, hs⟩ | hs
      · exact .inl (.inr ⟨o, hs⟩)
      · exact .inr hs
    · rename_i x
      split at e
      · rename_i hl
        obtain ⟨c, e1, rfl⟩ := Option.map_eq_some_iff.mp e
        exact .inr (.inr ⟨x, i, c, q1, q2, hl, e1, k _ H .refl R rfl⟩)
      · cases e
    · split at e
      · rename_i ds es
        obtain ⟨a, vs, rfl, h1, l1, z1⟩ := seqL_of R q1 es
        obtain ⟨v, e1, e2⟩ := atI_of z1 e
        exact .inl ⟨a, vs, i, v, rfl, q2, SqL.of h1, e1, k _ H .refl R e2⟩
      · cases e
  · cases e
end
end MR

/-! F9: built-in functions, slices, lists that change. -/
namespace MR
open PySem PySem.Spec PyProof.Rows L2

/-! ### *, -x -/
def mulO : Op2 := i2 fun i j => if ((-18446744073709551616 < i ∧ i < 18446744073709551616) ∨ (-18446744073709551616 < j ∧ j < 18446744073709551616)) ∨ i.natAbs.log2 + j.natAbs.log2 < 1000000 then some (.int (i * j)) else none
def rMulA : R2 := fun x y H Q => rI CMul (fun i j => .int (i * j)) x y H Q ∨ rI CMulW (fun i j => .int (i * j)) x y H Q
theorem op_mulA {X : Cx} : OpR X (binaryOp .Mult) rMulA := op_mul.or op_mulW
section
variable {G : Gm}
theorem rz_mul : Rz2 G rMulA mulO := fun rho hh H d1 d2 v1 v2 d Q R q1 q2 e k => by
  unfold mulO i2 at e
  split at e
  · rename_i i j
    dsimp only at e
    split at e
    · rename_i h
      cases e
      rcases h with h | h
      · exact .inl ⟨i, j, q1, q2, by unfold CMul; omega, k _ H .refl R rfl⟩
      · exact .inr ⟨i, j, q1, q2, h, k _ H .refl R rfl⟩
    · cases e
  · cases e
end
def eNeg (m : ME) : ME := fun env h => (m env h).bind fun d h1 => lift (match d with | .int i => some (.int (-i)) | _ => none) h1
theorem de_neg {X : Cx} {e : Expr} {m : ME} {pos : Pos} (h : DE X e m) : DE X (.UnaryOp .USub e pos) (eNeg m) :=
  ⟨fun W tk => pe_weak (pe_un un_neg (h.run W tk)) fun σ H Q q => tE_of q fun rho env hh H1 d v R E qd p => by
    obtain ⟨a, e, p⟩ := lift_post p
    cases d with
    | int i => cases e; exact ⟨i, qd, PostE.val (a := D.int (-i)) (b := V.int (-i)) (Rl := Den _) p R rfl⟩
    | non => cases e
    | bl b => cases e
    | str b => cases e
    | tup b => cases e
    | wtp b => cases e
    | lst b => cases e
    | ref b => cases e
    | glb b => cases e
    | scr b => cases e⟩

/-! ### chains of two comparisons -/
def eChain (f g : Op2) (a b c : ME) : ME := fun env h => (a env h).bind fun x h1 => (b env h1).bind fun y h2 => (lift (f x y h2) h2).bind fun z h3 => (lift (asB z) h3).bind fun k h4 => if k = true then (c env h4).bind fun u h5 => lift (g y u h5) h5 else .ok (.bl false) h4
section
variable {X : Cx} {a b c : Expr} {ma mb mc : ME} {pos : Pos}
theorem tChain_of {G : Gm} {W : WX} {r r' : R2} {f g : Op2} {σ : L2.St} {H : Hp} {Q : VK} (z : Rz2 G r f) (z' : Rz2 G r' g) (h : TD G W (eChain f g ma mb mc) σ H Q) : tChain r r' (TD G W ma) (TD G W mb) (TD G W mc) σ H Q := by
  refine tE_of (f := fun env x h1 => (mb env h1).bind fun y h2 => (lift (f x y h2) h2).bind fun z h3 => (lift (asB z) h3).bind fun k h4 => if k = true then (mc env h4).bind fun u h5 => lift (g y u h5) h5 else .ok (.bl false) h4) h fun rho env hh H1 x vx R E qx p => ?_
  refine tE2_of (f := fun env x y h2 => (lift (f x y h2) h2).bind fun z h3 => (lift (asB z) h3).bind fun k h4 => if k = true then (mc env h4).bind fun u h5 => lift (g y u h5) h5 else .ok (.bl false) h4) ⟨rho, env, hh, R, E, qx, p⟩ fun rho env hh H2 y vy R E qx qy p => ?_
  cases e1 : f x y hh with
  | none => rw [e1] at p; exact p.elim
  | some zz =>
    rw [e1] at p
    cases e2 : asB zz with
    | none => rw [show (lift (some zz) hh).bind (fun z h3 => (lift (asB z) h3).bind fun k h4 => if k = true then (mc env h4).bind fun u h5 => lift (g y u h5) h5 else .ok (.bl false) h4) = (lift (asB zz) hh).bind fun k h4 => if k = true then (mc env h4).bind fun u h5 => lift (g y u h5) h5 else .ok (.bl false) h4 from rfl, e2] at p; exact p.elim
    | some k =>
      rw [show (lift (some zz) hh).bind (fun z h3 => (lift (asB z) h3).bind fun k h4 => if k = true then (mc env h4).bind fun u h5 => lift (g y u h5) h5 else .ok (.bl false) h4) = (lift (asB zz) hh).bind fun k h4 => if k = true then (mc env h4).bind fun u h5 => lift (g y u h5) h5 else .ok (.bl false) h4 from rfl, e2] at p
      have ez := asB_some e2
      subst ez
      refine z rho hh H2 x y vx vy _ _ R qx qy e1 fun v3 H3 S3 R3 q3 => ⟨k, q3, ?_⟩
      have p := p.start S3
      have E3 := E.step R S3
      have qy3 := Den.step R S3 _ _ qy
      cases k with
      | true =>
        refine tE2_of (d1 := y) (v1 := vy) (f := fun env y u h5 => lift (g y u h5) h5) ⟨rho, env, hh, R3, E3, qy3, p⟩ fun rho env hh H4 u vu R E qy qu p => ?_
        obtain ⟨dd, e4, p⟩ := lift_post p
        exact z' rho hh H4 y u vy vu dd Q R qy qu e4 fun w H' S' R' q' => p rho H' w S' R' q'
      | false => exact PostE.val (a := D.bl false) (b := V.bl false) (Rl := Den G) p R3 rfl
theorem de_chain {op op' : CmpOp} {r r' : R2} {f g : Op2} (ho : OpR X (compareOp op) r) (ho' : OpR X (compareOp op') r') (z : Rz2 (Cx.gm X) r f) (z' : Rz2 (Cx.gm X) r' g) (ha : DE X a ma) (hb : DE X b mb) (hc : DE X c mc)
    (hm : lastMarks [op, op'] [b, c] = false := by with_unfolding_all rfl) : DE X (.Compare a [op, op'] [b, c] pos) (eChain f g ma mb mc) :=
  ⟨fun W tk => pe_weak (pe_chain ho ho' (ha.run W tk) (hb.run W tk) (hc.run W tk) hm) fun σ H Q q => tChain_of z z' q⟩
theorem dt_chain {op op' : CmpOp} {r r' : R2} {f g : Op2} (ho : OpR X (compareOp op) r) (ho' : OpR X (compareOp op') r') (z : Rz2 (Cx.gm X) r f) (z' : Rz2 (Cx.gm X) r' g) (ha : DE X a ma) (hb : DE X b mb) (hc : DE X c mc)
    (hm : lastMarks [op, op'] [b, c] = false := by with_unfolding_all rfl) : DT X (.Compare a [op, op'] [b, c] pos) (tE (eChain f g ma mb mc)) :=
  ⟨fun W tk => pt_weak (pt_chain ho ho' (ha.run W tk) (hb.run W tk) (hc.run W tk) hm) fun σ H Q q => tChain_of (Q := fun x H' => ∃ k, x = .bl k ∧ Q k H') z z' (tB_of q)⟩
end

/-! ### slices -/
def cutG {α : Type} (xs : List α) (lo hi : Option Int) : List α := (xs.drop (HT.sIx xs.length 0 lo)).take (HT.sIx xs.length xs.length hi - HT.sIx xs.length 0 lo)
section
variable {G : Gm} {rho : Rm} {H : Hp}
theorem Dens.take : ∀ {ds : List D} {vs : List V} (n : Nat), Dens G rho H ds vs → Dens G rho H (ds.take n) (vs.take n)
  | [], vs, n, h => by rw [Dens] at h; subst h; simp [Dens]
  | d :: ds, vs, 0, h => by simp [Dens]
  | d :: ds, vs, n + 1, h => by
    rw [Dens] at h
    obtain ⟨v, r, rfl, a, b⟩ := h
    exact ⟨v, r.take n, rfl, a, Dens.take n b⟩
theorem Dens.drop : ∀ {ds : List D} {vs : List V} (n : Nat), Dens G rho H ds vs → Dens G rho H (ds.drop n) (vs.drop n)
  | [], vs, n, h => by rw [Dens] at h; subst h; simp [Dens]
  | d :: ds, vs, 0, h => h
  | d :: ds, vs, n + 1, h => by
    rw [Dens] at h
    obtain ⟨v, r, rfl, a, b⟩ := h
    exact Dens.drop n b
theorem Dens.cut {ds : List D} {vs : List V} (lo hi : Option Int) (h : Dens G rho H ds vs) : Dens G rho H (cutG ds lo hi) (cutV vs lo hi) := by
  unfold cutG cutV
  rw [h.length]
  exact (h.drop _).take _
end
def sliceO (d : D) (lo hi : Option Int) (h : Hh) : Option D := match d with
  | .tup ds => some (.tup (cutG ds lo hi))
  | .str x => if x.length ≤ sizeLine then some (.str (cutS x lo hi)) else none
  | d => (seqL d h).map fun ds => .lst (cutG ds lo hi)
/-- t[lo:hi], what is new known -/
def rSlF (K : PySem.W.Frag) : V → Option Int → Option Int → Hp → VK → Prop := fun x lo hi H Q => ∃ a xs, x = .ref a ∧ SqT K H a xs ∧
  (HT.sIx xs.length 0 lo = 0 ∧ HT.sIx xs.length xs.length hi = xs.length → Q (.ref a) H) ∧ (¬ (HT.sIx xs.length 0 lo = 0 ∧ HT.sIx xs.length xs.length hi = xs.length) → NewT H (cutV xs lo hi) Q)
theorem sl_tupF {X : Cx} : SlR X (rSlF X.K) := by
  intro pins s σ H x v vl vu lo hi sl Q I rx hs pl pu h
  obtain ⟨a, xs, rfl, hx, q1, q2⟩ := h
  by_cases hw : HT.sIx xs.length 0 lo = 0 ∧ HT.sIx xs.length xs.length hi = xs.length
  · exact sl_tupA pins s σ H _ v vl vu lo hi sl Q I rx hs pl pu ⟨a, xs, rfl, hx, q1, fun z => absurd hw z⟩
  · cases rx
    obtain ⟨its, r, ht, hz⟩ := I.tuple hx
    have hlen : its.toArray.size = xs.length := by rw [List.size_toArray]; exact r.length.symm
    refine ⟨"tuple", _, PyProof.Rows.slot_tuple_getitem.lookup, ht.typeIs, ?_⟩
    refine HT.getItem_tuple_cut ht hs pl pu (by rw [hlen]; exact hw) ?_ (by rw [hlen]; exact hz)
    rw [hlen]
    exact inv_newT I ((r.drop (HT.sIx xs.length 0 lo)).take (HT.sIx xs.length xs.length hi - HT.sIx xs.length 0 lo)) (Nat.le_trans (cutV_length xs lo hi) hz) (q2 hw)
def rSlAny (K : PySem.W.Frag) : V → Option Int → Option Int → Hp → VK → Prop := fun x lo hi H Q => rSlF K x lo hi H Q ∨ (rSlL K x lo hi H Q ∨ rSlS x lo hi H Q)
theorem sl_any {X : Cx} : SlR X (rSlAny X.K) := sl_tupF.or (sl_list.or sl_str)
theorem cutV_len (vs : List V) (lo hi : Option Int) : (cutV vs lo hi).length ≤ vs.length := cutV_length vs lo hi
theorem sl_of {G : Gm} {rho : Rm} {hh : Hh} {H : Hp} {d e : D} {v : V} {lo hi : Option Int} {Q : VK} (R : Rep G rho hh H) (q : Den G rho H d v) (h : sliceO d lo hi hh = some e)
    (k : ∀ w H', Step rho H rho H' → Rep G rho hh H' → Den G rho H' e w → Q w H') : rSlAny G.K v lo hi H Q := by
  unfold sliceO at h
  split at h
  · rename_i ds
    cases h
    have q0 := q
    rw [Den] at q
    obtain ⟨a, vs, rfl, hs, l, z⟩ := q
    refine .inl ⟨a, vs, rfl, hs.t, fun hw => ?_, fun hw p o hp ho => ?_⟩
    · have ec : cutG ds lo hi = ds := by
        unfold cutG
        rw [z.length, hw.1, hw.2, List.drop_zero, Nat.sub_zero, ← z.length, List.take_length]
      rw [ec] at k
      exact k _ H .refl R q0
    · exact k _ _ (.laid hp) (R.laid hp) (Den.tup_new ho R (z.cut lo hi) (Nat.le_trans (cutV_len vs lo hi) l) hp)
  · rename_i x
    split at h
    · rename_i hl
      cases h
      exact .inr (.inr ⟨x, q, hl, k _ H .refl R rfl⟩)
    · cases h
  · obtain ⟨ds, e1, rfl⟩ := Option.map_eq_some_iff.mp h
    obtain ⟨a, vs, rfl, hs, l, z⟩ := seqL_of R q e1
    exact .inr (.inl ⟨a, vs, rfl, SqL.of hs, fun p hp => k _ _ (.laid hp) (R.laid hp) (den_lst_new R (z.cut lo hi) (Nat.le_trans (cutV_len vs lo hi) l) hp)⟩)
/-- an end of a slice -/
abbrev MO := DEnv → Hh → Res (Option Int)
def TDo (G : Gm) (W : WX) (m : MO) : TO := fun σ H Q => ∃ rho env hh, Rep G rho hh H ∧ EnvD G rho H env σ ∧ PostE G (fun _ _ a b => a = b) (wAt W σ) rho H (m env hh) Q
structure DO (X : Cx) (e : Option Expr) (m : MO) : Prop where
  run : ∀ W, Takes X W → PO X e (TDo (Cx.gm X) W m)
def oNone : MO := fun _ h => .ok none h
def asI (d : D) : Option Int := match d with | .int i => some i | _ => none
def oSome (m : ME) : MO := fun env h => (m env h).bind fun d h1 => lift ((asI d).map some) h1
theorem po_weak {X : Cx} {e : Option Expr} {t t' : TO} (h : PO X e t) (i : ∀ σ H Q, t' σ H Q → t σ H Q) : PO X e t' := ⟨fun pins s σ H Q I q => h.run pins s σ H Q I (i σ H Q q)⟩
section
variable {X : Cx} {e : Expr} {m : ME} {pos p2 : Pos}
theorem do_none : DO X none oNone := ⟨fun W _ => po_weak po_none fun σ H Q ⟨rho, env, hh, R, E, p⟩ => p.val R rfl⟩
theorem do_some (h : DE X e m) : DO X (some e) (oSome m) := ⟨fun W tk => po_weak (po_some (h.run W tk)) fun σ H Q q => by
  refine tE_of (Rl := fun _ _ a b => a = b) q fun rho env hh H1 d v R E qd p => ?_
  obtain ⟨a, e, p⟩ := lift_post p
  obtain ⟨i, e1, rfl⟩ := Option.map_eq_some_iff.mp e
  cases d with
  | int j => cases e1; exact ⟨_, qd, p.val R rfl⟩
  | non => cases e1
  | bl b => cases e1
  | str b => cases e1
  | tup b => cases e1
  | wtp b => cases e1
  | lst b => cases e1
  | ref b => cases e1
  | glb b => cases e1
  | scr b => cases e1⟩
def eSlice (m : ME) (lo hi : MO) : ME := fun env h => (m env h).bind fun d h1 => (lo env h1).bind fun l h2 => (hi env h2).bind fun u h3 => lift (sliceO d l u h3) h3
theorem tO_of {G : Gm} {W : WX} {mo : MO} {f : DEnv → D → Option Int → Hh → Res D} {σ : L2.St} {H : Hp} {Q : VK} {v1 : V} {d1 : D} {k : Option Int → Hp → Prop}
    (h : ∃ rho env hh, Rep G rho hh H ∧ EnvD G rho H env σ ∧ Den G rho H d1 v1 ∧ PostE G (Den G) (wAt W σ) rho H ((mo env hh).bind (f env d1)) Q)
    (hk : ∀ rho env hh H1 o, Rep G rho hh H1 → EnvD G rho H1 env σ → Den G rho H1 d1 v1 → PostE G (Den G) (wAt W σ) rho H1 (f env d1 o hh) Q → k o H1) : TDo G W mo σ H k := by
  obtain ⟨rho, env, hh, R, E, q1, p⟩ := h
  refine ⟨rho, env, hh, R, E, ?_⟩
  cases e : mo env hh with
  | ok d hh1 =>
    rw [e, bind_ok] at p
    exact fun rho1 H1 v S R1 q => by
      subst q
      exact hk rho1 env hh1 H1 d R1 (E.step R S) (Den.step R S _ _ q1) (p.start S)
  | err x hh1 => rw [e, bind_err] at p; exact p
  | stuck => rw [e, bind_stuck] at p; exact p
theorem de_slice {lo hi : Option Expr} {ml mh : MO} (h : DE X e m) (hl : DO X lo ml) (hu : DO X hi mh) : DE X (.Subscript e (.Slice lo hi none p2) pos) (eSlice m ml mh) :=
  ⟨fun W tk => pe_weak (pe_slice sl_any (h.run W tk) (hl.run W tk) (hu.run W tk)) fun σ H Q q => by
    refine tE_of (f := fun env d h1 => (ml env h1).bind fun l h2 => (mh env h2).bind fun u h3 => lift (sliceO d l u h3) h3) q fun rho env hh H1 d v R E qd p => ?_
    refine tO_of (d1 := d) (f := fun env d l h2 => (mh env h2).bind fun u h3 => lift (sliceO d l u h3) h3) ⟨rho, env, hh, R, E, qd, p⟩ fun rho env hh H2 l R E qd p => ?_
    refine tO_of (d1 := d) (f := fun env d u h3 => lift (sliceO d l u h3) h3) ⟨rho, env, hh, R, E, qd, p⟩ fun rho env hh H3 u R E qd p => ?_
    obtain ⟨a, e, p⟩ := lift_post p
    exact sl_of R qd e fun w H' S' R' q' => p rho H' w S' R' q'⟩
end

/-! ### built-in functions -/
def lenO : OpN := fun ds h => match ds with
  | [.str x] => if x.length ≤ sizeLine then some (.int x.length) else none
  | [.ref i] => match h[i]? with
    | some (.lst xs) => some (.int xs.length)
    | some (.dK kvs) => some (.int kvs.length)
    | _ => none
  | [.tup xs] => some (.int xs.length)
  | [.lst xs] => some (.int xs.length)
  | [.scr ns] => some (.int ns.length)
  | _ => none
def rLenA (X : Cx) : List V → Hp → VK → Prop := fun xs H Q => (∃ p ys, xs = [.ref p] ∧ (SqL X.K H p ys ∨ SqT X.K H p ys) ∧ Q (.int ys.length) H) ∨ ((∃ z, xs = [.str z] ∧ z.length ≤ sizeLine ∧ Q (.int z.length) H) ∨ (∃ a kvs, xs = [V.ref a] ∧ H a = some (.dK kvs) ∧ Q (.int kvs.length) H))
theorem call_lenA {X : Cx} : CallR X (.builtin "len") (rLenA X) := call_len_seq.or (call_len_str.or call_lenD)
theorem dens_one {G : Gm} {rho : Rm} {H : Hp} {d : D} {vs : List V} (q : Dens G rho H [d] vs) : ∃ v, vs = [v] ∧ Den G rho H d v := by
  simp only [Dens] at q
  obtain ⟨v, r, rfl, h, rfl⟩ := q
  exact ⟨v, rfl, h⟩
theorem dens_two {G : Gm} {rho : Rm} {H : Hp} {d e : D} {vs : List V} (q : Dens G rho H [d, e] vs) : ∃ v w, vs = [v, w] ∧ Den G rho H d v ∧ Den G rho H e w := by
  simp only [Dens] at q
  obtain ⟨v, r, rfl, h, w, r2, rfl, h2, rfl⟩ := q
  exact ⟨v, w, rfl, h, h2⟩
theorem rz_len {X : Cx} : RzN (Cx.gm X) (rLenA X) lenO := fun rho hh H ds vs d Q R q e k => by
  unfold lenO at e
  split at e
  · rename_i x
    split at e
    · rename_i hl
      cases e
      obtain ⟨v, rfl, h⟩ := dens_one q
      exact .inr (.inl ⟨x, by rw [show v = .str x from h], hl, k _ H .refl R rfl⟩)
    · cases e
  · rename_i i
    obtain ⟨v, rfl, h⟩ := dens_one q
    rw [Den] at h
    obtain ⟨a, e1, rfl⟩ := h
    split at e
    · rename_i xs e2
      cases e
      obtain ⟨ws, e3, l, z⟩ := R.ob i a _ e1 e2
      rw [z.length] at k
      exact .inl ⟨a, ws, rfl, .inl (SqL.of e3), k _ H .refl R rfl⟩
    · rename_i kvs e2
      cases e
      obtain ⟨fvs, e3, l, z⟩ := R.ob i a _ e1 e2
      rw [Paired.length z] at k
      exact .inr (.inr ⟨a, fvs, rfl, e3, k _ H .refl R rfl⟩)
    · cases e
  · rename_i xs
    cases e
    obtain ⟨v, rfl, h⟩ := dens_one q
    rw [Den] at h
    obtain ⟨a, ws, rfl, h1, l, z⟩ := h
    rw [z.length] at k
    exact .inl ⟨a, ws, rfl, .inr h1.t, k _ H .refl R rfl⟩
  · rename_i xs
    cases e
    obtain ⟨v, rfl, h⟩ := dens_one q
    rw [Den] at h
    obtain ⟨a, ws, rfl, h1, _, _, l, z⟩ := h
    rw [z.length] at k
    exact .inl ⟨a, ws, rfl, .inl (SqL.of h1), k _ H .refl R rfl⟩
  · rename_i ns
    cases e
    obtain ⟨v, rfl, h⟩ := dens_one q
    rw [Den] at h
    obtain ⟨a, rfl, hs, l⟩ := h
    refine .inl ⟨a, ns.map V.int, rfl, .inl ?_, by rw [List.length_map]; exact k _ H .refl R rfl⟩
    rcases hs with ⟨o, hs⟩ | hs
    · exact .inl (.inr ⟨o, hs⟩)
    · exact .inr hs
  · cases e

/-- the built-in class of a value -/
def tyName (d : D) (h : Hh) : Option String := match d with
  | .non => some "NoneType"
  | .bl _ => some "bool"
  | .int _ => some "int"
  | .str _ => some "str"
  | .tup _ => some "tuple"
  | .wtp _ => none
  | .lst _ => some "list"
  | .scr _ => some "list"
  | .ref i => match h[i]? with
    | some (.lst _) => some "list"
    | some (.dK _) => some "dict"
    | some (.dN _) => some "dict"
    | _ => none
  | .glb _ => none
def isiO : OpN := fun ds h => match ds with
  | [d, .glb (.ty T)] => (tyName d h).bind fun t => (kitB t T).map D.bl
  | _ => none
def rIsiA (K : PySem.W.Frag) : List V → Hp → VK → Prop := fun xs H Q => rIsi K xs H Q ∨ ∃ (a : Addr) (es : Array DictEntry) (c : V) (u : Value) (b : Bool), xs = [.ref a, c] ∧ ClsV c u ∧ H a = some (.ext (dictRaw a es)) ∧ PySem.W.kitOne K (.type "dict") u = some b ∧ Q (.bl b) H
theorem call_isiA {X : Cx} : CallR X (.builtin "isinstance") (rIsiA X.K) := by
  intro pins s σ H xs us Q I r h
  rcases h with h | h
  · exact call_isi pins s σ H xs us Q I r h
  · obtain ⟨a, es, c, u, b, rfl, k, ha, e, q⟩ := h
    obtain ⟨u1, u2, rfl, r1, r2⟩ := vals2 r
    have e2 := k.eq r2
    subst e2
    cases (show u1 = Value.ref a from r1)
    obtain ⟨⟨o, ep, h1, h2, h3⟩, _, _⟩ := I.hok a _ ha
    exact PySem.W.kia_one PySem.W.kitx_dict I.kIn ⟨o, h1, h2.1⟩ e (fun z => nomatch z) fun tk => ⟨.bl b, H, I.tok tk, rfl, q⟩
theorem rz_isi {X : Cx} : RzN (Cx.gm X) (rIsiA X.K) isiO := fun rho hh H ds vs d Q R q e k => by
  unfold isiO at e
  split at e
  · rename_i x T
    obtain ⟨t, e1, e⟩ := Option.bind_eq_some_iff.mp e
    obtain ⟨b, e2, rfl⟩ := Option.map_eq_some_iff.mp e
    obtain ⟨v, w, rfl, h, hw⟩ := dens_two q
    rw [show w = .ty T from hw]
    have fin : Q (.bl b) H := k _ H .refl R rfl
    have via : TyX X.K H v (.type t) → rIsiA X.K [v, .ty T] H Q := fun ty => .inl ⟨v, .ty T, .type t, .type T, b, rfl, .ty T, ty, kit_ty e2, fin⟩
    clear e
    unfold tyName at e1
    split at e1
    · cases e1; rw [show v = .non from h] at via ⊢; exact via (.base .non)
    · rename_i y; cases e1; rw [show v = .bl y from h] at via ⊢; exact via (.base (.bl y))
    · rename_i y; cases e1; rw [show v = .int y from h] at via ⊢; exact via (.base (.int y))
    · rename_i y; cases e1; rw [show v = .str y from h] at via ⊢; exact via (.base (.str y))
    · cases e1
      rw [Den] at h
      obtain ⟨a, ws, rfl, h1, l, z⟩ := h
      rcases h1.t with (h1 | ⟨o, h1⟩) | ⟨o, its, n, h1, h2, _⟩
      · exact via (.base (.tup h1))
      · exact via (.fTuple h1)
      · exact via (.kTuple h1 h2)
    · cases e1
    · cases e1
      rw [Den] at h
      obtain ⟨a, ws, rfl, h1, _, _, l, z⟩ := h
      exact via (.base (.lst h1))
    · cases e1
      rw [Den] at h
      obtain ⟨a, rfl, hs, l⟩ := h
      rcases hs with ⟨o, hs⟩ | ⟨o, its, n, h1, h2, _⟩
      · exact via (.base (.frz hs))
      · exact via (.kList h1 h2)
    · rw [Den] at h
      obtain ⟨a, e3, rfl⟩ := h
      split at e1
      · rename_i e4
        cases e1
        obtain ⟨ws, e5, _⟩ := R.ob _ a _ e3 e4
        exact via (.base (.lst e5))
      · rename_i e4
        cases e1
        obtain ⟨ws, e5, _⟩ := R.ob _ a _ e3 e4
        exact via (.base (.dK e5))
      · rename_i e4
        cases e1
        obtain ⟨ws, _, _, es, e5, _⟩ := R.ob _ a _ e3 e4
        exact .inr ⟨a, es, .ty T, .type T, b, rfl, .ty T, e5, kit_ty e2, fin⟩
      · cases e1
    · cases e1
  · cases e

/-- a list of truths -/
def truths : List D → Option (List Bool)
  | [] => some []
  | .bl b :: ds => (truths ds).map (b :: ·)
  | _ :: _ => none
def allO : OpN := fun ds h => match ds with
  | [d] => (seqL d h).bind fun xs => (truths xs).map fun bs => .bl (bs.all id)
  | _ => none
def anyO : OpN := fun ds h => match ds with
  | [d] => (seqL d h).bind fun xs => (truths xs).map fun bs => .bl (bs.any id)
  | _ => none
section
variable {G : Gm} {rho : Rm} {H : Hp} {hh : Hh}
theorem truths_of : ∀ {ds : List D} {vs : List V} {bs : List Bool}, Dens G rho H ds vs → truths ds = some bs → vs = bs.map V.bl
  | [], vs, bs, h, e => by rw [truths] at e; cases e; rw [Dens] at h; exact h
  | d :: ds, vs, bs, h, e => by
    rw [Dens] at h
    obtain ⟨v, r, rfl, a, b⟩ := h
    cases d with
    | bl k =>
      rw [truths] at e
      obtain ⟨cs, e1, rfl⟩ := Option.map_eq_some_iff.mp e
      rw [truths_of b e1, show v = .bl k from a]; rfl
    | non => cases e
    | int i => cases e
    | str i => cases e
    | tup i => cases e
    | wtp i => cases e
    | lst i => cases e
    | ref i => cases e
    | glb i => cases e
    | scr i => cases e
theorem rz_all : RzN G (rAll G.K) allO := fun rho hh H ds vs d Q R q e k => by
  unfold allO at e
  split at e
  · obtain ⟨xs, e1, e⟩ := Option.bind_eq_some_iff.mp e
    obtain ⟨bs, e2, rfl⟩ := Option.map_eq_some_iff.mp e
    obtain ⟨v, rfl, h⟩ := dens_one q
    obtain ⟨a, ws, rfl, h1, l, z⟩ := seqL_of R h e1
    have ew := truths_of z e2
    subst ew
    exact ⟨a, bs, rfl, SqL.of h1, k _ H .refl R rfl⟩
  · cases e
theorem rz_any : RzN G (rAny G.K) anyO := fun rho hh H ds vs d Q R q e k => by
  unfold anyO at e
  split at e
  · obtain ⟨xs, e1, e⟩ := Option.bind_eq_some_iff.mp e
    obtain ⟨bs, e2, rfl⟩ := Option.map_eq_some_iff.mp e
    obtain ⟨v, rfl, h⟩ := dens_one q
    obtain ⟨a, ws, rfl, h1, l, z⟩ := seqL_of R h e1
    have ew := truths_of z e2
    subst ew
    exact ⟨a, bs, rfl, SqL.of h1, k _ H .refl R rfl⟩
  · cases e
def max2O : OpN := fun ds _ => match ds with
  | [.int i, .int j] => some (.int (if j > i then j else i))
  | _ => none
def min2O : OpN := fun ds _ => match ds with
  | [.int i, .int j] => some (.int (if j < i then j else i))
  | _ => none
theorem rz_max2 : RzN G (fun xs H Q => ∃ i j, xs = [.int i, .int j] ∧ Q (.int (if j > i then j else i)) H) max2O := fun rho hh H ds vs d Q R q e k => by
  unfold max2O at e
  split at e
  · rename_i i j
    cases e
    obtain ⟨v, w, rfl, h, hw⟩ := dens_two q
    exact ⟨i, j, by rw [show v = .int i from h, show w = .int j from hw], k _ H .refl R rfl⟩
  · cases e
theorem rz_min2 : RzN G (fun xs H Q => ∃ i j, xs = [.int i, .int j] ∧ Q (.int (if j < i then j else i)) H) min2O := fun rho hh H ds vs d Q R q e k => by
  unfold min2O at e
  split at e
  · rename_i i j
    cases e
    obtain ⟨v, w, rfl, h, hw⟩ := dens_two q
    exact ⟨i, j, by rw [show v = .int i from h, show w = .int j from hw], k _ H .refl R rfl⟩
  · cases e
def int1O : OpN := fun ds _ => match ds with
  | [.int i] => some (.int i)
  | [.bl b] => some (.int (if b then 1 else 0))
  | _ => none
theorem rz_int1 : RzN G (fun xs H Q => (∃ i, xs = [.int i] ∧ Q (.int i) H) ∨ ∃ k, xs = [.bl k] ∧ Q (.int (if k then 1 else 0)) H) int1O := fun rho hh H ds vs d Q R q e k => by
  unfold int1O at e
  split at e
  · rename_i i
    cases e
    obtain ⟨v, rfl, h⟩ := dens_one q
    exact .inl ⟨i, by rw [show v = .int i from h], k _ H .refl R rfl⟩
  · rename_i b
    cases e
    obtain ⟨v, rfl, h⟩ := dens_one q
    exact .inr ⟨b, by rw [show v = .bl b from h], k _ H .refl R rfl⟩
  · cases e
/-- tuple(x) of a list or a tuple -/
def tupleO : OpN := fun ds h => match ds with
  | [.tup xs] => some (.tup xs)
  | [.scr ns] => some (.tup (ns.map D.int))
  | [d] => (seqL d h).map fun xs => .tup xs
  | _ => none
def rTupF (K : PySem.W.Frag) : List V → Hp → VK → Prop := fun xs H Q => ∃ p ys, xs = [.ref p] ∧ ((SqL K H p ys ∧ NewT H ys Q) ∨ (SqT K H p ys ∧ Q (.ref p) H))
theorem call_tupF {X : Cx} : CallR X (.type "tuple") (rTupF X.K) := by
  intro pins s σ H xs us Q I r h
  obtain ⟨p, ys, rfl, h⟩ := h
  rcases h with ⟨hq, q⟩ | ⟨hq, q⟩
  · obtain ⟨u, rfl, rx⟩ := vals1 r
    cases rx
    obtain ⟨its, r', pl, hz⟩ := I.list hq
    have hlen := r'.length
    refine call_tuple_list pl.isList (fun h' kp => ?_) (by simp only [List.size_toArray] <;> omega)
    exact inv_newT (I.kept (t' := s.toks) kp) r' hz q
  · exact call_tuple_of pins s σ H _ us Q I r ⟨p, ys, rfl, .inr ⟨hq, q⟩⟩
theorem rz_tuple {X : Cx} : RzN (Cx.gm X) (rTupF X.K) tupleO := fun rho hh H ds vs d Q R q e k => by
  unfold tupleO at e
  split at e
  · rename_i xs
    cases e
    obtain ⟨v, rfl, h⟩ := dens_one q
    have h0 := h
    rw [Den] at h
    obtain ⟨a, ws, rfl, h1, l, z⟩ := h
    exact ⟨a, ws, rfl, .inr ⟨h1.t, k _ H .refl R h0⟩⟩
  · rename_i ns
    cases e
    obtain ⟨v, rfl, h⟩ := dens_one q
    rw [Den] at h
    obtain ⟨a, rfl, hs, l⟩ := h
    refine ⟨a, ns.map V.int, rfl, .inl ⟨?_, fun p o hp ho => k _ _ (.laid hp) (R.laid hp) (Den.tup_new ho R (dens_ints ns) (by simpa using l) hp)⟩⟩
    rcases hs with ⟨o, hs⟩ | hs
    · exact .inl (.inr ⟨o, hs⟩)
    · exact .inr hs
  · obtain ⟨xs, e1, rfl⟩ := Option.map_eq_some_iff.mp e
    obtain ⟨v, rfl, h⟩ := dens_one q
    obtain ⟨a, ws, rfl, h1, l, z⟩ := seqL_of R h e1
    exact ⟨a, ws, rfl, .inl ⟨SqL.of h1, fun p o hp ho => k _ _ (.laid hp) (R.laid hp) (Den.tup_new ho R z l hp)⟩⟩
  · cases e
end
end MR

/-! F10: methods of lists, items stored. -/
namespace MR
open PySem PySem.Spec PyProof.Rows L2

abbrev OpM := D → List D → Hh → Option (D × Hh)
def liftM {α : Type} (o : Option (α × Hh)) : Res α := match o with | some (a, h) => .ok a h | none => .stuck
structure RzM (G : Gm) (T : String) (r : V → List V → Hp → VK → Prop) (ok : D → Hh → Bool) (f : OpM) : Prop where
  ty : ∀ rho hh H d v, Rep G rho hh H → Den G rho H d v → ok d hh = true → tyV G.K T v H
  run : ∀ rho hh H d ds v vs d' hh' (Q : VK), Rep G rho hh H → Den G rho H d v → Dens G rho H ds vs → f d ds hh = some (d', hh') →
    (∀ w rho' H', Step rho H rho' H' → Rep G rho' hh' H' → Den G rho' H' d' w → Q w H') → r v vs H Q
def eMeth (ok : D → Hh → Bool) (f : OpM) (m : ME) (ms : MA) : ME := fun env h => (m env h).bind fun d h1 => if ok d h1 = true then (ms env h1).bind fun ds h2 => liftM (f d ds h2) else .stuck
section
variable {X : Cx} {o e : Expr} {es : List Expr} {m : ME} {ms : MA} {name : Str} {apos cpos : Pos} {T id : String} {r : V → List V → Hp → VK → Prop} {ok : D → Hh → Bool} {f : OpM}
theorem meth_of {G : Gm} {W : WX} {σ : L2.St} {H : Hp} {Q : VK} (z : RzM G T r ok f) (h : TD G W (eMeth ok f m ms) σ H Q) : tBM G.K T r (TD G W m) (TDa G W ms) σ H Q := by
  refine tE_of (f := fun env d h1 => if ok d h1 = true then (ms env h1).bind fun ds h2 => liftM (f d ds h2) else .stuck) h fun rho env hh H1 d v R E qd p => ?_
  split at p
  · rename_i hok
    refine ⟨z.ty rho hh H1 d v R qd hok, ?_⟩
    have h2 := At.seq2A (m := ms) (f := fun env d ds h2 => liftM (f d ds h2)) ⟨rho, env, hh, d, R, E, qd, p⟩
    obtain ⟨rho2, env2, hh2, R2, E2, p2⟩ := h2
    refine ⟨rho2, env2, hh2, R2, E2, ?_⟩
    cases e2 : ms env2 hh2 with
    | ok d2 hh3 =>
      rw [e2] at p2
      intro rho3 H3 vs S3 R3 q3
      obtain ⟨rho4, env4, hh4, x, xs, R4, E4, qx, qy, p4⟩ := p2 rho3 H3 vs S3 R3 q3
      cases e4 : f x xs hh4 with
      | none => rw [e4] at p4; exact p4.elim
      | some y =>
        obtain ⟨d', hh'⟩ := y
        rw [e4] at p4
        exact z.run rho4 hh4 H3 x xs v vs d' hh' Q R4 qx qy e4 fun w rho' H' S' R' q' => p4 rho' H' w S' R' q'
    | err x hh1 => rw [e2] at p2; exact p2
    | stuck => rw [e2] at p2; exact p2
  · exact p.elim
theorem de_meth (pa : PlainAttrs T) (slot : Slot T name id) (hty : typeOf (.builtin id) = pure (.type "method_descriptor")) (hm : MtR X id r) (z : RzM (Cx.gm X) T r ok f) (ho : DE X o m) (ha : DA X (e :: es) ms)
    (hbase : attributeBase o name X.env (eval o X.env) = eval o X.env := by rfl)
    (hfew : ((backTo cpos (starEach (e :: es) X.env)).all (fun x => !x.1) && (backToKw cpos (keywordEach [] X.env)).all (fun x => x.1.isSome)
      && decide ((e :: es).length + ([] : List Keyword).length + (if ([] : List Keyword).isEmpty then 0 else 1) < 30)) = true := by rfl)
    (hline : (apos.endLine == cpos.line) = true := by rfl) (hs : starEach (e :: es) X.env = (false, eval e X.env) :: starEach es X.env := by rfl) (hplain : (backTo cpos (starEach es X.env)).any (·.1) = false := by rfl) :
    DE X (.Call (.Attribute o name apos) (e :: es) [] cpos) (eMeth ok f m ms) :=
  ⟨fun W tk => pe_weak (pe_bm pa slot hty hm (ho.run W tk) (ha.run W tk) hbase hfew hline hs hplain) fun σ H Q h => meth_of z h⟩
theorem de_meth0 (pa : PlainAttrs T) (slot : Slot T name id) (hty : typeOf (.builtin id) = pure (.type "method_descriptor")) (hm : MtR X id r) (z : RzM (Cx.gm X) T r ok f) (ho : DE X o m)
    (hbase : attributeBase o name X.env (eval o X.env) = eval o X.env := by rfl) (hline : (apos.endLine == cpos.line) = true := by rfl) : DE X (.Call (.Attribute o name apos) [] [] cpos) (eMeth ok f m aNil) :=
  ⟨fun W tk => pe_weak (pe_bm0 pa slot hty hm (ho.run W tk) hbase hline) fun σ H Q h => by
    refine tE_of (f := fun env d h1 => if ok d h1 = true then (aNil env h1).bind fun ds h2 => liftM (f d ds h2) else .stuck) h fun rho env hh H1 d v R E qd p => ?_
    split at p
    · rename_i hok
      refine ⟨z.ty rho hh H1 d v R qd hok, ?_⟩
      have p : PostE _ _ _ _ _ (liftM (f d [] hh)) Q := p
      cases e4 : f d [] hh with
      | none => rw [e4] at p; exact p.elim
      | some y =>
        obtain ⟨d', hh'⟩ := y
        rw [e4] at p
        exact z.run rho hh H1 d [] v [] d' hh' Q R qd rfl e4 fun w rho' H' S' R' q' => p rho' H' w S' R' q'
    · exact p.elim⟩
end

/-! ### lists that change -/
def isL (d : D) (h : Hh) : Bool := (seqL d h).isSome
/-- the list at a ref, changed -/
def chL (g : List D → Option (D × List D)) (d : D) (h : Hh) : Option (D × Hh) := match d with
  | .ref i => match h[i]? with
    | some (.lst xs) => (g xs).map fun p => (p.1, h.set i (.lst p.2))
    | _ => none
  | _ => none
section
variable {G : Gm} {rho : Rm} {H : Hp} {hh : Hh}
theorem isL_ty {d : D} {v : V} (R : Rep G rho hh H) (q : Den G rho H d v) (h : isL d hh = true) : tyV G.K "list" v H := by
  obtain ⟨ds, e⟩ := Option.isSome_iff_exists.mp h
  obtain ⟨a, vs, rfl, h1, _, _⟩ := seqL_of R q e
  exact .inl ⟨rfl, _, SqL.of h1⟩
theorem chL_of {g : List D → Option (D × List D)} {d d' : D} {v : V} {hh' : Hh} (R : Rep G rho hh H) (q : Den G rho H d v) (h : chL g d hh = some (d', hh')) :
    ∃ (i : Nat) (a : Addr) (xs ys : List D) (vs : List V), d = .ref i ∧ rho.at_[i]? = some a ∧ v = .ref a ∧ H a = some (.lst vs) ∧ vs.length ≤ sizeLine ∧ Dens G rho H xs vs ∧ g xs = some (d', ys) ∧ hh' = hh.set i (.lst ys) ∧
      ∀ ws, ws.length ≤ sizeLine → Dens G rho H ys ws → Step rho H rho (upd H a (.lst ws)) ∧ Rep G rho (hh.set i (.lst ys)) (upd H a (.lst ws)) := by
  unfold chL at h
  split at h
  · rename_i i
    split at h
    · rename_i xs e
      obtain ⟨p, e2, e3⟩ := Option.map_eq_some_iff.mp h
      cases e3
      rw [Den] at q
      obtain ⟨a, e1, rfl⟩ := q
      obtain ⟨vs, e4, l, z⟩ := R.ob i a _ e1 e
      refine ⟨i, a, xs, p.2, vs, rfl, e1, rfl, e4, l, z, by rw [e2], rfl, fun ws hl hz => ?_⟩
      have S : Step rho H rho (upd H a (.lst ws)) := .put (List.mem_of_getElem? e1)
      exact ⟨S, R.put e1 ⟨ws, upd_same, hl, Dens.step R S _ _ hz⟩⟩
    · cases h
  · cases h
end
def appendO : OpM := fun d ds h => match ds with
  | [e] => chL (fun xs => if xs.length < sizeLine then some (.non, xs ++ [e]) else none) d h
  | _ => none
theorem rz_append {G : Gm} : RzM G "list" rAppend isL appendO where
  ty := fun rho hh H d v R q h => isL_ty R q h
  run := fun rho hh H d ds v vs d' hh' Q R qd qs e k => by
    unfold appendO at e
    split at e
    · rename_i x
      obtain ⟨y, rfl, qy⟩ := dens_one qs
      obtain ⟨i, a, xs, ys, ws, rfl, e1, rfl, e2, l, z, e3, rfl, fin⟩ := chL_of R qd e
      split at e3
      · rename_i hl
        cases e3
        have hw : ws.length < sizeLine := by rw [← z.length]; exact hl
        obtain ⟨S, R'⟩ := fin (ws ++ [y]) (by simp; omega) (z.append ⟨y, [], rfl, qy, rfl⟩)
        exact ⟨a, ws, y, rfl, rfl, e2, hw, k _ rho _ S R' rfl⟩
      · cases e3
    · cases e
def extendO : OpM := fun d ds h => match ds with
  | [e] => match seqL e h with
    | some ys => chL (fun xs => if xs.length + ys.length ≤ sizeLine then some (.non, xs ++ ys) else none) d h
    | none => none
  | _ => none
theorem rz_extend {G : Gm} : RzM G "list" rExtend isL extendO where
  ty := fun rho hh H d v R q h => isL_ty R q h
  run := fun rho hh H d ds v vs d' hh' Q R qd qs e k => by
    unfold extendO at e
    split at e
    · rename_i x
      obtain ⟨y, rfl, qy⟩ := dens_one qs
      split at e
      · rename_i ys es
        obtain ⟨b, us, rfl, e4, l4, z4⟩ := seqL_of R qy es
        obtain ⟨i, a, xs, zs, ws, rfl, e1, rfl, e2, l, z, e3, rfl, fin⟩ := chL_of R qd e
        split at e3
        · rename_i hl
          cases e3
          have hw : ws.length + us.length ≤ sizeLine := by rw [← z.length, ← z4.length]; exact hl
          obtain ⟨S, R'⟩ := fin (ws ++ us) (by simp; omega) (z.append z4)
          exact ⟨a, b, ws, us, rfl, rfl, e2, e4, hw, k _ rho _ S R' rfl⟩
        · cases e3
      · cases e
    · cases e
def insertO : OpM := fun d ds h => match ds with
  | [.int i, e] => chL (fun xs => if xs.length < sizeLine ∧ 0 ≤ i ∧ i < 1000000000 then some (.non, xs.take i.toNat ++ [e] ++ xs.drop i.toNat) else none) d h
  | _ => none
theorem rz_insert {G : Gm} : RzM G "list" (fun x vs H Q => ∃ (l : Addr) (xs : List V) (i : Int) (y : V), x = .ref l ∧ vs = [.int i, y] ∧ H l = some (.lst xs) ∧ xs.length < sizeLine ∧ 0 ≤ i ∧ i < 2 ^ 63 ∧
    Q .non (upd H l (.lst (xs.take i.toNat ++ [y] ++ xs.drop i.toNat)))) isL insertO where
  ty := fun rho hh H d v R q h => isL_ty R q h
  run := fun rho hh H d ds v vs d' hh' Q R qd qs e k => by
    unfold insertO at e
    split at e
    · rename_i i x
      obtain ⟨w, y, rfl, qw, qy⟩ := dens_two qs
      obtain ⟨j, a, xs, ys, ws, rfl, e1, rfl, e2, l, z, e3, rfl, fin⟩ := chL_of R qd e
      split at e3
      · rename_i hl
        cases e3
        have hw : ws.length < sizeLine := by rw [← z.length]; exact hl.1
        obtain ⟨S, R'⟩ := fin (ws.take i.toNat ++ [y] ++ ws.drop i.toNat) (by simp only [List.length_append, List.length_take, List.length_drop, List.length_singleton]; omega) (((z.take i.toNat).append (show Dens G rho H [x] [y] from ⟨y, [], rfl, qy, rfl⟩)).append (z.drop i.toNat))
        exact ⟨a, ws, i, y, rfl, by rw [show w = .int i from qw], e2, hw, hl.2.1, by have := hl.2.2; omega, k _ rho _ S R' rfl⟩
      · cases e3
    · cases e
def popO : OpM := fun d ds h => match ds with
  | [] => chL (fun xs => match xs[xs.length - 1]? with
    | some y => some (y, xs.dropLast)
    | none => none) d h
  | _ => none
theorem Dens.dropLast {G : Gm} {rho : Rm} {H : Hp} {ds : List D} {vs : List V} (h : Dens G rho H ds vs) : Dens G rho H ds.dropLast vs.dropLast := by
  rw [List.dropLast_eq_take, List.dropLast_eq_take, h.length]; exact h.take _
theorem rz_pop {G : Gm} : RzM G "list" rPop isL popO where
  ty := fun rho hh H d v R q h => isL_ty R q h
  run := fun rho hh H d ds v vs d' hh' Q R qd qs e k => by
    unfold popO at e
    split at e
    · rw [Dens] at qs
      subst qs
      obtain ⟨i, a, xs, ys, ws, rfl, e1, rfl, e2, l, z, e3, rfl, fin⟩ := chL_of R qd e
      split at e3
      · rename_i y ey
        cases e3
        obtain ⟨w, ew, qw⟩ := z.get ey
        obtain ⟨S, R'⟩ := fin ws.dropLast (by simp; omega) z.dropLast
        rw [z.length] at ew
        exact ⟨a, ws, w, rfl, rfl, e2, ew, k _ rho _ S R' (Den.step R S _ _ qw)⟩
      · cases e3
    · cases e

/-! ### o[i] = v -/
abbrev OpS := D → D → D → Hh → Option Hh
def RzS (G : Gm) (t : TSet) (f : OpS) : Prop := ∀ rho hh H o i d vo vi v hh' (Q : Hp → Prop), Rep G rho hh H → Den G rho H o vo → Den G rho H i vi → Den G rho H d v → f o i d hh = some hh' →
  (∀ H', Step rho H rho H' → Rep G rho hh' H' → Q H') → t vo vi v H Q
def gSubD (mo mi : ME) (f : OpS) : MG := fun d env h => match mo env h with
  | .ok o h1 => match mi env h1 with
    | .ok i h2 => (f o i d h2).map fun h3 => (env, h3)
    | _ => none
  | _ => none
section
variable {X : Cx} {o i : Expr} {mo mi : ME} {t : TSet} {f : OpS} {pos : Pos}
theorem dg_sub (ho : DE X.nox o mo) (hi : DE X.nox i mi) (hs : PSet X t) (z : RzS (Cx.gm X) t f)
    (ha : ∀ v, assign (.Subscript o i pos) X.env v = (do
      let ov ← holding [v] (eval o X.env)
      let iv ← holding [v, ov] (eval i X.env)
      standAt pos
      holding [v, ov, iv] (setItem ov iv v)
      release [v, ov, iv] []) := by intro _; rfl) : DG X (.Subscript o i pos) (gSubD mo mi f) :=
  ⟨pg_weak (pg_sub (PE.nox (ho.run WF takes0)) (PE.nox (hi.run WF takes0)) hs ha) fun v σ H Q ⟨rho, env, hh, d, R, E, q, p⟩ => by
    unfold gSubD at p
    refine ⟨rho, env, hh, R, E, ?_⟩
    show PostE (Cx.gm X) (Den (Cx.gm X)) _ rho H (mo env hh) _
    cases e1 : mo env hh with
    | stuck => rw [e1] at p; exact p.elim
    | err x h1 => rw [e1] at p; exact p.elim
    | ok od h1 =>
      rw [e1] at p
      intro rho1 H1 ov S1 R1 q1
      refine ⟨rho1, env, h1, R1, E.step R S1, ?_⟩
      show PostE (Cx.gm X) (Den (Cx.gm X)) _ rho1 H1 (mi env h1) _
      simp only at p
      cases e2 : mi env h1 with
      | stuck => rw [e2] at p; exact p.elim
      | err x h1 => rw [e2] at p; exact p.elim
      | ok id h2 =>
        rw [e2] at p
        intro rho2 H2 iv S2 R2 q2
        simp only at p
        cases e3 : f od id d h2 with
        | none => rw [e3] at p; exact p.elim
        | some hh' =>
          rw [e3] at p
          have S12 := S1.trans S2
          exact z rho2 h2 H2 od id d ov iv v hh' _ R2 (Den.step R1 S2 _ _ q1) q2 (Den.step R S12 _ _ q) e3 fun H' S' R' => p rho2 H' σ (S12.trans S') R' (E.step R (S12.trans S'))⟩
end
def setO : OpS := fun o i d h => match o with
  | .ref j => match h[j]? with
    | some (.lst xs) => match i with
      | .int k => (ixN xs.length k).map fun n => h.set j (.lst (xs.set n d))
      | _ => none
    | _ => none
  | _ => none
theorem Dens.set {G : Gm} {rho : Rm} {H : Hp} {d : D} {v : V} (q : Den G rho H d v) : ∀ {ds : List D} {vs : List V} (n : Nat), Dens G rho H ds vs → Dens G rho H (ds.set n d) (vs.set n v)
  | [], vs, n, h => by rw [Dens] at h; subst h; simp [Dens]
  | x :: ds, vs, 0, h => by
    rw [Dens] at h
    obtain ⟨w, r, rfl, a, b⟩ := h
    exact ⟨v, r, rfl, q, b⟩
  | x :: ds, vs, n + 1, h => by
    rw [Dens] at h
    obtain ⟨w, r, rfl, a, b⟩ := h
    exact ⟨w, r.set n v, rfl, a, Dens.set q n b⟩
theorem rz_set {G : Gm} : RzS G rSetL setO := fun rho hh H o i d vo vi v hh' Q R qo qi qd e k => by
  unfold setO at e
  split at e
  · rename_i j
    split at e
    · rename_i xs ex
      split at e
      · rename_i n
        obtain ⟨m, e1, rfl⟩ := Option.map_eq_some_iff.mp e
        rw [Den] at qo
        obtain ⟨a, e2, rfl⟩ := qo
        obtain ⟨ws, e3, l, z⟩ := R.ob j a _ e2 ex
        have S : Step rho H rho (upd H a (.lst (ws.set m v))) := .put (List.mem_of_getElem? e2)
        refine ⟨a, ws, n, m, rfl, qi, e3, by rw [← z.length]; exact e1, k _ S (R.put e2 ⟨_, upd_same, by simpa using l, Dens.step R S _ _ (z.set qd m)⟩)⟩
      · cases e
    · cases e
  · cases e

/-! ### x op= e -/
def sAug (i : Nat) (m : ME) (f : Op2) : MS := fun env h => match env[i]? with
  | some (some x) => (m env h).st env fun y h1 => match f x y h1 with
    | some d => .nx (env.set i (some d)) h1
    | none => .stuck
  | _ => .stuck
theorem ds_aug {X : Cx} {i : Nat} {x : Str} {e : Expr} {m : ME} {op : Operator} {r : R2} {f : Op2} {pos pos' : Pos} (hN : X.N.Nodup) (he : DE X e m) (ho : OpR X (inplaceOp op) r) (z : Rz2 (Cx.gm X) r f) (hi : X.N[i]? = some x := by rfl) (hx : Loc X.env.scope x := by first | exact Or.inl rfl | exact Or.inr rfl)
    (hf : X.fn x = true ∨ X.env.scope.names.lookup x = some .local := by first | exact .inl rfl | exact .inr rfl) : DS X (.AugAssign (.Name x pos') op e pos) (sAug i m f) :=
  ⟨fun W tk => ps_weak (ps_aug (ti := r) hN hi hx (he.run W tk) (fun pins s σ H x y v u Q I rx ry q => ho pins s σ H x y v u Q I rx ry q) hf) fun De σ H ⟨rho, env, hh, R, E, p⟩ => by
    unfold sAug at p
    split at p
    · rename_i d ed
      obtain ⟨v, ev, qv⟩ := E.2 i d ed
      refine ⟨v, ev, rho, env, hh, R, E, ?_⟩
      show PostE (Cx.gm X) (Den (Cx.gm X)) _ rho H (m env hh) _
      cases e1 : m env hh with
      | stuck => rw [e1] at p; exact p
      | err y h1 =>
        rw [e1] at p
        exact fun rho1 H1 c d S R1 q => p rho1 H1 σ c d S R1 (E.step R S) q
      | ok y h1 =>
        rw [e1, st_ok] at p
        intro rho1 H1 w S1 R1 q1
        cases e2 : f d y h1 with
        | none => rw [e2] at p; exact p.elim
        | some z2 =>
          rw [e2] at p
          exact z rho1 h1 H1 d y v w z2 _ R1 (Den.step R S1 _ _ qv) q1 e2 fun u H' S' R' q' => p rho1 H' _ (S1.trans S') R' ((E.step R (S1.trans S')).set q')
    · exact p.elim⟩
end MR

/-! F11: dicts by numbers and texts. -/
namespace MR
open PySem PySem.Spec PyProof.Rows L2

section
variable {G : Gm} {rho : Rm} {H : Hp} {hh : Hh}
/-- a thing that is set apart is changed -/
theorem putH {p : Addr} {o o2 : HO} (hp : H p = some o) (mu : Mut (some o)) (hr : p ∈ rho.res) : (∀ a vs, SqT G.K H a vs → SqT G.K (upd H p o2) a vs) ∧ (∀ a vs, H a = some (.lst vs) → a ∉ rho.at_ → a ∉ rho.res → (upd H p o2) a = some (.lst vs)) ∧ (∀ a o u, H a = some (.frz o u) → (upd H p o2) a = some (.frz o u)) := by
  have nt : ∀ a u, H a = some u → ¬ Mut (some u) → a ≠ p := fun a u e n z => by
    subst z
    rw [hp] at e; cases e
    exact n mu
  refine ⟨fun a vs h => ?_, fun a vs h n n2 => ?_, fun a o u h => ?_⟩
  · rcases h with (h | ⟨o, h⟩) | h
    · exact .inl (.inl (by rw [upd_ne (nt _ _ h fun z => z)]; exact h))
    · exact .inl (.inr ⟨o, by rw [upd_ne (nt _ _ h fun z => z)]; exact h⟩)
    · exact .inr h
  · rw [upd_ne fun e => n2 (by rw [e]; exact hr)]; exact h
  · rw [upd_ne (nt _ _ h fun z => z)]; exact h
theorem Rep.putH (R : Rep G rho hh H) {p : Addr} {o o2 : HO} (hp : H p = some o) (mu : Mut (some o)) (hr : p ∈ rho.res) (ha : p ∉ rho.at_) : Rep G rho hh (upd H p o2) := by
  obtain ⟨ht, hl, hf⟩ := MR.putH (G := G) (o2 := o2) hp mu hr
  refine ⟨R.nd, fun a m => ?_, R.len, fun i a ob e1 e2 => ?_⟩
  · by_cases e : a = p
    · subst e; exact ⟨_, upd_same⟩
    · obtain ⟨o, q⟩ := R.hd a m
      exact ⟨o, by rw [upd_ne e]; exact q⟩
  · have ne : a ≠ p := fun e => ha (by rw [← e]; exact List.mem_of_getElem? e1)
    have x := R.ob i a ob e1 e2
    cases ob with
    | lst ds => obtain ⟨vs, e, l, q⟩ := x; exact ⟨vs, by rw [upd_ne ne]; exact e, l, dens_same ht hl hf ds vs q⟩
    | dK kvs => obtain ⟨vs, e, l, q⟩ := x; exact ⟨vs, by rw [upd_ne ne]; exact e, l, Paired.mapP q fun p q r => ⟨r.1, den_same ht hl hf _ _ r.2⟩⟩
    | dN kvs =>
      obtain ⟨xs, l0, l1, es, e, q, r⟩ := x
      exact ⟨xs, l0, l1, es, by rw [upd_ne ne]; exact e, Paired.mapP q fun p q r => ⟨r.1, den_same ht hl hf _ _ r.2.1, let ⟨v, a, b⟩ := r.2.2; ⟨v, a, den_same ht hl hf _ _ b⟩⟩, r⟩
    | ins C fs =>
      obtain ⟨c, dx, fvs, g, e, o', q⟩ := x
      have nd : dx ≠ p := fun z => by
        subst z
        rw [hp] at o'; cases o'; exact mu
      exact ⟨c, dx, fvs, g, by rw [upd_ne ne]; exact e, by rw [upd_ne nd]; exact o', Paired.mapP q fun p q r => ⟨r.1, den_same ht hl hf _ _ r.2⟩⟩
/-- a thing is laid and set apart -/
theorem new_held (R : Rep G rho hh H) {p : Addr} {o : HO} (hp : H p = none) : Step rho H (rho.hold p) (upd H p o) ∧ Rep G (rho.hold p) hh (upd H p o) ∧ p ∉ rho.at_ := by
  refine ⟨.laidR hp, ?_, fun hm => ?_⟩
  · exact ⟨R.nd, fun a m => by
      rcases List.mem_cons.mp m with e | m
      · rw [e]; exact ⟨_, upd_same⟩
      · obtain ⟨o', e⟩ := R.hd a m
        exact ⟨o', by rw [upd_ne (ne_of_none e hp)]; exact e⟩, R.len, fun i a o' e1 e2 => (R.ob i a o' e1 e2).step R (.laidR hp) (fun u q => by rw [upd_ne (ne_of_none q hp)]; exact q) fun dx q => by rw [upd_ne (ne_of_none q hp)]; exact q⟩
  · obtain ⟨u, e, _⟩ := R.mut hm
    rw [hp] at e; cases e
end

/-! ### what a dict holds -/
section
variable {κ : Type} [DecidableEq κ] {α : Type}
def getG (kvs : List (κ × α)) (k : κ) : Option α := (kvs.find? fun kv => decide (kv.1 = k)).map (·.2)
def putG (kvs : List (κ × α)) (k : κ) (v : α) : List (κ × α) :=
  if (kvs.any fun kv => decide (kv.1 = k)) = true then kvs.map (fun kv => if kv.1 = k then (kv.1, v) else kv) else kvs ++ [(k, v)]
def dropG (kvs : List (κ × α)) (k : κ) : List (κ × α) := kvs.filter fun kv => decide (kv.1 ≠ k)
def mergeG (kvs more : List (κ × α)) : List (κ × α) := more.foldl (fun acc kv => putG acc kv.1 kv.2) kvs
end
def keyD (d : D) : Option Key := match d with
  | .int i => some (.inl i)
  | .str x => some (.inr x)
  | _ => none
abbrev KD (G : Gm) (rho : Rm) (H : Hp) : List (Key × D) → List (Key × V) → Prop := Paired fun (p : Key × D) (q : Key × V) => p.1 = q.1 ∧ Den G rho H p.2 q.2
section
variable {G : Gm} {rho rho' : Rm} {H H' : Hp} {hh : Hh}
theorem KD.step (R : Rep G rho hh H) (S : Step rho H rho' H') {a : List (Key × D)} {b : List (Key × V)} (h : KD G rho H a b) : KD G rho' H' a b := Paired.mapP h fun p q r => ⟨r.1, Den.step R S _ _ r.2⟩
theorem KD.get {a : List (Key × D)} {b : List (Key × V)} (h : KD G rho H a b) {k : Key} {d : D} (e : getG a k = some d) : ∃ v, valV b k = some v ∧ Den G rho H d v := by
  induction h with
  | nil => cases e
  | @cons p q ps qs r t ih =>
    unfold getG at e
    rw [List.find?_cons] at e
    by_cases hk : p.1 = k
    · simp only [hk, decide_true, Option.map_some, Option.some.injEq] at e
      subst e
      exact ⟨q.2, valV_pos (r.1.symm.trans hk), r.2⟩
    · simp only [hk, decide_false] at e
      obtain ⟨v, e1, e2⟩ := ih e
      exact ⟨v, by rw [valV_neg (fun z => hk (r.1.trans z))]; exact e1, e2⟩
theorem KD.any {a : List (Key × D)} {b : List (Key × V)} (h : KD G rho H a b) (k : Key) : (a.any fun kv => decide (kv.1 = k)) = (b.any fun kv => decide (kv.1 = k)) := by
  induction h with
  | nil => rfl
  | @cons p q ps qs r t ih => simp only [List.any_cons, ih, r.1]
theorem KD.none {a : List (Key × D)} {b : List (Key × V)} (h : KD G rho H a b) {k : Key} (e : getG a k = none) : valV b k = none := by
  induction h with
  | nil => rfl
  | @cons p q ps qs r t ih =>
    unfold getG at e
    rw [List.find?_cons] at e
    by_cases hk : p.1 = k
    · simp [hk] at e
    · simp only [hk, decide_false] at e
      rw [valV_neg (fun z => hk (r.1.trans z))]
      exact ih e
theorem KD.append {a a2 : List (Key × D)} {b b2 : List (Key × V)} (h : KD G rho H a b) (h2 : KD G rho H a2 b2) : KD G rho H (a ++ a2) (b ++ b2) := by
  induction h with
  | nil => exact h2
  | cons r t ih => exact .cons r ih
theorem KD.put {a : List (Key × D)} {b : List (Key × V)} (h : KD G rho H a b) (k : Key) {d : D} {v : V} (q : Den G rho H d v) : KD G rho H (putG a k d) (putK b k v) := by
  unfold putG putK
  rw [← h.any k]
  split
  · rename_i hany
    clear hany
    induction h with
    | nil => exact .nil
    | @cons p q' ps qs r t ih =>
      rw [List.map_cons, List.map_cons]
      refine .cons ?_ ih
      by_cases hk : p.1 = k
      · rw [if_pos hk, if_pos (r.1.symm.trans hk)]
        exact ⟨r.1, q⟩
      · rw [if_neg hk, if_neg (fun z => hk (r.1.trans z))]
        exact r
  · exact h.append (.cons ⟨rfl, q⟩ .nil)
theorem KD.drop {a : List (Key × D)} {b : List (Key × V)} (h : KD G rho H a b) (k : Key) : KD G rho H (dropG a k) (dropK b k) := by
  unfold dropG dropK
  induction h with
  | nil => exact .nil
  | @cons p q ps qs r t ih =>
    rw [List.filter_cons, List.filter_cons, ← r.1]
    split
    · exact .cons r ih
    · exact ih
theorem KD.merge {more : List (Key × D)} {rs : List (Key × V)} (h : KD G rho H more rs) : ∀ {a : List (Key × D)} {b : List (Key × V)}, KD G rho H a b → KD G rho H (mergeG a more) (mergeK b rs) := by
  unfold mergeG mergeK
  induction h with
  | nil => intro a b q; exact q
  | @cons p q ps qs r t ih =>
    intro a b z
    rw [List.foldl_cons, List.foldl_cons, ← r.1]
    exact ih (z.put p.1 r.2)
theorem keyD_of {d : D} {k : Key} {v : V} (h : keyD d = some k) (q : Den G rho H d v) : v = kV k := by
  cases d with
  | int i => cases h; exact q
  | str x => cases h; exact q
  | non => cases h
  | bl b => cases h
  | tup b => cases h
  | wtp b => cases h
  | lst b => cases h
  | ref b => cases h
  | glb b => cases h
  | scr b => cases h
end
theorem length_putG {κ α : Type} [DecidableEq κ] (kvs : List (κ × α)) (k : κ) (v : α) : (putG kvs k v).length ≤ kvs.length + 1 := by
  unfold putG
  split
  · simp
  · simp
theorem length_mergeG {κ α : Type} [DecidableEq κ] (more : List (κ × α)) : ∀ kvs : List (κ × α), (mergeG kvs more).length ≤ kvs.length + more.length := by
  unfold mergeG
  induction more with
  | nil => intro kvs; simp
  | cons p ps ih =>
    intro kvs
    rw [List.foldl_cons]
    have a := ih (putG kvs p.1 p.2)
    have b := length_putG kvs p.1 p.2
    simp only [List.length_cons]
    omega

/-! ### {k: v, ..} -/
def aPairs : List (ME × ME) → DEnv → Hh → Res (List (D × D))
  | [], _, h => .ok [] h
  | (a, b) :: r, env, h => (a env h).bind fun x h1 => (b env h1).bind fun y h2 => (aPairs r env h2).bind fun ps h3 => .ok ((x, y) :: ps) h3
def keyDs : List (D × D) → Option (List (Key × D))
  | [] => some []
  | (a, b) :: r => match keyD a, keyDs r with
    | some k, some ks => some ((k, b) :: ks)
    | _, _ => none
def eDisp (prs : List (ME × ME)) : ME := fun env h => (aPairs prs env h).bind fun ps h1 => match keyDs ps with
  | some kvs => if kvs.length ≤ 15 then .ok (.ref h1.length) (h1 ++ [.dK (mergeG [] kvs)]) else .stuck
  | none => .stuck
abbrev PD (G : Gm) (rho : Rm) (H : Hp) : List (D × D) → List (V × V) → Prop := Paired fun p q => Den G rho H p.1 q.1 ∧ Den G rho H p.2 q.2
section
variable {G : Gm} {W : WX} {σ : L2.St} {env : DEnv}
theorem pairs_of : ∀ (prs : List (ME × ME)) (rho : Rm) (hh : Hh) (H : Hp) (k : List (V × V) → Hp → Prop), Rep G rho hh H → EnvD G rho H env σ → PostE G (PD G) (wAt W σ) rho H (aPairs prs env hh) k →
    tPairs (prs.map fun p => (TD G W p.1, TD G W p.2)) σ H k
  | [], rho, hh, H, k, R, E, p => p rho H [] .refl R .nil
  | (a, b) :: r, rho, hh, H, k, R, E, p => by
    refine ⟨rho, env, hh, R, E, ?_⟩
    have p : PostE G (PD G) (wAt W σ) rho H ((a env hh).bind fun x h1 => (b env h1).bind fun y h2 => (aPairs r env h2).bind fun ps h3 => .ok ((x, y) :: ps) h3) k := p
    show PostE G (Den G) (wAt W σ) rho H (a env hh) _
    cases e1 : a env hh with
    | stuck => rw [e1] at p; exact p
    | err x h1 => rw [e1] at p; exact p
    | ok x h1 =>
      rw [e1, bind_ok] at p
      intro rho1 H1 vx S1 R1 q1
      refine ⟨rho1, env, h1, R1, E.step R S1, ?_⟩
      have p := p.start S1
      show PostE G (Den G) (wAt W σ) rho1 H1 (b env h1) _
      cases e2 : b env h1 with
      | stuck => rw [e2] at p; exact p
      | err x h1 => rw [e2] at p; exact p
      | ok y h2 =>
        rw [e2, bind_ok] at p
        intro rho2 H2 vy S2 R2 q2
        have p := p.start S2
        refine pairs_of r rho2 h2 H2 _ R2 ((E.step R S1).step R1 S2) ?_
        cases e3 : aPairs r env h2 with
        | stuck => rw [e3] at p; exact p
        | err x h1 => rw [e3] at p; exact p
        | ok ps h3 =>
          rw [e3, bind_ok] at p
          intro rho3 H3 vps S3 R3 q3
          exact p rho3 H3 ((vx, vy) :: vps) S3 R3 (.cons ⟨Den.step R2 S3 _ _ (Den.step R1 S2 _ _ q1), Den.step R2 S3 _ _ q2⟩ q3)
theorem keyDs_of {rho : Rm} {H : Hp} : ∀ {ps : List (D × D)} {kvs : List (Key × D)} {vps : List (V × V)}, PD G rho H ps vps → keyDs ps = some kvs → ∃ ws : List (Key × V), vps = ws.map (fun kv => (kV kv.1, kv.2)) ∧ KD G rho H kvs ws
  | [], kvs, vps, h, e => by
    cases h; cases e
    exact ⟨[], rfl, .nil⟩
  | (a, b) :: r, kvs, vps, h, e => by
    cases h with
    | @cons p q ps qs h1 h2 =>
      rw [keyDs] at e
      split at e
      · rename_i k ks e1 e2
        cases e
        obtain ⟨ws, rfl, z⟩ := keyDs_of h2 e2
        obtain ⟨q1, q2⟩ := q
        have eq : q1 = kV k := keyD_of e1 h1.1
        subst eq
        exact ⟨(k, q2) :: ws, rfl, .cons ⟨rfl, h1.2⟩ z⟩
      · cases e
end
structure DPs (X : Cx) (pos : Pos) (keys : List (Option Expr)) (values : List Expr) (prs : List (ME × ME)) : Prop where
  run : ∀ W, Takes X W → PPs X pos keys values (prs.map fun p => (TD (Cx.gm X) W p.1, TD (Cx.gm X) W p.2))
section
variable {X : Cx} {pos : Pos} {keys : List (Option Expr)} {values : List Expr} {prs : List (ME × ME)} {k v : Expr} {mk mv : ME}
theorem dps_nil : DPs X pos [] [] [] := ⟨fun W _ => pps_nil⟩
theorem dps_cons (hk : DE X k mk) (hv : DE X v mv) (hr : DPs X pos keys values prs) : DPs X pos (some k :: keys) (v :: values) ((mk, mv) :: prs) := ⟨fun W tk => pps_cons (hk.run W tk) (hv.run W tk) (hr.run W tk)⟩
theorem de_disp (h : DPs X pos keys values prs) (hall : keys.all (·.isSome) = true := by rfl) (hl : keys.length = values.length := by rfl) (h0 : keys ≠ [] := by intro z; cases z) (h15 : keys.length ≤ 15 := by decide) : DE X (.Dict keys values pos) (eDisp prs) :=
  ⟨fun W tk => pe_weak (pe_disp (h.run W tk) hall hl h0 h15) fun σ H Q ⟨rho, env, hh, R, E, p⟩ pp hp => by
    obtain ⟨S0, R0, na⟩ := new_held (o := .dK []) R hp
    refine pairs_of prs (rho.hold pp) hh _ _ R0 (E.step R S0) ?_
    unfold eDisp at p
    cases e1 : aPairs prs env hh with
    | stuck => rw [e1] at p; exact p
    | err x h1 => rw [e1] at p; exact p.start S0
    | ok ps h1 =>
      rw [e1, bind_ok] at p
      intro rho1 H1 vps S1 R1 q1
      have hk : H1 pp = some (.dK []) := S1.keep pp _ upd_same na
      have hr : pp ∈ rho1.res := S1.kept pp List.mem_cons_self
      have ha : pp ∉ rho1.at_ := S1.out upd_same na
      refine ⟨hk, ?_⟩
      cases e2 : keyDs ps with
      | none => rw [e2] at p; exact p.elim
      | some kvs =>
        rw [e2] at p
        simp only at p
        split at p
        · rename_i hz
          obtain ⟨ws, rfl, z⟩ := keyDs_of q1 e2
          have hlen := Paired.length z
          refine ⟨ws, rfl, by omega, ?_⟩
          have S2 : Step rho H rho1 (upd H1 pp (.dK (mergeK [] ws))) := (S0.trans S1).since hp
          have R2 := R1.putH (o2 := .dK (mergeK [] ws)) hk True.intro hr ha
          obtain ⟨ht, hl, hf⟩ := putH (G := Cx.gm X) (o2 := .dK (mergeK [] ws)) hk True.intro hr
          have z2 : KD (Cx.gm X) rho1 (upd H1 pp (.dK (mergeK [] ws))) kvs ws := Paired.mapP z fun p q r => ⟨r.1, den_same ht hl hf _ _ r.2⟩
          have hm : (mergeK [] ws).length ≤ sizeLine := by
            have a := length_mergeK ws []
            rw [List.length_nil] at a
            rw [sizeLine_eq]; omega
          refine p _ _ _ (S2.turn hp) (R2.turn hr ha ⟨_, upd_same, hm, z2.merge .nil⟩) ?_
          rw [Den]
          exact ⟨pp, by rw [← R2.len]; show (rho1.at_ ++ [pp])[_]? = _; rw [List.getElem?_append_right (Nat.le_refl _)]; simp, rfl⟩
        · exact p.elim⟩
end

/-! ### d[k] -/
def ixDO : Op2 := fun a b h => match a with
  | .ref i => match h[i]? with
    | some (.dK kvs) => match keyD b with
      | some k => getG kvs k
      | none => none
    | _ => none
  | _ => none
def rIxD : R2 := fun x y H Q => ∃ a kvs k v, x = .ref a ∧ H a = some (.dK kvs) ∧ y = kV k ∧ valV kvs k = some v ∧ Q v H
theorem ix_dict {X : Cx} (hu : X.A.units + 1 < cLine) : IxR X rIxD := by
  intro value slice pins s σ H x y v u Q I rx ry h hs
  obtain ⟨a, kvs, k, z, rfl, ha, rfl, hv, q⟩ := h
  cases rx
  have g : DGet H a (kV k) (some z) := by rw [← hv]; exact .k ha
  exact tail_any (dict_typeIs I g) PySem.F.slot_dict_getitem.lookup (d_getItem hu I g ry fun w' s' I' r' => ⟨z, H, I', r', q⟩) hs
theorem rz_ixD {G : Gm} : Rz2 G rIxD ixDO := fun rho hh H d1 d2 v1 v2 d Q R q1 q2 e k => by
  unfold ixDO at e
  split at e
  · rename_i i
    split at e
    · rename_i kvs e1
      split at e
      · rename_i key e2
        rw [Den] at q1
        obtain ⟨a, e3, rfl⟩ := q1
        obtain ⟨fvs, e4, l, z⟩ := R.ob i a _ e3 e1
        obtain ⟨v, e5, qv⟩ := KD.get z e
        exact ⟨a, fvs, key, v, rfl, e4, keyD_of e2 q2, e5, k _ H .refl R qv⟩
      · cases e
    · cases e
  · cases e
/-- an item of anything -/
def ixA : Op2 := fun a b h => match ixO a b h with
  | some d => some d
  | none => ixDO a b h
theorem rz_ixA {G : Gm} : Rz2 G (fun x y H Q => rIx G.K x y H Q ∨ rIxD x y H Q) ixA := fun rho hh H d1 d2 v1 v2 d Q R q1 q2 e k => by
  unfold ixA at e
  split at e
  · rename_i d' e1
    cases e
    exact .inl (rz_ix rho hh H d1 d2 v1 v2 d Q R q1 q2 e1 k)
  · exact .inr (rz_ixD rho hh H d1 d2 v1 v2 d Q R q1 q2 e k)
theorem de_ixA {X : Cx} {a b : Expr} {ma mb : ME} {pos : Pos} (hu : X.A.units + 1 < cLine) (ha : DE X a ma) (hb : DE X b mb) (hs : PlainIx b := by intro _ _; rfl) : DE X (.Subscript a b pos) (eOp2 ixA ma mb) := de_ix (ix_seq.or (ix_dict hu)) rz_ixA ha hb hs
end MR

/-! F12: what a def leaves behind, names of the module, the law's end. -/
namespace MR
open PySem PySem.Spec PyProof.Rows L2

theorem hu65 {k : Nat} {A : Around} (r : Room k A) : A.units + 65 < cLine := by have := r.un; omega

section
variable {P : Program} {w : World} {K : PySem.W.Frag} {mg : Str → Option Value} {base : Heap}
/-- what is new is dropped; what stood may have changed, within -/
noncomputable def dropF (F : MF) : MF := fun ds h => match F ds h with
  | .ok d h' => open Classical in if bel h.length d = true ∧ h.length ≤ h'.length ∧ ∀ (i : Nat) o, i < h.length → h'[i]? = some o → h[i]? = some o ∨ O.bel h.length o then .ok d (h'.take h.length) else .stuck
  | .err x h' => .err x h'
  | .stuck => .stuck
theorem dropF_of {F : MF} {ds : List D} {h h' : Hh} {d : D} (e : F ds h = .ok d h') (b : bel h.length d = true) (hl : h.length ≤ h'.length) (ho : ∀ (i : Nat) o, i < h.length → h'[i]? = some o → h[i]? = some o ∨ O.bel h.length o) :
    dropF F ds h = .ok d (h'.take h.length) := by
  unfold dropF
  rw [e]
  exact if_pos ⟨b, hl, ho⟩
theorem FnD.drop {k : Nat} {f : Addr} {fd : FuncData} {ps : List Str} {F : MF} (h : FnD P w K mg base k f fd ps F) : FnD P w K mg base k f fd ps (dropF F) :=
  FnOk.imp h fun vs H Q E ⟨hl, rho, hh, ds, R, q, p⟩ => ⟨hl, rho, hh, ds, R, q, by
    unfold dropF at p
    cases e : F ds hh with
    | ok d hh' =>
      rw [e] at p
      simp only at p
      split at p
      · rename_i hc
        obtain ⟨hb, hle, ho⟩ := hc
        intro rho' H' v S R' q'
        obtain ⟨ex, ee, hex⟩ := S.ext
        have b' : bel rho.at_.length d = true := by rw [R.len]; exact hb
        have h2 : ∀ a, a ∉ rho'.at_ → a ∉ rho'.res → a ∉ rho.res := fun a _ n m => n (S.kept a m)
        refine p rho H' v S.drop ⟨R.nd, fun a m => let ⟨o', e⟩ := R.hd a m; S.there a o' e, by rw [List.length_take, R.len]; omega, fun i a o e1 e2 => ?_⟩ (Den.res ⟨ex, ee⟩ h2 d v q' b')
        have hi : i < hh.length := by rw [← R.len]; exact (List.getElem?_eq_some_iff.mp e1).1
        have e3 : hh'[i]? = some o := by
          rw [List.getElem?_take] at e2
          simpa [hi] using e2
        refine (R'.ob i a o (S.get e1) e3).res ⟨ex, ee⟩ h2 ?_
        rcases ho i o hi e3 with z | z
        · exact (R.ob i a o e1 z).bel
        · rw [R.len]; exact z
      · exact p.elim
    | err x hh' => rw [e] at p; exact p
    | stuck => rw [e] at p; exact p⟩
end

/-! ### the module's names -/
/-- a def of the module -/
structure Fd (K : PySem.W.Frag) (mg : Str → Option Value) (x : Str) (st : Stmt) (ps : List Str) where
  f : Addr
  fd : FuncData
  F : Fun K x x st f fd
  g : mg x = some (.ref f)
  b : Binds K fd ps []
  r : ∀ (s : Shared) (us : List Value), us.length = ps.length → BindsTo s fd ⟨us, []⟩ (ps.zip us)
def mkFd {K : PySem.W.Frag} {h : Heap} {mg : Str → Option Value} (X : K.In h) (G : h.Ns mainGlobals mg) {x : Str} {st : Stmt} {ps : List Str} {f : Addr} {oc : Value} {od an : Option Addr} {osl : Array (Option Value)} {kV doc pm cdv ct : Value}
    (a : PySem.W.nsIn K mainGlobals x = some (some (.ref f))) (l : K.lookup f = some ⟨oc, od, .func (PySem.W.fnOf x x (defArgs st) (defBody st) (defScope st) .none kV doc pm an cdv ct), osl⟩) (c : PySem.W.codeIn K cdv x = true) (k : PySem.W.keepIn K (.ref f) = true)
    (hb : ∀ (kV doc pm : Value) (an : Option Addr) (cdv ct : Value) (us : List Value), us.length = ps.length → bindArgs (PySem.W.fnOf x x (defArgs st) (defBody st) (defScope st) .none kV doc pm an cdv ct) ⟨us, []⟩ = pure (ps.zip us)) : Fd K mg x st ps :=
  ⟨f, _, fun_mk l c k, PySem.W.mg_of X G a, (fun_mk l c k).binds hb, fun s us hl => .of_eq (hb _ _ _ _ _ _ us hl)⟩
/-- a constant of the module -/
structure Cn (P : Program) (w : World) (K : PySem.W.Frag) (mg : Str → Option Value) (x : Str) (d : D) where
  v : V
  u : Value
  g : mg x = some u
  r : RelV v u
  q : ∀ rho H, Den ⟨P, w, K⟩ rho H d v
def mkInt {P : Program} {w : World} {K : PySem.W.Frag} {h : Heap} {mg : Str → Option Value} (X : K.In h) (G : h.Ns mainGlobals mg) {x : Str} {i : Int} {t : Tok} (a : PySem.W.nsIn K mainGlobals x = some (some (.int i t))) : Cn P w K mg x (.int i) :=
  ⟨.int i, .int i t, PySem.W.mg_of X G a, ⟨t, rfl⟩, fun _ _ => rfl⟩
def mkStr {P : Program} {w : World} {K : PySem.W.Frag} {h : Heap} {mg : Str → Option Value} (X : K.In h) (G : h.Ns mainGlobals mg) {x : Str} {i : Str} {t : Tok} (a : PySem.W.nsIn K mainGlobals x = some (some (.str i t))) : Cn P w K mg x (.str i) :=
  ⟨.str i, .str i t, PySem.W.mg_of X G a, ⟨t, rfl⟩, fun _ _ => rfl⟩
/-- texts as they stand in a tuple of the module -/
theorem strs_dens {G : Gm} {rho : Rm} {H : Hp} : ∀ (xs : List Str), Dens G rho H (xs.map D.str) (xs.map V.str)
  | [] => rfl
  | x :: xs => ⟨.str x, xs.map V.str, rfl, rfl, strs_dens xs⟩
theorem strs_vals : ∀ (xs : List (Str × Tok)), Vals (xs.map fun p => V.str p.1) (xs.map fun p => Value.str p.1 p.2)
  | [] => .nil
  | x :: xs => .cons ⟨x.2, rfl⟩ (strs_vals xs)
def mkTupS {P : Program} {w : World} {K : PySem.W.Frag} {h : Heap} {mg : Str → Option Value} (X : K.In h) (G : h.Ns mainGlobals mg) {x : Str} {xs : List Str} {us : List Value} {f : Addr} {n : Nat} {sl : Array (Option Value)}
    (a : PySem.W.nsIn K mainGlobals x = some (some (.ref f))) (l : K.lookup f = some ⟨.type "tuple", none, .seq us.toArray n, sl⟩) (r : Vals (xs.map V.str) us) (hz : us.length ≤ sizeLine) : Cn P w K mg x (.tup (xs.map D.str)) :=
  ⟨.ref f, .ref f, PySem.W.mg_of X G a, rfl, fun rho H => by
    rw [Den]
    exact ⟨f, xs.map V.str, rfl, .inr ⟨_, us.toArray, n, l, rfl, rfl, rfl, by simpa using hz, by simpa using r⟩, by rw [r.length]; exact hz, strs_dens xs⟩⟩
theorem de_cn {X : Cx} {x : Str} {d : D} {pos : Pos} (hg : Gl X x) (c : Cn X.prog X.w X.K X.mg x d) (hd : (x == ("__debug__" : Str)) = false := by decide) : DE X (.Name x pos) (eC d) := de_glbD hg c.g c.r c.q hd

/-! ### the law -/
theorem sp_law {P : Program} {w : World} {K : PySem.W.Frag} {F : MF} {n : Nat} (hn : n ≤ sizeLine) (h : ∀ ns : List Int, ns.length ≤ n → ∃ h', F [.scr ns] [] = .ok (.bl true) h') (H : Hp) (a : Addr) (ns : List Int) (hl : ns.length ≤ n) (hO : Only H) (hS : SqL K H a (ns.map V.int)) :
    spD ⟨P, w, K⟩ 1 F [.ref a] H (fun v _ => v = .bl true) fun _ _ _ => False := by
  obtain ⟨h', e⟩ := h ns hl
  refine ⟨rfl, ⟨[], []⟩, [], [.scr ns], ⟨List.nodup_nil, (fun a h => absurd h (by simp)), rfl, (fun i a o e => by simp at e)⟩, ⟨.ref a, [], rfl, ?_, rfl⟩, ?_⟩
  · rw [Den]
    refine ⟨a, rfl, ?_, Nat.le_trans hl hn⟩
    rcases hS with (hS | hS) | hS
    · rcases hO a with z | ⟨o, xs, z⟩
      · rw [hS] at z; cases z
      · rw [hS] at z; cases z
    · exact .inl hS
    · exact .inr hS
  · rw [e]
    intro rho' H' v S R q
    exact q
theorem cx_law {P : Program} {w : World} {H : Hp} {s : Shared} {e : Value} {s' : Shared} (h : L2.CX P w [] H s (fun _ _ _ => False) e s') : False := by
  obtain ⟨_, _, _, _, _, _, _, _, _, _, _, _, z⟩ := h
  exact z
end MR

/-! F13: types as values, is of bools, list(x), {}, x += y, defs that call themselves. -/
namespace MR
open PySem PySem.Spec PyProof.Rows L2

section
variable {X : Cx}
/-- a type's name as a value -/
theorem de_tyN {x : Str} {T : String} {pos : Pos} (hg : Gl X x) (hm : X.mg x = none) (hv : bootBuiltins x = some (.type T)) (hn : x ≠ "__name__" := by decide) (hd : (x == ("__debug__" : Str)) = false := by decide) : DE X (.Name x pos) (eC (.glb (.ty T))) :=
  de_bltn hg hm hv rfl hn hd
end

/-! ### is True -/
def isBO (neg : Bool) : Op2 := fun a b _ => match a, b with
  | .bl x, .bl y => some (.bl (if neg then !decide (x = y) else decide (x = y)))
  | _, _ => none
theorem rz_isB {G : Gm} : Rz2 G rIsB (isBO false) := fun rho hh H d1 d2 v1 v2 d Q R q1 q2 e k => by
  unfold isBO at e
  split at e
  · rename_i a b
    cases e
    exact ⟨a, b, q1, q2, k _ H .refl R rfl⟩
  · cases e
theorem rz_isNotB {G : Gm} : Rz2 G rNotB (isBO true) := fun rho hh H d1 d2 v1 v2 d Q R q1 q2 e k => by
  unfold isBO at e
  split at e
  · rename_i a b
    cases e
    exact ⟨a, b, q1, q2, k _ H .refl R rfl⟩
  · cases e

/-! ### list(x) -/
def seqA (d : D) (h : Hh) : Option (List D) := match d with
  | .tup xs => some xs
  | .scr ns => some (ns.map D.int)
  | d => seqL d h
theorem seqA_of {G : Gm} {rho : Rm} {hh : Hh} {H : Hp} {d : D} {v : V} {ds : List D} (R : Rep G rho hh H) (q : Den G rho H d v) (e : seqA d hh = some ds) :
    ∃ a vs, v = .ref a ∧ (SqL G.K H a vs ∨ SqT G.K H a vs) ∧ vs.length ≤ sizeLine ∧ Dens G rho H ds vs := by
  unfold seqA at e
  split at e
  · rename_i xs
    cases e
    rw [Den] at q
    obtain ⟨a, ws, rfl, h1, l, z⟩ := q
    exact ⟨a, ws, rfl, .inr h1.t, by rw [← z.length]; have := z.length; omega, z⟩
  · rename_i ns
    cases e
    rw [Den] at q
    obtain ⟨a, rfl, hs, l⟩ := q
    refine ⟨a, ns.map V.int, rfl, .inl ?_, by simpa using l, dens_ints ns⟩
    rcases hs with ⟨o, hs⟩ | hs
    · exact .inl (.inr ⟨o, hs⟩)
    · exact .inr hs
  · obtain ⟨a, vs, rfl, h1, l, z⟩ := seqL_of R q e
    exact ⟨a, vs, rfl, .inl (SqL.of h1), l, z⟩
/-- the items of a sequence -/
def aSeq (m : ME) : MA := fun env h => (m env h).bind fun d h1 => lift (seqA d h1) h1
section
variable {X : Cx} {e : Expr} {m : ME} {pos p : Pos} {x : Str}
theorem dl_list1 (hg : Gl X x) (hm : X.mg x = none) (hv : bootBuiltins x = some (.type "list")) (ha : DE X e m)
    (hn : x ≠ "__name__" := by decide) (hdb : (x == ("__debug__" : Str)) = false := by decide) (he : starEach [e] X.env = (false, eval e X.env) :: starEach [] X.env := by rfl) (hpl : (backTo pos (starEach [] X.env)).any (·.1) = false := by rfl) :
    DL X (.Call (.Name x p) [e] [] pos) (aSeq m) :=
  ⟨fun W tk => pe_weak (pe_callTy call_list_of hg hm hv ((da_cons ha da_nil he).run W tk) hn hdb he hpl) fun σ H Q hq => by
    obtain ⟨rho, env, hh, R, E, p⟩ := hq
    refine ⟨rho, env, hh, R, E, ?_⟩
    unfold aSeq at p
    unfold aCons aNil
    cases e1 : m env hh with
    | stuck => rw [e1] at p; exact p
    | err z h1 => rw [e1] at p; exact p
    | ok d h1 =>
      rw [e1, bind_ok] at p
      rw [bind_ok, bind_ok]
      intro rho1 H1 vs S1 R1 q1
      obtain ⟨v, rfl, qv⟩ := dens_one q1
      cases e2 : seqA d h1 with
      | none => rw [e2] at p; exact p.elim
      | some ds =>
        rw [e2] at p
        obtain ⟨a, ws, rfl, hs, l, z⟩ := seqA_of R1 qv e2
        refine ⟨a, ws, rfl, hs, fun pp hp => ?_⟩
        obtain ⟨a, b, c, d⟩ := new_list S1 R1 z hp
        exact p _ _ pp ws a b upd_same List.mem_cons_self c (S1.back hp) l d⟩
/-- {} -/
def eDict0 : ME := fun _ h => .ok (.ref h.length) (h ++ [.dK []])
theorem de_dict0 : DE X (.Dict [] [] pos) eDict0 := ⟨fun W tk => pe_weak pe_dnewK fun σ H Q ⟨rho, env, hh, R, E, p⟩ pp hp => by
  obtain ⟨S0, R0, na⟩ := new_held (o := .dK []) R hp
  refine p _ _ _ (S0.turn hp) (R0.turn (List.mem_cons_self) na ⟨_, upd_same, Nat.zero_le _, .nil⟩) ?_
  rw [Den]
  exact ⟨pp, by rw [← R.len]; show (rho.at_ ++ [pp])[_]? = _; rw [List.getElem?_append_right (Nat.le_refl _)]; simp, rfl⟩⟩
end

/-! ### x += y, x -= y -/
def iaddO : Op2 := fun a b h => match a, b with
  | .int i, .int j => some (.int (i + j))
  | .str x, .str y => if x.length + y.length ≤ sizeLine then some (.str (x ++ y)) else none
  | _, _ => none
def rIaddA : R2 := fun x y H Q => rI0 (fun i j => .int (i + j)) x y H Q ∨ (∃ i j, x = .str i ∧ y = .str j ∧ i.length + j.length ≤ sizeLine ∧ Q (.str (i ++ j)) H)
theorem iop_addA {X : Cx} : OpR X (inplaceOp .Add) rIaddA := iop_add.or iop_add_str
theorem rz_iadd {G : Gm} : Rz2 G rIaddA iaddO := fun rho hh H d1 d2 v1 v2 d Q R q1 q2 e k => by
  unfold iaddO at e
  split at e
  · rename_i i j
    cases e
    exact .inl ⟨i, j, q1, q2, k _ H .refl R rfl⟩
  · rename_i x y
    split at e
    · rename_i hl
      cases e
      exact .inr ⟨x, y, q1, q2, hl, k _ H .refl R rfl⟩
    · cases e
  · cases e

/-! ### a def that calls itself -/
theorem fn_stuck {P : Program} {w : World} {K : PySem.W.Frag} {mg : Str → Option Value} {base : Heap} {k : Nat} {f : Addr} {fd : FuncData} {ps : List Str} : FnD P w K mg base k f fd ps (fun _ _ => .stuck) :=
  ⟨fun vs H Q E h => h.1, fun A outer s H args us vs Q E hr he hb hv ⟨hl, rho, hh, ds, R, q, p⟩ => p.elim⟩
end MR

/-! F14: what the readings come to, step by step (rules for simp). -/
namespace MR
open PySem PySem.Spec PyProof.Rows L2

section
variable {α β : Type}
@[simp] theorem ev_bind_ok (a : α) (h : Hh) (f : α → Hh → Res β) : (Res.ok a h).bind f = f a h := rfl
@[simp] theorem ev_bind_err (x : Exn) (h : Hh) (f : α → Hh → Res β) : (Res.err x h).bind f = .err x h := rfl
@[simp] theorem ev_bind_stuck (f : α → Hh → Res β) : (Res.stuck : Res α).bind f = .stuck := rfl
@[simp] theorem ev_lift_some (a : α) (h : Hh) : lift (some a) h = .ok a h := rfl
@[simp] theorem ev_lift_none (h : Hh) : lift (none : Option α) h = .stuck := rfl
@[simp] theorem ev_st_ok (a : α) (h : Hh) (env : DEnv) (f : α → Hh → RS) : (Res.ok a h).st env f = f a h := rfl
@[simp] theorem ev_st_err (x : Exn) (h : Hh) (env : DEnv) (f : α → Hh → RS) : (Res.err x h).st env f = .er x env h := rfl
@[simp] theorem ev_seq_nx (env : DEnv) (h : Hh) (f : DEnv → Hh → RS) : (RS.nx env h).seq f = f env h := rfl
@[simp] theorem ev_seq_rt (d : D) (h : Hh) (f : DEnv → Hh → RS) : (RS.rt d h).seq f = .rt d h := rfl
@[simp] theorem ev_seq_bk (env : DEnv) (h : Hh) (f : DEnv → Hh → RS) : (RS.bk env h).seq f = .bk env h := rfl
@[simp] theorem ev_seq_ct (env : DEnv) (h : Hh) (f : DEnv → Hh → RS) : (RS.ct env h).seq f = .ct env h := rfl
@[simp] theorem ev_seq_er (x : Exn) (env : DEnv) (h : Hh) (f : DEnv → Hh → RS) : (RS.er x env h).seq f = .er x env h := rfl
@[simp] theorem ev_lb_nx (env : DEnv) (h : Hh) (f : DEnv → Hh → RS) : loopBack (.nx env h) f = f env h := rfl
@[simp] theorem ev_lb_ct (env : DEnv) (h : Hh) (f : DEnv → Hh → RS) : loopBack (.ct env h) f = f env h := rfl
@[simp] theorem ev_lb_bk (env : DEnv) (h : Hh) (f : DEnv → Hh → RS) : loopBack (.bk env h) f = .nx env h := rfl
@[simp] theorem ev_lb_rt (d : D) (h : Hh) (f : DEnv → Hh → RS) : loopBack (.rt d h) f = .rt d h := rfl
@[simp] theorem ev_RSof (env : DEnv) (h : Hh) : RSof (some (env, h)) = .nx env h := rfl
@[simp] theorem ev_noErr (a : α) (h : Hh) : noErr (.ok a h) = .ok a h := rfl
end

/-- what a slot gives -/
def slotR (o : Option (Option D)) (h : Hh) : Res D := match o with
  | some (some d) => .ok d h
  | _ => .stuck
@[simp] theorem ev_slotR (d : D) (h : Hh) : slotR (some (some d)) h = .ok d h := rfl
@[simp] theorem ev_slot (i : Nat) (env : DEnv) (h : Hh) : eSlot i env h = slotR env[i]? h := rfl
@[simp] theorem ev_c (d : D) (env : DEnv) (h : Hh) : eC d env h = .ok d h := rfl
def k_op2 (f : Op2) (b : ME) (env : DEnv) : D → Hh → Res D := fun x h1 => (b env h1).bind fun y h2 => lift (f x y h2) h2
def k_op2' (f : Op2) (x : D) : D → Hh → Res D := fun y h2 => lift (f x y h2) h2
@[simp] theorem ev_op2 (f : Op2) (a b : ME) (env : DEnv) (h : Hh) : eOp2 f a b env h = (a env h).bind (k_op2 f b env) := rfl
@[simp] theorem ev_k_op2 (f : Op2) (b : ME) (env : DEnv) (x : D) (h : Hh) : k_op2 f b env x h = (b env h).bind (k_op2' f x) := rfl
@[simp] theorem ev_k_op2' (f : Op2) (x y : D) (h : Hh) : k_op2' f x y h = lift (f x y h) h := rfl
def k_opN (f : OpN) : List D → Hh → Res D := fun xs h1 => lift (f xs h1) h1
@[simp] theorem ev_opN (f : OpN) (as : MA) (env : DEnv) (h : Hh) : eOpN f as env h = (as env h).bind (k_opN f) := rfl
@[simp] theorem ev_k_opN (f : OpN) (xs : List D) (h : Hh) : k_opN f xs h = lift (f xs h) h := rfl
@[simp] theorem ev_nil (env : DEnv) (h : Hh) : aNil env h = .ok [] h := rfl
def k_cons (as : MA) (env : DEnv) : D → Hh → Res (List D) := fun x h1 => (as env h1).bind fun xs h2 => .ok (x :: xs) h2
def k_cons' (x : D) : List D → Hh → Res (List D) := fun xs h2 => .ok (x :: xs) h2
@[simp] theorem ev_cons (a : ME) (as : MA) (env : DEnv) (h : Hh) : aCons a as env h = (a env h).bind (k_cons as env) := rfl
@[simp] theorem ev_k_cons (as : MA) (env : DEnv) (x : D) (h : Hh) : k_cons as env x h = (as env h).bind (k_cons' x) := rfl
@[simp] theorem ev_k_cons' (x : D) (xs : List D) (h : Hh) : k_cons' x xs h = .ok (x :: xs) h := rfl
def k_tup : List D → Hh → Res D := fun xs h1 => .ok (.tup xs) h1
@[simp] theorem ev_tup (ms : MA) (env : DEnv) (h : Hh) : eTup ms env h = (ms env h).bind k_tup := rfl
@[simp] theorem ev_k_tup (xs : List D) (h : Hh) : k_tup xs h = .ok (.tup xs) h := rfl
def k_frz : List D → Hh → Res D := fun xs h1 => .ok (.lst xs) h1
@[simp] theorem ev_frz (ms : MA) (env : DEnv) (h : Hh) : eFrz ms env h = (ms env h).bind k_frz := rfl
@[simp] theorem ev_k_frz (xs : List D) (h : Hh) : k_frz xs h = .ok (.lst xs) h := rfl
def k_new : List D → Hh → Res D := fun xs h1 => .ok (.ref h1.length) (h1 ++ [.lst xs])
@[simp] theorem ev_new (ms : MA) (env : DEnv) (h : Hh) : eNew ms env h = (ms env h).bind k_new := rfl
@[simp] theorem ev_k_new (xs : List D) (h : Hh) : k_new xs h = .ok (.ref h.length) (h ++ [.lst xs]) := rfl
def k_seqM : D → Hh → Res (List D) := fun d h1 => lift (seqA d h1) h1
@[simp] theorem ev_seqM (m : ME) (env : DEnv) (h : Hh) : aSeq m env h = (m env h).bind k_seqM := rfl
@[simp] theorem ev_k_seqM (d : D) (h : Hh) : k_seqM d h = lift (seqA d h) h := rfl
@[simp] theorem ev_seqAT (xs : List D) (h : Hh) : seqA (.tup xs) h = some xs := rfl
@[simp] theorem ev_seqAL (xs : List D) (h : Hh) : seqA (.lst xs) h = some xs := rfl
@[simp] theorem ev_dict0 (env : DEnv) (h : Hh) : eDict0 env h = .ok (.ref h.length) (h ++ [.dK []]) := rfl
def k_tE : D → Hh → Res Bool := fun d h1 => lift (asB d) h1
@[simp] theorem ev_tE (m : ME) (env : DEnv) (h : Hh) : tE m env h = (m env h).bind k_tE := rfl
@[simp] theorem ev_k_tE (d : D) (h : Hh) : k_tE d h = lift (asB d) h := rfl
@[simp] theorem ev_asB (b : Bool) : asB (.bl b) = some b := rfl
def k_tAnd (b : MT) (env : DEnv) : Bool → Hh → Res Bool := fun k h1 => if k = true then b env h1 else .ok false h1
@[simp] theorem ev_tAnd (a b : MT) (env : DEnv) (h : Hh) : tAnd a b env h = (a env h).bind (k_tAnd b env) := rfl
@[simp] theorem ev_k_tAnd1 (b : MT) (env : DEnv) (h : Hh) : k_tAnd b env true h = b env h := rfl
@[simp] theorem ev_k_tAnd0 (b : MT) (env : DEnv) (h : Hh) : k_tAnd b env false h = .ok false h := rfl
def k_tOr (b : MT) (env : DEnv) : Bool → Hh → Res Bool := fun k h1 => if k = true then .ok true h1 else b env h1
@[simp] theorem ev_tOr (a b : MT) (env : DEnv) (h : Hh) : tOr a b env h = (a env h).bind (k_tOr b env) := rfl
@[simp] theorem ev_k_tOr1 (b : MT) (env : DEnv) (h : Hh) : k_tOr b env true h = .ok true h := rfl
@[simp] theorem ev_k_tOr0 (b : MT) (env : DEnv) (h : Hh) : k_tOr b env false h = b env h := rfl
def k_tNot : Bool → Hh → Res Bool := fun k h1 => .ok (!k) h1
@[simp] theorem ev_tNot (a : MT) (env : DEnv) (h : Hh) : tNot a env h = (a env h).bind k_tNot := rfl
@[simp] theorem ev_k_tNot (k : Bool) (h : Hh) : k_tNot k h = .ok (!k) h := rfl
def k_eAnd (b : ME) (env : DEnv) : D → Hh → Res D := fun d h1 => (lift (asB d) h1).bind fun k h2 => if k = true then b env h2 else .ok (.bl false) h2
@[simp] theorem ev_eAnd (a b : ME) (env : DEnv) (h : Hh) : eAnd a b env h = (a env h).bind (k_eAnd b env) := rfl
@[simp] theorem ev_k_eAnd1 (b : ME) (env : DEnv) (h : Hh) : k_eAnd b env (.bl true) h = b env h := rfl
@[simp] theorem ev_k_eAnd0 (b : ME) (env : DEnv) (h : Hh) : k_eAnd b env (.bl false) h = .ok (.bl false) h := rfl
def k_eOr (b : ME) (env : DEnv) : D → Hh → Res D := fun d h1 => (lift (asB d) h1).bind fun k h2 => if k = true then .ok (.bl true) h2 else b env h2
@[simp] theorem ev_eOr (a b : ME) (env : DEnv) (h : Hh) : eOr a b env h = (a env h).bind (k_eOr b env) := rfl
@[simp] theorem ev_k_eOr1 (b : ME) (env : DEnv) (h : Hh) : k_eOr b env (.bl true) h = .ok (.bl true) h := rfl
@[simp] theorem ev_k_eOr0 (b : ME) (env : DEnv) (h : Hh) : k_eOr b env (.bl false) h = b env h := rfl
def k_eNot : D → Hh → Res D := fun d h1 => (lift (asB d) h1).bind fun k h2 => .ok (.bl (!k)) h2
@[simp] theorem ev_eNot (a : ME) (env : DEnv) (h : Hh) : eNot a env h = (a env h).bind k_eNot := rfl
@[simp] theorem ev_k_eNot (k : Bool) (h : Hh) : k_eNot (.bl k) h = .ok (.bl (!k)) h := rfl
def k_eIf (a b : ME) (env : DEnv) : Bool → Hh → Res D := fun k h1 => if k = true then a env h1 else b env h1
@[simp] theorem ev_eIf (t : MT) (a b : ME) (env : DEnv) (h : Hh) : eIf t a b env h = (t env h).bind (k_eIf a b env) := rfl
@[simp] theorem ev_k_eIf1 (a b : ME) (env : DEnv) (h : Hh) : k_eIf a b env true h = a env h := rfl
@[simp] theorem ev_k_eIf0 (a b : ME) (env : DEnv) (h : Hh) : k_eIf a b env false h = b env h := rfl
def k_neg : D → Hh → Res D := fun d h1 => lift (match d with | .int i => some (.int (-i)) | _ => none) h1
@[simp] theorem ev_neg (m : ME) (env : DEnv) (h : Hh) : eNeg m env h = (m env h).bind k_neg := rfl
@[simp] theorem ev_k_neg (i : Int) (h : Hh) : k_neg (.int i) h = .ok (.int (-i)) h := rfl
def k_ch1 (f g : Op2) (b c : ME) (env : DEnv) : D → Hh → Res D := fun x h1 => (b env h1).bind fun y h2 => (lift (f x y h2) h2).bind fun z h3 => (lift (asB z) h3).bind fun k h4 => if k = true then (c env h4).bind fun u h5 => lift (g y u h5) h5 else .ok (.bl false) h4
def k_ch2 (f g : Op2) (c : ME) (env : DEnv) (x : D) : D → Hh → Res D := fun y h2 => (lift (f x y h2) h2).bind fun z h3 => (lift (asB z) h3).bind fun k h4 => if k = true then (c env h4).bind fun u h5 => lift (g y u h5) h5 else .ok (.bl false) h4
def k_ch3 (g : Op2) (c : ME) (env : DEnv) (y : D) : D → Hh → Res D := fun z h3 => (lift (asB z) h3).bind fun k h4 => if k = true then (c env h4).bind fun u h5 => lift (g y u h5) h5 else .ok (.bl false) h4
@[simp] theorem ev_chain (f g : Op2) (a b c : ME) (env : DEnv) (h : Hh) : eChain f g a b c env h = (a env h).bind (k_ch1 f g b c env) := rfl
@[simp] theorem ev_k_ch1 (f g : Op2) (b c : ME) (env : DEnv) (x : D) (h : Hh) : k_ch1 f g b c env x h = (b env h).bind (k_ch2 f g c env x) := rfl
@[simp] theorem ev_k_ch2 (f g : Op2) (c : ME) (env : DEnv) (x y : D) (h : Hh) : k_ch2 f g c env x y h = (lift (f x y h) h).bind (k_ch3 g c env y) := rfl
@[simp] theorem ev_k_ch31 (g : Op2) (c : ME) (env : DEnv) (y : D) (h : Hh) : k_ch3 g c env y (.bl true) h = (c env h).bind (k_op2' g y) := rfl
@[simp] theorem ev_k_ch30 (g : Op2) (c : ME) (env : DEnv) (y : D) (h : Hh) : k_ch3 g c env y (.bl false) h = .ok (.bl false) h := rfl
def k_sl1 (lo hi : MO) (env : DEnv) : D → Hh → Res D := fun d h1 => (lo env h1).bind fun l h2 => (hi env h2).bind fun u h3 => lift (sliceO d l u h3) h3
def k_sl2 (hi : MO) (env : DEnv) (d : D) : Option Int → Hh → Res D := fun l h2 => (hi env h2).bind fun u h3 => lift (sliceO d l u h3) h3
def k_sl3 (d : D) (l : Option Int) : Option Int → Hh → Res D := fun u h3 => lift (sliceO d l u h3) h3
@[simp] theorem ev_slice (m : ME) (lo hi : MO) (env : DEnv) (h : Hh) : eSlice m lo hi env h = (m env h).bind (k_sl1 lo hi env) := rfl
@[simp] theorem ev_k_sl1 (lo hi : MO) (env : DEnv) (d : D) (h : Hh) : k_sl1 lo hi env d h = (lo env h).bind (k_sl2 hi env d) := rfl
@[simp] theorem ev_k_sl2 (hi : MO) (env : DEnv) (d : D) (l : Option Int) (h : Hh) : k_sl2 hi env d l h = (hi env h).bind (k_sl3 d l) := rfl
@[simp] theorem ev_k_sl3 (d : D) (l u : Option Int) (h : Hh) : k_sl3 d l u h = lift (sliceO d l u h) h := rfl
@[simp] theorem ev_oNone (env : DEnv) (h : Hh) : oNone env h = .ok none h := rfl
def k_some : D → Hh → Res (Option Int) := fun d h1 => lift ((asI d).map some) h1
@[simp] theorem ev_oSome (m : ME) (env : DEnv) (h : Hh) : oSome m env h = (m env h).bind k_some := rfl
@[simp] theorem ev_k_some (i : Int) (h : Hh) : k_some (.int i) h = .ok (some i) h := rfl
@[simp] theorem ev_asI (i : Int) : asI (.int i) = some i := rfl
def k_call (F : MF) : List D → Hh → Res D := fun ds h1 => F ds h1
@[simp] theorem ev_call (F : MF) (ms : MA) (env : DEnv) (h : Hh) : eCall F ms env h = (ms env h).bind (k_call F) := rfl
@[simp] theorem ev_k_call (F : MF) (ds : List D) (h : Hh) : k_call F ds h = F ds h := rfl
def k_m1 (ok : D → Hh → Bool) (f : OpM) (ms : MA) (env : DEnv) : D → Hh → Res D := fun d h1 => if ok d h1 = true then (ms env h1).bind fun ds h2 => liftM (f d ds h2) else .stuck
def k_m2 (f : OpM) (ms : MA) (env : DEnv) (d : D) (h1 : Hh) (k : Bool) : Res D := if k = true then (ms env h1).bind fun ds h2 => liftM (f d ds h2) else .stuck
def k_m3 (f : OpM) (d : D) : List D → Hh → Res D := fun ds h2 => liftM (f d ds h2)
@[simp] theorem ev_meth (ok : D → Hh → Bool) (f : OpM) (m : ME) (ms : MA) (env : DEnv) (h : Hh) : eMeth ok f m ms env h = (m env h).bind (k_m1 ok f ms env) := rfl
@[simp] theorem ev_k_m1 (ok : D → Hh → Bool) (f : OpM) (ms : MA) (env : DEnv) (d : D) (h : Hh) : k_m1 ok f ms env d h = k_m2 f ms env d h (ok d h) := rfl
@[simp] theorem ev_k_m2 (f : OpM) (ms : MA) (env : DEnv) (d : D) (h : Hh) : k_m2 f ms env d h true = (ms env h).bind (k_m3 f d) := rfl
@[simp] theorem ev_k_m3 (f : OpM) (d : D) (ds : List D) (h : Hh) : k_m3 f d ds h = liftM (f d ds h) := rfl
@[simp] theorem ev_liftM {α : Type} (a : α) (h : Hh) : liftM (some (a, h)) = .ok a h := rfl
def k_disp : List (D × D) → Hh → Res D := fun ps h1 => match keyDs ps with
  | some kvs => if kvs.length ≤ 15 then .ok (.ref h1.length) (h1 ++ [.dK (mergeG [] kvs)]) else .stuck
  | none => .stuck
def k_disp' (h1 : Hh) : Option (List (Key × D)) → Res D := fun o => match o with
  | some kvs => if kvs.length ≤ 15 then .ok (.ref h1.length) (h1 ++ [.dK (mergeG [] kvs)]) else .stuck
  | none => .stuck
@[simp] theorem ev_disp (prs : List (ME × ME)) (env : DEnv) (h : Hh) : eDisp prs env h = (aPairs prs env h).bind k_disp := rfl
@[simp] theorem ev_k_disp (ps : List (D × D)) (h : Hh) : k_disp ps h = k_disp' h (keyDs ps) := rfl
@[simp] theorem ev_k_disp' (h : Hh) (kvs : List (Key × D)) : k_disp' h (some kvs) = if kvs.length ≤ 15 then .ok (.ref h.length) (h ++ [.dK (mergeG [] kvs)]) else .stuck := rfl
@[simp] theorem ev_keyDs0 : keyDs [] = some [] := rfl
@[simp] theorem ev_keyDsI (i : Int) (b : D) (r : List (D × D)) : keyDs ((.int i, b) :: r) = (keyDs r).map ((.inl i, b) :: ·) := by
  show (match keyD (.int i), keyDs r with | some k, some ks => some ((k, b) :: ks) | _, _ => none) = _
  cases keyDs r <;> rfl
@[simp] theorem ev_keyDsS (i : Str) (b : D) (r : List (D × D)) : keyDs ((.str i, b) :: r) = (keyDs r).map ((.inr i, b) :: ·) := by
  show (match keyD (.str i), keyDs r with | some k, some ks => some ((k, b) :: ks) | _, _ => none) = _
  cases keyDs r <;> rfl
@[simp] theorem ev_prs_nil (env : DEnv) (h : Hh) : aPairs [] env h = .ok [] h := rfl
def k_p1 (v : ME) (r : List (ME × ME)) (env : DEnv) : D → Hh → Res (List (D × D)) := fun x h1 => (v env h1).bind fun y h2 => (aPairs r env h2).bind fun ps h3 => .ok ((x, y) :: ps) h3
def k_p2 (r : List (ME × ME)) (env : DEnv) (x : D) : D → Hh → Res (List (D × D)) := fun y h2 => (aPairs r env h2).bind fun ps h3 => .ok ((x, y) :: ps) h3
def k_p3 (x y : D) : List (D × D) → Hh → Res (List (D × D)) := fun ps h3 => .ok ((x, y) :: ps) h3
@[simp] theorem ev_prs_cons (k v : ME) (r : List (ME × ME)) (env : DEnv) (h : Hh) : aPairs ((k, v) :: r) env h = (k env h).bind (k_p1 v r env) := rfl
@[simp] theorem ev_k_p1 (v : ME) (r : List (ME × ME)) (env : DEnv) (x : D) (h : Hh) : k_p1 v r env x h = (v env h).bind (k_p2 r env x) := rfl
@[simp] theorem ev_k_p2 (r : List (ME × ME)) (env : DEnv) (x y : D) (h : Hh) : k_p2 r env x y h = (aPairs r env h).bind (k_p3 x y) := rfl
@[simp] theorem ev_k_p3 (x y : D) (ps : List (D × D)) (h : Hh) : k_p3 x y ps h = .ok ((x, y) :: ps) h := rfl
/-! statements -/
@[simp] theorem ev_sSeq (a b : MS) (env : DEnv) (h : Hh) : sSeq a b env h = (a env h).seq b := rfl
@[simp] theorem ev_sNext (env : DEnv) (h : Hh) : sNext env h = .nx env h := rfl
def k_drop (env : DEnv) : D → Hh → RS := fun _ h1 => .nx env h1
@[simp] theorem ev_sDrop (m : ME) (env : DEnv) (h : Hh) : sDrop m env h = (m env h).st env (k_drop env) := rfl
@[simp] theorem ev_k_drop (env : DEnv) (d : D) (h : Hh) : k_drop env d h = .nx env h := rfl
def k_ret : D → Hh → RS := fun d h1 => .rt d h1
@[simp] theorem ev_sRet (m : ME) (env : DEnv) (h : Hh) : sRet m env h = (m env h).st env k_ret := rfl
@[simp] theorem ev_k_ret (d : D) (h : Hh) : k_ret d h = .rt d h := rfl
@[simp] theorem ev_sRetN (env : DEnv) (h : Hh) : sRetN env h = .rt .non h := rfl
def k_if (a b : MS) (env : DEnv) : Bool → Hh → RS := fun k h1 => if k = true then a env h1 else b env h1
@[simp] theorem ev_sIf (t : MT) (a b : MS) (env : DEnv) (h : Hh) : sIf t a b env h = (t env h).st env (k_if a b env) := rfl
@[simp] theorem ev_k_if1 (a b : MS) (env : DEnv) (h : Hh) : k_if a b env true h = a env h := rfl
@[simp] theorem ev_k_if0 (a b : MS) (env : DEnv) (h : Hh) : k_if a b env false h = b env h := rfl
@[simp] theorem ev_sBreak (env : DEnv) (h : Hh) : sBreak env h = .bk env h := rfl
@[simp] theorem ev_sCont (env : DEnv) (h : Hh) : sCont env h = .ct env h := rfl
def k_asg (g : MG) (env : DEnv) : D → Hh → RS := fun d h1 => RSof (g d env h1)
@[simp] theorem ev_sAsg (m : ME) (g : MG) (env : DEnv) (h : Hh) : sAsg m g env h = (m env h).st env (k_asg g env) := rfl
@[simp] theorem ev_k_asg (g : MG) (env : DEnv) (d : D) (h : Hh) : k_asg g env d h = RSof (g d env h) := rfl
@[simp] theorem ev_gName (i : Nat) (d : D) (env : DEnv) (h : Hh) : gName i d env h = some (env.set i (some d), h) := rfl
@[simp] theorem ev_gNil (env : DEnv) (h : Hh) : gNil [] env h = some (env, h) := rfl
@[simp] theorem ev_gCons (i : Nat) (gs : MGs) (d : D) (r : List D) (env : DEnv) (h : Hh) : gCons (gName i) gs (d :: r) env h = gs r (env.set i (some d)) h := rfl
@[simp] theorem ev_gTup (n : Nat) (gs : MGs) (ds : List D) (env : DEnv) (h : Hh) : gTup n gs (.tup ds) env h = if ds.length = n then gs ds env h else none := rfl
def k_par (i j : Nat) (env : DEnv) : List D → Hh → RS := fun ds h1 => match ds with
  | [d1, d2] => .nx ((env.set i (some d1)).set j (some d2)) h1
  | _ => .stuck
@[simp] theorem ev_sPar (i j : Nat) (ms : MA) (env : DEnv) (h : Hh) : sPar i j ms env h = (ms env h).st env (k_par i j env) := rfl
@[simp] theorem ev_k_par (i j : Nat) (env : DEnv) (d1 d2 : D) (h : Hh) : k_par i j env [d1, d2] h = .nx ((env.set i (some d1)).set j (some d2)) h := rfl
/-- x[i] = d : what the thing comes to -/
def subR (r : Res D) (env : DEnv) (f : D → Hh → RS) : RS := r.st env f
def k_iA (f : List D → Hh → Option Src) : List D → Hh → Res Src := fun ds h1 => lift (f ds h1) h1
@[simp] theorem ev_iA (f : List D → Hh → Option Src) (ms : MA) (env : DEnv) (h : Hh) : iA f ms env h = (ms env h).bind (k_iA f) := rfl
@[simp] theorem ev_k_iA (f : List D → Hh → Option Src) (ds : List D) (h : Hh) : k_iA f ds h = lift (f ds h) h := rfl
def k_iOf : D → Hh → Res Src := fun d h1 => lift (srcOf d h1) h1
@[simp] theorem ev_iOf (m : ME) (env : DEnv) (h : Hh) : iOf m env h = (m env h).bind k_iOf := rfl
@[simp] theorem ev_k_iOf (d : D) (h : Hh) : k_iOf d h = lift (srcOf d h) h := rfl
noncomputable def k_for (T : Tg) (b : MS) (env : DEnv) : Src → Hh → RS := fun src h1 => forL src.live (bodyT T b) src.items env h1
@[simp] theorem ev_sFor (mi : MI) (T : Tg) (b : MS) (env : DEnv) (h : Hh) : sFor mi T b env h = (mi env h).st env (k_for T b env) := rfl
@[simp] theorem ev_k_for (T : Tg) (b : MS) (env : DEnv) (src : Src) (h : Hh) : k_for T b env src h = forL src.live (bodyT T b) src.items env h := rfl
@[simp] theorem ev_gOk (h : Hh) : gOk none h ↔ True := ⟨fun _ => trivial, fun _ _ _ e => by cases e⟩
@[simp] theorem ev_for_nil (body : D → DEnv → Hh → RS) (env : DEnv) (h : Hh) : forL none body [] env h = .nx env h := by unfold forL; simp
@[simp] theorem ev_for_cons (body : D → DEnv → Hh → RS) (d : D) (ds : List D) (env : DEnv) (h : Hh) : forL none body (d :: ds) env h = loopBack (body d env h) (forL none body ds) := by
  conv => lhs; unfold forL
  rw [if_pos ((ev_gOk h).mpr trivial)]
def k_bd (b : MS) (h : Hh) : Option DEnv → RS := fun o => match o with | some env' => b env' h | none => .stuck
@[simp] theorem ev_bodyT (T : Tg) (b : MS) (d : D) (env : DEnv) (h : Hh) : bodyT T b d env h = k_bd b h (bindT T d env) := rfl
@[simp] theorem ev_k_bd (b : MS) (h : Hh) (env : DEnv) : k_bd b h (some env) = b env h := rfl
@[simp] theorem ev_bindN (i : Nat) (d : D) (env : DEnv) : bindT (.name i) d env = some (env.set i (some d)) := rfl
@[simp] theorem ev_bindT (is : List Nat) (ds : List D) (env : DEnv) : bindT (.tup is) (.tup ds) env = if ds.length = is.length then some (setAll is ds env) else none := rfl
@[simp] theorem ev_bindW (is : List Nat) (ds : List D) (env : DEnv) : bindT (.tup is) (.wtp ds) env = if ds.length = is.length then some (setAll is ds env) else none := rfl
@[simp] theorem ev_setAll0 (env : DEnv) : setAll [] [] env = env := rfl
@[simp] theorem ev_setAll (i : Nat) (is : List Nat) (d : D) (ds : List D) (env : DEnv) : setAll (i :: is) (d :: ds) env = setAll is ds (env.set i (some d)) := rfl
noncomputable def k_comp (T : Tg) (t : MT) (e : ME) (env : DEnv) : Src → Hh → Res (List D) := fun src h1 => noErr (compL src.live T t e env src.items h1)
@[simp] theorem ev_aComp (mi : MI) (T : Tg) (t : MT) (e : ME) (vs : List Nat) (env : DEnv) (h : Hh) : aComp mi T t e vs env h = (mi env h).bind (k_comp T t e (wipeE env vs)) := rfl
@[simp] theorem ev_k_comp (T : Tg) (t : MT) (e : ME) (env : DEnv) (src : Src) (h : Hh) : k_comp T t e env src h = noErr (compL src.live T t e env src.items h) := rfl
@[simp] theorem ev_wipe0 (env : DEnv) : wipeE env [] = env := rfl
@[simp] theorem ev_wipe (env : DEnv) (v : Nat) (vs : List Nat) : wipeE env (v :: vs) = (wipeE env vs).set v none := rfl
@[simp] theorem ev_comp_nil (T : Tg) (t : MT) (e : ME) (env : DEnv) (h : Hh) : compL none T t e env [] h = .ok [] h := by unfold compL; simp
noncomputable def k_c0 (T : Tg) (t : MT) (e : ME) (env : DEnv) (ds : List D) (h : Hh) : Option DEnv → Res (List D) := fun o => match o with
  | some env' => (t env' h).bind fun k h1 => if k = true then (e env' h1).bind fun y h2 => (compL none T t e env ds h2).bind fun ys h3 => .ok (y :: ys) h3 else compL none T t e env ds h1
  | none => .stuck
noncomputable def k_c1 (T : Tg) (t : MT) (e : ME) (env env' : DEnv) (ds : List D) : Bool → Hh → Res (List D) := fun k h1 => if k = true then (e env' h1).bind fun y h2 => (compL none T t e env ds h2).bind fun ys h3 => .ok (y :: ys) h3 else compL none T t e env ds h1
noncomputable def k_c2 (T : Tg) (t : MT) (e : ME) (env : DEnv) (ds : List D) : D → Hh → Res (List D) := fun y h2 => (compL none T t e env ds h2).bind fun ys h3 => .ok (y :: ys) h3
@[simp] theorem ev_comp_cons (T : Tg) (t : MT) (e : ME) (env : DEnv) (d : D) (ds : List D) (h : Hh) : compL none T t e env (d :: ds) h = k_c0 T t e env ds h (bindT T d env) := by
  conv => lhs; unfold compL
  simp
  rfl
@[simp] theorem ev_k_c0 (T : Tg) (t : MT) (e : ME) (env env' : DEnv) (ds : List D) (h : Hh) : k_c0 T t e env ds h (some env') = (t env' h).bind (k_c1 T t e env env' ds) := rfl
@[simp] theorem ev_k_c11 (T : Tg) (t : MT) (e : ME) (env env' : DEnv) (ds : List D) (h : Hh) : k_c1 T t e env env' ds true h = (e env' h).bind (k_c2 T t e env ds) := rfl
@[simp] theorem ev_k_c10 (T : Tg) (t : MT) (e : ME) (env env' : DEnv) (ds : List D) (h : Hh) : k_c1 T t e env env' ds false h = compL none T t e env ds h := rfl
@[simp] theorem ev_k_c2 (T : Tg) (t : MT) (e : ME) (env : DEnv) (ds : List D) (y : D) (h : Hh) : k_c2 T t e env ds y h = (compL none T t e env ds h).bind (k_cons' y) := rfl
theorem ev_runF (n : Nat) (N : List Str) (b : MS) (ds : List D) (h : Hh) : runF n N b ds h = if ds.length = n then (match b (startD N ds) h with
  | .nx _ h' => .ok .non h'
  | .rt d h' => .ok d h'
  | .er x _ h' => .err x h'
  | _ => .stuck) else .stuck := rfl
/-- what a body's end gives -/
def outR : RS → Res D
  | .nx _ h' => .ok .non h'
  | .rt d h' => .ok d h'
  | .er x _ h' => .err x h'
  | _ => .stuck
@[simp] theorem ev_out_nx (env : DEnv) (h : Hh) : outR (.nx env h) = .ok .non h := rfl
@[simp] theorem ev_out_rt (d : D) (h : Hh) : outR (.rt d h) = .ok d h := rfl
theorem run_eq {n : Nat} {N : List Str} {b : MS} {ds : List D} {h : Hh} (hn : ds.length = n) : runF n N b ds h = outR (b (startD N ds) h) := by
  unfold runF
  rw [if_pos hn]
  cases b (startD N ds) h <;> rfl

@[simp] theorem ev_start (N : List Str) (ds : List D) : startD N ds = ds.map some ++ List.replicate (N.length - ds.length) none := rfl
@[simp] theorem ev_run0 (N : List Str) (b : MS) (h : Hh) : runF 0 N b [] h = outR (b (startD N []) h) := run_eq rfl
@[simp] theorem ev_run1 (N : List Str) (b : MS) (x0 : D) (h : Hh) : runF 1 N b [x0] h = outR (b (startD N [x0]) h) := run_eq rfl
@[simp] theorem ev_run2 (N : List Str) (b : MS) (x0 x1 : D) (h : Hh) : runF 2 N b [x0, x1] h = outR (b (startD N [x0, x1]) h) := run_eq rfl
@[simp] theorem ev_run3 (N : List Str) (b : MS) (x0 x1 x2 : D) (h : Hh) : runF 3 N b [x0, x1, x2] h = outR (b (startD N [x0, x1, x2]) h) := run_eq rfl
@[simp] theorem ev_run4 (N : List Str) (b : MS) (x0 x1 x2 x3 : D) (h : Hh) : runF 4 N b [x0, x1, x2, x3] h = outR (b (startD N [x0, x1, x2, x3]) h) := run_eq rfl
@[simp] theorem ev_run5 (N : List Str) (b : MS) (x0 x1 x2 x3 x4 : D) (h : Hh) : runF 5 N b [x0, x1, x2, x3, x4] h = outR (b (startD N [x0, x1, x2, x3, x4]) h) := run_eq rfl
@[simp] theorem ev_run6 (N : List Str) (b : MS) (x0 x1 x2 x3 x4 x5 : D) (h : Hh) : runF 6 N b [x0, x1, x2, x3, x4, x5] h = outR (b (startD N [x0, x1, x2, x3, x4, x5]) h) := run_eq rfl
@[simp] theorem ev_run7 (N : List Str) (b : MS) (x0 x1 x2 x3 x4 x5 x6 : D) (h : Hh) : runF 7 N b [x0, x1, x2, x3, x4, x5, x6] h = outR (b (startD N [x0, x1, x2, x3, x4, x5, x6]) h) := run_eq rfl
theorem deq {α : Type} [BEq α] [LawfulBEq α] [DecidableEq α] {x y : α} : (x == y) = decide (x = y) := by
  by_cases h : x = y
  · subst h; simp
  · rw [decide_eq_false h]; exact beq_eq_false_iff_ne.mpr h
/-! operators -/
@[simp] theorem ev_add (i j : Int) (h : Hh) : addO (.int i) (.int j) h = some (.int (i + j)) := rfl
@[simp] theorem ev_addT (xs ys : List D) (h : Hh) : addO (.tup xs) (.tup ys) h = if xs.length + ys.length ≤ sizeLine then some (.tup (xs ++ ys)) else none := rfl
@[simp] theorem ev_addL (xs ys : List D) (h : Hh) : addO (.lst xs) (.lst ys) h = if xs.length + ys.length ≤ sizeLine then some (.lst (xs ++ ys)) else none := rfl
@[simp] theorem ev_sub (i j : Int) (h : Hh) : subO (.int i) (.int j) h = some (.int (i - j)) := rfl
@[simp] theorem ev_lt (i j : Int) (h : Hh) : ltO (.int i) (.int j) h = some (.bl (decide (i < j))) := rfl
@[simp] theorem ev_le (i j : Int) (h : Hh) : leO (.int i) (.int j) h = some (.bl (decide (i ≤ j))) := rfl
@[simp] theorem ev_gt (i j : Int) (h : Hh) : gtO (.int i) (.int j) h = some (.bl (decide (j < i))) := rfl
@[simp] theorem ev_ge (i j : Int) (h : Hh) : geO (.int i) (.int j) h = some (.bl (decide (j ≤ i))) := rfl
@[simp] theorem ev_mod (i j : Int) (h : Hh) : modO (.int i) (.int j) h = if 0 < j then some (.int (i % j)) else none := rfl
@[simp] theorem ev_fdiv (i j : Int) (h : Hh) : fdivO (.int i) (.int j) h = if 0 < j ∧ j < 1073741824 then some (.int (i / j)) else none := rfl
@[simp] theorem ev_pow (i j : Int) (h : Hh) : powO (.int i) (.int j) h = if 0 ≤ j ∧ j ≤ 1000000 ∧ i.natAbs < 18446744073709551616 then some (.int (i ^ j.toNat)) else none := rfl
theorem ev_mul (i j : Int) (h : Hh) (hs : (-18446744073709551616 < i ∧ i < 18446744073709551616) ∨ (-18446744073709551616 < j ∧ j < 18446744073709551616)) : mulO (.int i) (.int j) h = some (.int (i * j)) := if_pos (Or.inl hs)
@[simp] theorem ev_eqI (i j : Int) (h : Hh) : eqO (.int i) (.int j) h = some (.bl (decide (i = j))) := by
  rw [← deq]
  rfl
@[simp] theorem ev_neI (i j : Int) (h : Hh) : neO (.int i) (.int j) h = some (.bl (!(decide (i = j)))) := by
  rw [← deq]
  rfl
theorem shaped_str {x : Str} (h : PyData.strOk x = true) : SeqAt.shaped (.str x) = true := by simp [SeqAt.shaped, PyData.canLay0, PyData.depth, h]
theorem ev_eqS (x y : Str) (h : Hh) (hx : PyData.strOk x = true) (hy : PyData.strOk y = true) : eqO (.str x) (.str y) h = some (.bl (decide (x = y))) := by
  rw [← deq]
  have e1 : pyOf (.str x) h = some (.str x) := if_pos (shaped_str hx)
  have e2 : pyOf (.str y) h = some (.str y) := if_pos (shaped_str hy)
  unfold eqO
  rw [e1, e2]
  rfl
theorem ev_neS (x y : Str) (h : Hh) (hx : PyData.strOk x = true) (hy : PyData.strOk y = true) : neO (.str x) (.str y) h = some (.bl (!(decide (x = y)))) := by
  rw [← deq]
  have e1 : pyOf (.str x) h = some (.str x) := if_pos (shaped_str hx)
  have e2 : pyOf (.str y) h = some (.str y) := if_pos (shaped_str hy)
  unfold neO
  rw [e1, e2]
  rfl
@[simp] theorem ev_eqB (x y : Bool) (h : Hh) : eqO (.bl x) (.bl y) h = some (.bl (decide (x = y))) := by cases x <;> cases y <;> rfl
@[simp] theorem ev_neB (x y : Bool) (h : Hh) : neO (.bl x) (.bl y) h = some (.bl (!decide (x = y))) := by cases x <;> cases y <;> rfl
@[simp] theorem ev_max (i j : Int) (h : Hh) : max2O [.int i, .int j] h = some (.int (if j > i then j else i)) := rfl
@[simp] theorem ev_min (i j : Int) (h : Hh) : min2O [.int i, .int j] h = some (.int (if j < i then j else i)) := rfl
@[simp] theorem ev_int1 (i : Int) (h : Hh) : int1O [.int i] h = some (.int i) := rfl
@[simp] theorem ev_int1b (b : Bool) (h : Hh) : int1O [.bl b] h = some (.int (if b then 1 else 0)) := rfl
@[simp] theorem ev_lenT (xs : List D) (h : Hh) : lenO [.tup xs] h = some (.int xs.length) := rfl
@[simp] theorem ev_lenL (xs : List D) (h : Hh) : lenO [.lst xs] h = some (.int xs.length) := rfl
@[simp] theorem ev_lenScr (ns : List Int) (h : Hh) : lenO [.scr ns] h = some (.int ns.length) := rfl
@[simp] theorem ev_isi (d : D) (T : String) (h : Hh) : isiO [d, .glb (.ty T)] h = (tyName d h).bind fun t => (kitB t T).map D.bl := rfl
@[simp] theorem ev_tyNon (h : Hh) : tyName .non h = some "NoneType" := rfl
@[simp] theorem ev_tyB (b : Bool) (h : Hh) : tyName (.bl b) h = some "bool" := rfl
@[simp] theorem ev_tyI (i : Int) (h : Hh) : tyName (.int i) h = some "int" := rfl
@[simp] theorem ev_tyS (x : Str) (h : Hh) : tyName (.str x) h = some "str" := rfl
@[simp] theorem ev_tyT (xs : List D) (h : Hh) : tyName (.tup xs) h = some "tuple" := rfl
@[simp] theorem ev_tyL (xs : List D) (h : Hh) : tyName (.lst xs) h = some "list" := rfl
@[simp] theorem ev_tyScr (ns : List Int) (h : Hh) : tyName (.scr ns) h = some "list" := rfl
@[simp] theorem ev_isN (h : Hh) (neg : Bool) : isNO neg .non .non h = some (.bl (!neg)) := rfl
@[simp] theorem ev_isNI (h : Hh) (neg : Bool) (i : Int) : isNO neg (.int i) .non h = some (.bl neg) := rfl
@[simp] theorem ev_isNB (h : Hh) (neg : Bool) (i : Bool) : isNO neg (.bl i) .non h = some (.bl neg) := rfl
@[simp] theorem ev_isNS (h : Hh) (neg : Bool) (i : Str) : isNO neg (.str i) .non h = some (.bl neg) := rfl
@[simp] theorem ev_isNT (h : Hh) (neg : Bool) (i : List D) : isNO neg (.tup i) .non h = some (.bl neg) := rfl
@[simp] theorem ev_isNL (h : Hh) (neg : Bool) (i : List D) : isNO neg (.lst i) .non h = some (.bl neg) := rfl
@[simp] theorem ev_isNR (h : Hh) (neg : Bool) (i : Nat) : isNO neg (.ref i) .non h = some (.bl neg) := rfl
@[simp] theorem ev_isB (h : Hh) (a b neg : Bool) : isBO neg (.bl a) (.bl b) h = some (.bl (if neg then !decide (a = b) else decide (a = b))) := rfl
@[simp] theorem ev_ixT (ds : List D) (i : Int) (h : Hh) : ixA (.tup ds) (.int i) h = atI ds i := by
  unfold ixA
  have e : ixO (.tup ds) (.int i) h = atI ds i := rfl
  rw [e]
  cases atI ds i <;> rfl
@[simp] theorem ev_ixL (ds : List D) (i : Int) (h : Hh) : ixA (.lst ds) (.int i) h = atI ds i := by
  unfold ixA
  have e : ixO (.lst ds) (.int i) h = atI ds i := rfl
  rw [e]
  cases atI ds i <;> rfl
@[simp] theorem ev_ixScr (ns : List Int) (i : Int) (h : Hh) : ixA (.scr ns) (.int i) h = atI (ns.map D.int) i := by
  unfold ixA
  have e : ixO (.scr ns) (.int i) h = atI (ns.map D.int) i := rfl
  rw [e]
  cases atI (ns.map D.int) i <;> rfl
/-- an item of a thing that may change -/
def refIx (o : Option O) (d : D) : Option D := match o with
  | some (.lst ds) => (match d with | .int i => atI ds i | _ => none)
  | some (.dK kvs) => (match keyD d with | some k => getG kvs k | none => none)
  | _ => none
@[simp] theorem ev_ixR (j : Nat) (i : Int) (h : Hh) : ixA (.ref j) (.int i) h = refIx h[j]? (.int i) := by
  show (match (match (match h[j]? with | some (.lst ds) => some ds | _ => none : Option (List D)) with | some ds => atI ds i | none => none : Option D) with
    | some d => some d
    | none => (match h[j]? with | some (.dK kvs) => (match keyD (.int i) with | some k => getG kvs k | none => none) | _ => none : Option D)) = _
  cases h[j]? with
  | none => rfl
  | some o =>
    cases o with
    | lst ds =>
      show (match atI ds i with | some d => some d | none => none : Option D) = atI ds i
      cases atI ds i <;> rfl
    | dK kvs => rfl
    | dN kvs => rfl
    | ins C fs => rfl
@[simp] theorem ev_ixRS (j : Nat) (x : Str) (h : Hh) : ixA (.ref j) (.str x) h = refIx h[j]? (.str x) := by
  show (match h[j]? with | some (.dK kvs) => (match keyD (.str x) with | some k => getG kvs k | none => none) | _ => none : Option D) = _
  cases h[j]? with
  | none => rfl
  | some o => cases o <;> rfl
@[simp] theorem ev_refIxL (ds : List D) (i : Int) : refIx (some (.lst ds)) (.int i) = atI ds i := rfl
@[simp] theorem ev_refIxI (kvs : List (Key × D)) (i : Int) : refIx (some (.dK kvs)) (.int i) = getG kvs (.inl i) := rfl
@[simp] theorem ev_refIxS (kvs : List (Key × D)) (x : Str) : refIx (some (.dK kvs)) (.str x) = getG kvs (.inr x) := rfl
@[simp] theorem ev_atI0 {α : Type} (x : α) (xs : List α) : atI (x :: xs) 0 = some x := by simp [atI, ixN]
/-- an item by its place -/
@[simp] theorem ev_atIp {α : Type} (xs : List α) (k : Int) (h : 0 ≤ k) : atI xs k = xs[k.toNat]? := by
  unfold atI ixN
  rw [if_pos h]
  by_cases h2 : k < xs.length
  · rw [if_pos h2]; rfl
  · rw [if_neg h2, List.getElem?_eq_none (by omega)]; rfl
@[simp] theorem ev_atIm {α : Type} (xs : List α) (k : Int) (h : k < 0) : atI xs k = if -(xs.length : Int) ≤ k then xs[(k + xs.length).toNat]? else none := by
  unfold atI ixN
  rw [if_neg (by omega)]
  by_cases h2 : -(xs.length : Int) ≤ k
  · rw [if_pos h2, if_pos h2]; rfl
  · rw [if_neg h2, if_neg h2]; rfl
@[simp] theorem ev_ixN (n : Nat) (k : Int) (h : 0 ≤ k) : ixN n k = if k < n then some k.toNat else none := if_pos h
/-- a thing that is written to -/
def refSet (o : Option O) (j : Nat) (i : D) (d : D) (h : Hh) : Option Hh := match o with
  | some (.lst xs) => match i with
    | .int k => (ixN xs.length k).map fun n => h.set j (.lst (xs.set n d))
    | _ => none
  | _ => none
@[simp] theorem ev_set (j : Nat) (i d : D) (h : Hh) : setO (.ref j) i d h = refSet h[j]? j i d h := by
  show (match h[j]? with | some (.lst xs) => (match i with | .int k => (ixN xs.length k).map fun n => h.set j (.lst (xs.set n d)) | _ => none) | _ => none : Option Hh) = _
  cases h[j]? with
  | none => rfl
  | some o => cases o <;> rfl
@[simp] theorem ev_refSet (xs : List D) (j : Nat) (k : Int) (d : D) (h : Hh) : refSet (some (.lst xs)) j (.int k) d h = (ixN xs.length k).map fun n => h.set j (.lst (xs.set n d)) := rfl
/-- where x[i] = d leads -/
def subO' (f : OpS) (d : D) (env : DEnv) (a : Res D) (b : ME) : Option (DEnv × Hh) := match a with
  | .ok o h1 => match b env h1 with
    | .ok i h2 => (f o i d h2).map fun h3 => (env, h3)
    | _ => none
  | _ => none
@[simp] theorem ev_gSub (mo mi : ME) (f : OpS) (d : D) (env : DEnv) (h : Hh) : gSubD mo mi f d env h = subO' f d env (mo env h) mi := rfl
/-- the second step -/
def subO2 (f : OpS) (d o : D) (env : DEnv) (b : Res D) : Option (DEnv × Hh) := match b with
  | .ok i h2 => (f o i d h2).map fun h3 => (env, h3)
  | _ => none
@[simp] theorem ev_subO (f : OpS) (d o : D) (env : DEnv) (h1 : Hh) (b : ME) : subO' f d env (.ok o h1) b = subO2 f d o env (b env h1) := rfl
@[simp] theorem ev_subO2 (f : OpS) (d o i : D) (env : DEnv) (h2 : Hh) : subO2 f d o env (.ok i h2) = (f o i d h2).map fun h3 => (env, h3) := rfl
@[simp] theorem ev_ixN0 (n : Nat) : ixN (n + 1) 0 = some 0 := by simp [ixN]
/-! slices -/
@[simp] theorem ev_slT (ds : List D) (lo hi : Option Int) (h : Hh) : sliceO (.tup ds) lo hi h = some (.tup (cutG ds lo hi)) := rfl
@[simp] theorem ev_slL (ds : List D) (lo hi : Option Int) (h : Hh) : sliceO (.lst ds) lo hi h = some (.lst (cutG ds lo hi)) := rfl
/-! what a list holds -/
@[simp] theorem ev_all (bs : List D) (h : Hh) : allO [.lst bs] h = (truths bs).map fun bs => .bl (bs.all id) := rfl
@[simp] theorem ev_any (bs : List D) (h : Hh) : anyO [.lst bs] h = (truths bs).map fun bs => .bl (bs.any id) := rfl
@[simp] theorem ev_truths0 : truths [] = some [] := rfl
@[simp] theorem ev_truths (b : Bool) (ds : List D) : truths (.bl b :: ds) = (truths ds).map (b :: ·) := rfl
@[simp] theorem ev_srcT (ds : List D) (h : Hh) : srcOf (.tup ds) h = some ⟨ds, none⟩ := rfl
@[simp] theorem ev_srcL (ds : List D) (h : Hh) : srcOf (.lst ds) h = some ⟨ds, none⟩ := rfl
@[simp] theorem ev_rng1 (j : Int) (h : Hh) : rng1 [.int j] h = if -1000000 ≤ j ∧ j ≤ 1000000 then some ⟨rangeD 0 j, none⟩ else none := rfl
@[simp] theorem ev_rng2 (i j : Int) (h : Hh) : rng2 [.int i, .int j] h = if (-1000000 ≤ i ∧ i ≤ 1000000) ∧ -1000000 ≤ j ∧ j ≤ 1000000 then some ⟨rangeD i j, none⟩ else none := rfl
@[simp] theorem ev_zpTT (xs ys : List D) (h : Hh) : zp [.tup xs, .tup ys] h = some ⟨zipD xs ys, none⟩ := rfl
@[simp] theorem ev_zpLL (xs ys : List D) (h : Hh) : zp [.lst xs, .lst ys] h = some ⟨zipD xs ys, none⟩ := rfl
@[simp] theorem ev_zip0 (ys : List D) : zipD [] ys = [] := rfl
@[simp] theorem ev_zip1 (x : D) (xs : List D) : zipD (x :: xs) [] = [] := rfl
@[simp] theorem ev_zip2 (x y : D) (xs ys : List D) : zipD (x :: xs) (y :: ys) = .wtp [x, y] :: zipD xs ys := rfl

/-! ### a loop that comes to its end, or turns back -/
/-- every turn goes on, from a state that is well to a state that is well -/
theorem for_inv {body : D → DEnv → Hh → RS} (I : DEnv → Hh → Prop) : ∀ (ds : List D) (env : DEnv) (h : Hh), I env h → (∀ d ∈ ds, ∀ env h, I env h → ∃ env' h', body d env h = .nx env' h' ∧ I env' h') → ∃ env' h', forL none body ds env h = .nx env' h' ∧ I env' h'
  | [], env, h, i, _ => ⟨env, h, ev_for_nil body env h, i⟩
  | d :: ds, env, h, i, b => by
    obtain ⟨env1, h1, e1, i1⟩ := b d List.mem_cons_self env h i
    obtain ⟨env2, h2, e2, i2⟩ := for_inv I ds env1 h1 i1 fun d m => b d (List.mem_cons_of_mem _ m)
    exact ⟨env2, h2, by rw [ev_for_cons, e1, ev_lb_nx, e2], i2⟩
end MR

/-! F15: what the readings come to: lists that change, loops over them. -/
namespace MR
open PySem PySem.Spec PyProof.Rows L2

@[simp] theorem ev_sizeLine : sizeLine = 16777216 := sizeLine_eq
def refIsL (o : Option O) : Bool := match o with | some (.lst _) => true | _ => false
@[simp] theorem ev_isLR (j : Nat) (h : Hh) : isL (.ref j) h = refIsL h[j]? := by
  show (match h[j]? with | some (.lst ds) => some ds | _ => none : Option (List D)).isSome = _
  cases h[j]? with
  | none => rfl
  | some o => cases o <;> rfl
@[simp] theorem ev_refIsL (xs : List D) : refIsL (some (.lst xs)) = true := rfl
def refCh (g : List D → Option (D × List D)) (i : Nat) (h : Hh) (o : Option O) : Option (D × Hh) := match o with
  | some (.lst xs) => (g xs).map fun p => (p.1, h.set i (.lst p.2))
  | _ => none
def g_app (e : D) : List D → Option (D × List D) := fun xs => if xs.length < sizeLine then some (.non, xs ++ [e]) else none
def g_ext (ys : List D) : List D → Option (D × List D) := fun xs => if xs.length + ys.length ≤ sizeLine then some (.non, xs ++ ys) else none
def g_ins (i : Int) (e : D) : List D → Option (D × List D) := fun xs => if xs.length < sizeLine ∧ 0 ≤ i ∧ i < 1000000000 then some (.non, xs.take i.toNat ++ [e] ++ xs.drop i.toNat) else none
def g_pop : List D → Option (D × List D) := fun xs => match xs[xs.length - 1]? with
  | some y => some (y, xs.dropLast)
  | none => none
@[simp] theorem ev_app (e : D) (j : Nat) (h : Hh) : appendO (.ref j) [e] h = refCh (g_app e) j h h[j]? := rfl
def extR (j : Nat) (h : Hh) (o : Option (List D)) : Option (D × Hh) := match o with
  | some ys => refCh (g_ext ys) j h h[j]?
  | none => none
@[simp] theorem ev_ext (e : D) (j : Nat) (h : Hh) : extendO (.ref j) [e] h = extR j h (seqL e h) := by
  show (match seqL e h with | some ys => chL (g_ext ys) (.ref j) h | none => none : Option (D × Hh)) = _
  cases seqL e h <;> rfl
@[simp] theorem ev_extR (j : Nat) (h : Hh) (ys : List D) : extR j h (some ys) = refCh (g_ext ys) j h h[j]? := rfl
@[simp] theorem ev_ins (i : Int) (e : D) (j : Nat) (h : Hh) : insertO (.ref j) [.int i, e] h = refCh (g_ins i e) j h h[j]? := rfl
@[simp] theorem ev_pop (j : Nat) (h : Hh) : popO (.ref j) [] h = refCh g_pop j h h[j]? := rfl
@[simp] theorem ev_refCh (g : List D → Option (D × List D)) (i : Nat) (h : Hh) (xs : List D) : refCh g i h (some (.lst xs)) = (g xs).map fun p => (p.1, h.set i (.lst p.2)) := rfl
@[simp] theorem ev_gapp (e : D) (xs : List D) : g_app e xs = if xs.length < 16777216 then some (.non, xs ++ [e]) else none := by rw [← sizeLine_eq]; rfl
@[simp] theorem ev_gext (ys xs : List D) : g_ext ys xs = if xs.length + ys.length ≤ 16777216 then some (.non, xs ++ ys) else none := by rw [← sizeLine_eq]; rfl
@[simp] theorem ev_seqLL (xs : List D) (h : Hh) : seqL (.lst xs) h = some xs := rfl
def refSeq (o : Option O) : Option (List D) := match o with | some (.lst xs) => some xs | _ => none
@[simp] theorem ev_seqLR (j : Nat) (h : Hh) : seqL (.ref j) h = refSeq h[j]? := by
  show (match h[j]? with | some (.lst ds) => some ds | _ => none : Option (List D)) = _
  cases h[j]? with
  | none => rfl
  | some o => cases o <;> rfl
@[simp] theorem ev_refSeq (xs : List D) : refSeq (some (.lst xs)) = some xs := rfl
/-- the list that was laid last -/
@[simp] theorem set_last (h : Hh) (o o' : O) : (h ++ [o]).set h.length o' = h ++ [o'] := by
  induction h with
  | nil => rfl
  | cons x xs ih => simp [ih]
/-- a loop over a thing that may change -/
def refSrc (j : Nat) (o : Option O) : Option Src := match o with
  | some (.lst ds) => some ⟨ds, some (j, ds)⟩
  | _ => none
@[simp] theorem ev_srcR (j : Nat) (h : Hh) : srcOf (.ref j) h = refSrc j h[j]? := by
  show (match h[j]? with | some (.lst ds) => some ⟨ds, some (j, ds)⟩ | _ => none : Option Src) = _
  cases h[j]? with
  | none => rfl
  | some o => cases o <;> rfl
@[simp] theorem ev_refSrc (j : Nat) (ds : List D) : refSrc j (some (.lst ds)) = some ⟨ds, some (j, ds)⟩ := rfl
theorem gOk_ref {j : Nat} {ds : List D} {h : Hh} (e : h[j]? = some (.lst ds)) : gOk (some (j, ds)) h := fun i es q => by cases q; exact e
def lenR (o : Option O) : Option D := match o with
  | some (.lst xs) => some (.int xs.length)
  | some (.dK kvs) => some (.int kvs.length)
  | _ => none
@[simp] theorem ev_lenR (j : Nat) (h : Hh) : lenO [.ref j] h = lenR h[j]? := by
  show (match h[j]? with | some (.lst xs) => some (.int xs.length) | some (.dK kvs) => some (.int kvs.length) | _ => none : Option D) = _
  cases h[j]? with
  | none => rfl
  | some o => cases o <;> rfl
@[simp] theorem ev_lenRL (xs : List D) : lenR (some (.lst xs)) = some (.int xs.length) := rfl
@[simp] theorem ev_lenRD (xs : List (Key × D)) : lenR (some (.dK xs)) = some (.int xs.length) := rfl
/-- every turn goes on, from a state that is well to a state that is well -/
theorem for_invL {g : Option (Nat × List D)} {body : D → DEnv → Hh → RS} (I : DEnv → Hh → Prop) (hg : ∀ env h, I env h → gOk g h) : ∀ (ds : List D) (env : DEnv) (h : Hh), I env h → (∀ d ∈ ds, ∀ env h, I env h → ∃ env' h', body d env h = .nx env' h' ∧ I env' h') → ∃ env' h', forL g body ds env h = .nx env' h' ∧ I env' h'
  | [], env, h, i, _ => ⟨env, h, by unfold forL; rw [if_pos (hg env h i)], i⟩
  | d :: ds, env, h, i, b => by
    obtain ⟨env1, h1, e1, i1⟩ := b d List.mem_cons_self env h i
    obtain ⟨env2, h2, e2, i2⟩ := for_invL I hg ds env1 h1 i1 fun d m => b d (List.mem_cons_of_mem _ m)
    exact ⟨env2, h2, by
      conv => lhs; unfold forL
      rw [if_pos (hg env h i), e1, ev_lb_nx, e2], i2⟩
def refTy (o : Option O) : Option String := match o with
  | some (.lst _) => some "list"
  | some (.dK _) => some "dict"
  | some (.dN _) => some "dict"
  | _ => none
@[simp] theorem ev_tyR (j : Nat) (h : Hh) : tyName (.ref j) h = refTy h[j]? := by
  show (match h[j]? with | some (.lst _) => some "list" | some (.dK _) => some "dict" | some (.dN _) => some "dict" | _ => none : Option String) = _
  cases h[j]? with
  | none => rfl
  | some o => cases o <;> rfl
@[simp] theorem ev_refTyL (xs : List D) : refTy (some (.lst xs)) = some "list" := rfl
@[simp] theorem ev_refTyD (xs : List (Key × D)) : refTy (some (.dK xs)) = some "dict" := rfl
@[simp] theorem ev_refTyN (xs : List (D × D)) : refTy (some (.dN xs)) = some "dict" := rfl
theorem mem_range {lo hi : Int} {d : D} (h : d ∈ rangeD lo hi) : ∃ k : Int, d = .int k ∧ lo ≤ k ∧ k < hi := by
  unfold rangeD at h
  obtain ⟨i, hi, rfl⟩ := List.mem_map.mp h
  exact ⟨lo + i, rfl, by omega, by have := List.mem_range.mp hi; omega⟩
end MR

/-! F16: what the laws of this program share: plain things, picks, rules; kinds. -/
namespace MR
open PySem PySem.Spec PyProof.Rows L2

theorem mulE (i j : Int) (h : Hh) : mulO (.int i) (.int j) h = if ((-18446744073709551616 < i ∧ i < 18446744073709551616) ∨ (-18446744073709551616 < j ∧ j < 18446744073709551616)) ∨ i.natAbs.log2 + j.natAbs.log2 < 1000000 then some (.int (i * j)) else none := rfl
/-- plain things, no deeper than n -/
def fit : Nat → D → Bool
  | 0, _ => false
  | n + 1, d => match d with
    | .non => true
    | .bl _ => true
    | .int _ => true
    | .str x => PyData.strOk x
    | .tup ds => ds.all (fit n)
    | .lst ds => ds.all (fit n)
    | _ => false
theorem fit_pys {n : Nat} (ih : ∀ d, fit n d = true → ∃ p, toPy d = some p ∧ p.canLay0 = true ∧ p.depth ≤ n ∧ PyData.eqv p p = true) : ∀ ds : List D, ds.all (fit n) = true → ∃ ps, toPys ds = some ps ∧ PyData.canLayAll0 ps = true ∧ PyData.depthAll ps ≤ n ∧ PyData.eqvAll ps ps = true
  | [], _ => ⟨[], rfl, rfl, Nat.zero_le _, rfl⟩
  | d :: ds, f => by
    rw [List.all_cons, Bool.and_eq_true] at f
    obtain ⟨p, e1, c1, p1, q1⟩ := ih d f.1
    obtain ⟨ps, e2, c2, p2, q2⟩ := fit_pys ih ds f.2
    refine ⟨p :: ps, by rw [toPys, e1, e2], by rw [PyData.canLayAll0, c1, c2]; rfl, ?_, by rw [PyData.eqvAll, q1, q2]; rfl⟩
    rw [PyData.depthAll]; omega
theorem fit_py : ∀ (n : Nat) (d : D), fit n d = true → ∃ p, toPy d = some p ∧ p.canLay0 = true ∧ p.depth ≤ n ∧ PyData.eqv p p = true
  | 0, d, f => by cases f
  | n + 1, d, f => by
    cases d with
    | non => exact ⟨_, rfl, rfl, by rw [PyData.depth]; omega, rfl⟩
    | bl b => exact ⟨_, rfl, rfl, by rw [PyData.depth]; omega, by simp [PyData.eqv]⟩
    | int i => exact ⟨_, rfl, rfl, by rw [PyData.depth]; omega, by simp [PyData.eqv]⟩
    | str x => exact ⟨_, rfl, f, by rw [PyData.depth]; omega, by simp [PyData.eqv]⟩
    | tup ds =>
      obtain ⟨ps, e, c, p, q⟩ := fit_pys (fit_py n) ds f
      exact ⟨.tuple ps, by rw [toPy, e]; rfl, by rw [PyData.canLay0]; exact c, by rw [PyData.depth]; omega, by rw [PyData.eqv]; exact q⟩
    | lst ds =>
      obtain ⟨ps, e, c, p, q⟩ := fit_pys (fit_py n) ds f
      exact ⟨.list ps, by rw [toPy, e]; rfl, by rw [PyData.canLay0]; exact c, by rw [PyData.depth]; omega, by rw [PyData.eqv]; exact q⟩
    | ref i => cases f
    | glb v => cases f
    | scr ns => cases f
    | wtp ds => cases f
theorem fit_of {n : Nat} (hn : n ≤ 64) {d : D} (f : fit n d = true) (h : Hh) : ∃ p, pyOf d h = some p ∧ PyData.eqv p p = true := by
  obtain ⟨p, e, c, q, r⟩ := fit_py n d f
  refine ⟨p, ?_, r⟩
  have ed : deref d h = d := by
    cases d with
    | ref i => cases n <;> cases f
    | _ => rfl
  unfold pyOf
  rw [ed, e]
  have : SeqAt.shaped p = true := by
    unfold SeqAt.shaped
    rw [c, decide_eq_true (by omega)]; rfl
  simp [this]
theorem fit_ne {n : Nat} (hn : n ≤ 64) {d : D} (f : fit n d = true) (h : Hh) : neO d d h = some (.bl false) := by
  obtain ⟨p, e, r⟩ := fit_of hn f h
  unfold neO
  rw [e]
  simp [r]
theorem fit_eq {n : Nat} (hn : n ≤ 64) {d : D} (f : fit n d = true) (h : Hh) : eqO d d h = some (.bl true) := by
  obtain ⟨p, e, r⟩ := fit_of hn f h
  unfold eqO
  rw [e]
  simp [r]
theorem truths_all {α : Type} (xs : List α) : truths (xs.map fun _ => D.bl true) = some (xs.map fun _ => true) := by
  induction xs with
  | nil => rfl
  | cons x xs ih => simp [ih]
theorem kit_all : kitB "NoneType" "dict" = some false ∧ kitB "NoneType" "list" = some false ∧ kitB "NoneType" "tuple" = some false ∧ kitB "NoneType" "str" = some false ∧ kitB "NoneType" "bool" = some false ∧ kitB "NoneType" "int" = some false := by decide +kernel
theorem kit_bool : kitB "bool" "dict" = some false ∧ kitB "bool" "list" = some false ∧ kitB "bool" "tuple" = some false ∧ kitB "bool" "str" = some false ∧ kitB "bool" "bool" = some true ∧ kitB "bool" "int" = some true := by decide +kernel
theorem kit_int : kitB "int" "dict" = some false ∧ kitB "int" "list" = some false ∧ kitB "int" "tuple" = some false ∧ kitB "int" "str" = some false ∧ kitB "int" "bool" = some false ∧ kitB "int" "int" = some true := by decide +kernel
theorem kit_str : kitB "str" "dict" = some false ∧ kitB "str" "list" = some false ∧ kitB "str" "tuple" = some false ∧ kitB "str" "str" = some true ∧ kitB "str" "bool" = some false ∧ kitB "str" "int" = some false := by decide +kernel
theorem kit_tuple : kitB "tuple" "dict" = some false ∧ kitB "tuple" "list" = some false ∧ kitB "tuple" "tuple" = some true ∧ kitB "tuple" "str" = some false ∧ kitB "tuple" "bool" = some false ∧ kitB "tuple" "int" = some false := by decide +kernel
theorem kit_list : kitB "list" "dict" = some false ∧ kitB "list" "list" = some true ∧ kitB "list" "tuple" = some false ∧ kitB "list" "str" = some false ∧ kitB "list" "bool" = some false ∧ kitB "list" "int" = some false := by decide +kernel
theorem kit_dict : kitB "dict" "dict" = some true ∧ kitB "dict" "list" = some false ∧ kitB "dict" "tuple" = some false ∧ kitB "dict" "str" = some false ∧ kitB "dict" "bool" = some false ∧ kitB "dict" "int" = some false := by decide +kernel
/-- where the numbers that are left stand -/
def Lf (h : Hh) (i : Nat) : Prop := ∃ a b c : Int, h[i]? = some (.lst [.int a, .int b, .int c]) ∧ 0 ≤ a ∧ 0 ≤ b ∧ b < 2147483648 ∧ 0 ≤ c
/-- all the rest stands as it stood -/
def Nx (i : Nat) (h h' : Hh) : Prop := h'.length = h.length ∧ ∀ j, j ≠ i → h'[j]? = h[j]?
theorem Nx.trans {i : Nat} {a b c : Hh} (x : Nx i a b) (y : Nx i b c) : Nx i a c := ⟨by rw [y.1, x.1], fun j n => by rw [y.2 j n, x.2 j n]⟩
theorem Nx.refl {i : Nat} {a : Hh} : Nx i a a := ⟨rfl, fun _ _ => rfl⟩
theorem Nx.set {i : Nat} {a : Hh} {o : O} : Nx i a (a.set i o) := ⟨by simp, fun j n => by simp [List.getElem?_set, Ne.symm n]⟩
theorem Lf.lt {h : Hh} {i : Nat} (l : Lf h i) : i < h.length := by
  obtain ⟨a, b, c, e, _⟩ := l
  exact (List.getElem?_eq_some_iff.mp e).1
theorem Lf.app {h : Hh} {a b c : Int} (a0 : 0 ≤ a) (b0 : 0 ≤ b) (b1 : b < 2147483648) (c0 : 0 ≤ c) : Lf (h ++ [.lst [.int a, .int b, .int c]]) h.length := ⟨a, b, c, by simp, a0, b0, b1, c0⟩
abbrev WL : List Str := ["rows", "readers", "writers", "turns", "passes"]
theorem get_in {α : Type} (xs : List α) {r : Int} (r0 : 0 ≤ r) (r1 : r < xs.length) : ∃ x ∈ xs, xs[r.toNat]? = some x := by
  have h : r.toNat < xs.length := by omega
  exact ⟨xs[r.toNat], List.getElem_mem h, List.getElem?_eq_getElem h⟩
theorem ok_word {w : Str} (h : w ∈ WL) : PyData.strOk w = true := by
  simp only [WL, List.mem_cons, List.not_mem_nil, or_false] at h
  rcases h with rfl | rfl | rfl | rfl | rfl <;> decide +kernel
/-- a rule that the law makes -/
structure Rul (w : Str) (m t u : Int) : Prop where
  hw : w ∈ WL
  hm : m = 0 ∨ m = 1 ∨ m = 2 ∨ m = 3 ∨ m = 5
  ht : t = 0 ∨ w = "passes" ∧ (t = 1 ∨ t = 2 ∨ t = 9)
  hu : u = 0 ∨ u = 1

/-! x in (..): texts -/
theorem toPys_strs (ws : List Str) : toPys (ws.map D.str) = some (ws.map PyData.str) := by
  induction ws with
  | nil => rfl
  | cons w ws ih => rw [List.map_cons, toPys, ih]; rfl
theorem any_strs (x : Str) (ws : List Str) : ((ws.map PyData.str).any fun z => PyData.eqv z (.str x)) = decide (x ∈ ws) := by
  induction ws with
  | nil => rfl
  | cons w ws ih =>
    rw [List.map_cons, List.any_cons, ih]
    by_cases h : w = x
    · subst h; simp [PyData.eqv]
    · simp [PyData.eqv, h, Ne.symm h]
def oks : List Str → Bool := fun ws => ws.all PyData.strOk
theorem shaped_strs {ws : List Str} (h : oks ws = true) : PyData.canLayAll0 (ws.map PyData.str) = true ∧ PyData.depthAll (ws.map PyData.str) = 0 := by
  induction ws with
  | nil => exact ⟨rfl, rfl⟩
  | cons w ws ih =>
    have h : PyData.strOk w = true ∧ oks ws = true := by simpa [oks] using h
    obtain ⟨a, b⟩ := ih h.2
    exact ⟨by rw [List.map_cons, PyData.canLayAll0, a, PyData.canLay0, h.1]; rfl, by rw [List.map_cons, PyData.depthAll, b, PyData.depth]; rfl⟩
theorem in_strs {x : Str} {ws : List Str} (hx : PyData.strOk x = true) (hw : oks ws = true) (neg : Bool) (h : Hh) : inO neg (.str x) (.tup (ws.map D.str)) h = some (.bl (if neg then !decide (x ∈ ws) else decide (x ∈ ws))) := by
  have e1 : pyOf (.str x) h = some (.str x) := if_pos (shaped_str hx)
  have e2 : pyOf (.tup (ws.map D.str)) h = some (.tuple (ws.map PyData.str)) := by
    unfold pyOf deref
    show (match toPy (.tup (ws.map D.str)) with | some p => if SeqAt.shaped p = true then some p else none | none => none) = _
    rw [toPy, toPys_strs]
    have : SeqAt.shaped (.tuple (ws.map PyData.str)) = true := by
      obtain ⟨a, b⟩ := shaped_strs hw
      unfold SeqAt.shaped
      rw [PyData.canLay0, a, PyData.depth, b]; rfl
    show (if SeqAt.shaped (.tuple (ws.map PyData.str)) = true then _ else _) = _
    rw [if_pos this]
  unfold inO
  rw [e1, e2]
  show some (D.bl _) = _
  rw [any_strs]
theorem in_strsL {x : Str} {ws : List Str} (hx : PyData.strOk x = true) (hw : oks ws = true) (neg : Bool) (h : Hh) : inO neg (.str x) (.lst (ws.map D.str)) h = some (.bl (if neg then !decide (x ∈ ws) else decide (x ∈ ws))) := by
  have e1 : pyOf (.str x) h = some (.str x) := if_pos (shaped_str hx)
  have e2 : pyOf (.lst (ws.map D.str)) h = some (.list (ws.map PyData.str)) := by
    unfold pyOf deref
    show (match toPy (.lst (ws.map D.str)) with | some p => if SeqAt.shaped p = true then some p else none | none => none) = _
    rw [toPy, toPys_strs]
    have : SeqAt.shaped (.list (ws.map PyData.str)) = true := by
      obtain ⟨a, b⟩ := shaped_strs hw
      unfold SeqAt.shaped
      rw [PyData.canLay0, a, PyData.depth, b]; rfl
    show (if SeqAt.shaped (.list (ws.map PyData.str)) = true then _ else _) = _
    rw [if_pos this]
  unfold inO
  rw [e1, e2]
  show some (D.bl _) = _
  rw [any_strs]
/-- a rule as data -/
abbrev rD (w : Str) (m t u : Int) : D := .tup [.str w, .int m, .int t, .int u]
/-- the kind of a thing -/
def kindOf (d : D) : Option String := match d with
  | .non => some "NoneType" | .bl _ => some "bool" | .int _ => some "int" | .str _ => some "str" | .tup _ => some "tuple" | .lst _ => some "list" | .scr _ => some "list"
  | _ => none
end MR

/-! F17: tuple * int. -/
namespace MR
open PySem PySem.Spec PyProof.Rows L2

theorem tuple_mul_same (l : Addr) (items : Array Value) (n : Nat) (dd : Option Addr) (sl : Array (Option Value)) (x : Int) (u : Tok) (c0 : (decide (x < -(2 ^ 63)) || decide (x ≥ 2 ^ 63)) = false) (c1 : (items.isEmpty || x == 1) = true) :
    Meets (Builtin.«tuple.__mul__» ⟨[.ref l, .int x u], []⟩) (fun _ R s => s.heap.get? l = some { cls := .type "tuple", dict := dd, data := .seq items n, slots := sl } ∧ R (.ok (.ret (Value.ref l))) s) :=
  .of_wp fun prog w A R s h => by
    obtain ⟨hp, g, d, tk, os⟩ := s
    obtain ⟨hl, h⟩ := h
    have f1 := AutoSeq1.idx_int
    wp_walk using wpAny_loadPart' hl
    repeat (first
      | (refine wpAny_ite_false (decide_eq_false (by rw [c0]; exact Bool.false_ne_true)) ?_; wp_walk using wpAny_loadPart' hl)
      | (refine wpAny_ite_true (decide_eq_true c1) ?_; wp_walk using wpAny_loadPart' hl))
    exact ⟨_, rfl, h⟩
theorem tuple_mul_none (l : Addr) (items : Array Value) (n : Nat) (dd : Option Addr) (sl : Array (Option Value)) (x : Int) (u : Tok) (c0 : (decide (x < -(2 ^ 63)) || decide (x ≥ 2 ^ 63)) = false) (c1 : (items.isEmpty || x == 1) = false) (c2 : (decide (x ≤ 0) || items.isEmpty) = true) :
    Meets (Builtin.«tuple.__mul__» ⟨[.ref l, .int x u], []⟩) (fun _ R s => s.heap.get? l = some { cls := .type "tuple", dict := dd, data := .seq items n, slots := sl } ∧
      R (.ok (.ret (Value.ref s.heap.objs.size))) { s with heap := s.heap.push { cls := Value.type "tuple", data := Data.seq #[] }, toks := s.toks }) :=
  .of_wp fun prog w A R s h => by
    obtain ⟨hp, g, d, tk, os⟩ := s
    obtain ⟨hl, h⟩ := h
    have f1 := AutoSeq1.idx_int
    wp_walk using wpAny_loadPart' hl
    repeat (first
      | (refine wpAny_ite_false (decide_eq_false (by rw [c0]; exact Bool.false_ne_true)) ?_; wp_walk using wpAny_loadPart' hl)
      | (refine wpAny_ite_false (decide_eq_false (by rw [c1]; exact Bool.false_ne_true)) ?_; wp_walk using wpAny_loadPart' hl)
      | (refine wpAny_ite_true (decide_eq_true c2) ?_; wp_walk using wpAny_loadPart' hl))
    exact ⟨_, rfl, h⟩
def rRep1 (K : PySem.W.Frag) : R2 := fun x y H Q => ∃ l k xs, x = .ref l ∧ y = .int k ∧ SqT K H l xs ∧ -1000 ≤ k ∧ k ≤ 1000 ∧ ((xs = [] ∨ k = 1) ∧ Q (.ref l) H ∨ (xs ≠ [] ∧ k ≤ 0) ∧ NewT H [] Q ∨ (xs ≠ [] ∧ 2 ≤ k ∧ xs.length ≤ 1000) ∧ NewT H (List.replicate k.toNat xs).flatten Q)
section
variable {X : Cx}
theorem op_rep1 : OpR X (binaryOp .Mult) (rRep1 X.K) := by
  intro pins s σ H x y v u Q I rx ry h
  obtain ⟨l, k, xs, rfl, rfl, hT, h1, h2, q⟩ := h
  cases rx
  obtain ⟨t, rfl⟩ := ry
  obtain ⟨its, r, ⟨⟨cls, dd, data, sl⟩, ho, hc, n, hd⟩, hs⟩ := I.tuple hT
  simp only at hc hd
  subst hc hd
  have hle : its.length = xs.length := r.length.symm
  have c0 : (decide (k < -(2 ^ 63)) || decide (k ≥ 2 ^ 63)) = false := by
    rw [decide_eq_false (by omega), decide_eq_false (by omega)] <;> rfl
  rcases q with ⟨c, q⟩ | ⟨⟨c1, c2⟩, q⟩ | ⟨⟨c1, c2, hz⟩, q⟩
  · have c1 : (its.toArray.isEmpty || k == 1) = true := by
      rcases c with c | c
      · subst c
        have : its = [] := List.eq_nil_of_length_eq_zero hle
        subst this; rfl
      · subst c; simp
    refine wpAny_binaryOp_repeat_ref (T := "tuple") (U := "int") (by decide) ⟨_, ho, rfl⟩ (fun s' => typeIs_int s' k t) noFill_tuple_mul F.fills_int_mul F.slot_int_rmul repeat_tuple F.slot_int_index.lookup
      (call_meets F.slot_int_rmul (typeIs_int s k t) F.entry_int_rmul (F.args_int_rmul_2 _ _) (int_rmul_tuple k t l its.toArray n dd sl)
        ⟨ho, rfl, ⟨_, ho, rfl⟩, call_meets F.slot_tuple_mul ⟨_, ho, rfl⟩ F.entry_tuple_mul (F.args_tuple_mul_2 _ _) (tuple_mul_same l its.toArray n dd sl k t c0 c1) ⟨ho, ?_⟩⟩)
    exact ⟨.ref l, H, I, rfl, q⟩
  · have hn : its ≠ [] := fun e => c1 (by
      rw [e] at hle
      exact List.eq_nil_of_length_eq_zero hle.symm)
    have hi : its.toArray.isEmpty = false := by
      cases its with
      | nil => exact absurd rfl hn
      | cons a b => rfl
    have c3 : (its.toArray.isEmpty || k == 1) = false := by
      rw [hi, Bool.false_or]
      exact beq_eq_false_iff_ne.mpr (by omega)
    have c4 : (decide (k ≤ 0) || its.toArray.isEmpty) = true := by
      rw [decide_eq_true c2]; rfl
    refine wpAny_binaryOp_repeat_ref (T := "tuple") (U := "int") (by decide) ⟨_, ho, rfl⟩ (fun s' => typeIs_int s' k t) noFill_tuple_mul F.fills_int_mul F.slot_int_rmul repeat_tuple F.slot_int_index.lookup
      (call_meets F.slot_int_rmul (typeIs_int s k t) F.entry_int_rmul (F.args_int_rmul_2 _ _) (int_rmul_tuple k t l its.toArray n dd sl)
        ⟨ho, rfl, ⟨_, ho, rfl⟩, call_meets F.slot_tuple_mul ⟨_, ho, rfl⟩ F.entry_tuple_mul (F.args_tuple_mul_2 _ _) (tuple_mul_none l its.toArray n dd sl k t c0 c3 c4) ⟨ho, ?_⟩⟩)
    exact inv_newT I (its := []) .nil (Nat.zero_le _) q
  · have hn : its ≠ [] := fun e => c1 (by
      rw [e] at hle
      exact List.eq_nil_of_length_eq_zero hle.symm)
    have hi : its.toArray.isEmpty = false := by
      cases its with
      | nil => exact absurd rfl hn
      | cons a b => rfl
    have hsz0 : its.toArray.size = xs.length := by rw [List.size_toArray, hle]
    have hm : ((its.toArray.size : Nat) : Int) * k ≤ 1000000 := by
      rw [hsz0]
      have a1 : ((xs.length : Nat) : Int) * k ≤ 1000 * k := Int.mul_le_mul_of_nonneg_right (by omega) (by omega)
      omega
    have nlen : k.toNat * xs.length ≤ 1000000 := by
      have a1 : k.toNat * xs.length ≤ 1000 * 1000 := Nat.mul_le_mul (by omega) hz
      omega
    have flen : (List.replicate k.toNat its).flatten.length ≤ sizeLine := by
      rw [PyProof.Rows.lm_len_rep_flat, hle, sizeLine_eq]; omega
    have c3 : (its.toArray.isEmpty || k == 1) = false := by
      rw [hi, Bool.false_or]
      exact beq_eq_false_iff_ne.mpr (by omega)
    have c4 : (decide (k ≤ 0) || its.toArray.isEmpty) = false := by
      rw [hi, Bool.or_false]
      exact decide_eq_false (by omega)
    have c5 : Builtin.Tuple.tupleTooMany (((its.toArray.size : Nat) : Int) * k) = false := by
      unfold Builtin.Tuple.tupleTooMany
      rw [sizeLine_eq]
      exact decide_eq_false (by omega)
    refine wpAny_binaryOp_repeat_ref (T := "tuple") (U := "int") (by decide) ⟨_, ho, rfl⟩ (fun s' => typeIs_int s' k t) noFill_tuple_mul F.fills_int_mul F.slot_int_rmul repeat_tuple F.slot_int_index.lookup
      (call_meets F.slot_int_rmul (typeIs_int s k t) F.entry_int_rmul (F.args_int_rmul_2 _ _) (int_rmul_tuple k t l its.toArray n dd sl)
        ⟨ho, rfl, ⟨_, ho, rfl⟩, call_meets F.slot_tuple_mul ⟨_, ho, rfl⟩ F.entry_tuple_mul (F.args_tuple_mul_2 _ _) (tuple_mulW l its.toArray n dd sl k t c0 c3 c4 (by omega) c5 (by rw [size_rep, List.size_toArray]; exact flen)) ⟨ho, ?_⟩⟩)
    rw [size_rep]
    exact inv_newT I (r.rep k.toNat) (by rw [PyProof.Rows.lm_len_rep_flat, sizeLine_eq]; omega) q
end

/-! ### * -/
def repG {α : Type} (xs : List α) (k : Int) : List α := (List.replicate k.toNat xs).flatten
def mulB : Op2 := fun a b h => match a, b with
  | .tup xs, .int k => if -1000 ≤ k ∧ k ≤ 1000 ∧ xs.length ≤ 1000 then some (.tup (repG xs k)) else none
  | .lst xs, .int k => if -1000 ≤ k ∧ k ≤ 1000 ∧ xs.length ≤ 1000 then some (.lst (repG xs k)) else none
  | a, b => mulO a b h
def rMulB (K : PySem.W.Frag) : R2 := fun x y H Q => rMulA x y H Q ∨ (rRep1 K x y H Q ∨ rRep x y H Q)
theorem op_mulB {X : Cx} : OpR X (binaryOp .Mult) (rMulB X.K) := op_mulA.or (op_rep1.or op_rep)
section
variable {G : Gm} {rho : Rm} {H : Hp}
theorem Dens.rep {ds : List D} {vs : List V} (q : Dens G rho H ds vs) : ∀ n : Nat, Dens G rho H (List.replicate n ds).flatten (List.replicate n vs).flatten
  | 0 => rfl
  | n + 1 => by
    rw [List.replicate_succ, List.replicate_succ, List.flatten_cons, List.flatten_cons]
    exact q.append (Dens.rep q n)
theorem rep_len {α : Type} (xs : List α) (n : Nat) : (List.replicate n xs).flatten.length = n * xs.length := by simp
theorem rz_mulB : Rz2 G (rMulB G.K) mulB := fun rho hh H d1 d2 v1 v2 d Q R q1 q2 e k => by
  unfold mulB at e
  split at e
  · rename_i xs i
    split at e
    · rename_i hc
      obtain ⟨c1, c2, c3⟩ := hc
      cases e
      have q0 := q1
      rw [Den] at q1
      obtain ⟨a, vs, rfl, hT, l, z⟩ := q1
      have q2 : v2 = .int i := q2
      have hl := z.length
      by_cases h1 : vs = [] ∨ i = 1
      · have ex : repG xs i = xs := by
          rcases h1 with h1 | h1
          · subst h1
            have : xs = [] := List.eq_nil_of_length_eq_zero (by simpa using hl)
            subst this
            unfold repG
            simp
          · subst h1; simp [repG]
        refine .inr (.inl ⟨a, i, vs, rfl, q2, hT.t, c1, c2, .inl ⟨h1, k _ H .refl R ?_⟩⟩)
        rw [ex]; exact q0
      · by_cases h2 : i ≤ 0
        · have e0 : i.toNat = 0 := by omega
          refine .inr (.inl ⟨a, i, vs, rfl, q2, hT.t, c1, c2, .inr (.inl ⟨⟨fun e => h1 (.inl e), h2⟩, fun p o hp ho => k _ _ (.laid hp) (R.laid hp) ?_⟩)⟩)
          have : repG xs i = [] := by unfold repG; rw [e0]; rfl
          rw [this]
          exact Den.tup_new (ds := []) (vs := []) ho R rfl (Nat.zero_le _) hp
        · refine .inr (.inl ⟨a, i, vs, rfl, q2, hT.t, c1, c2, .inr (.inr ⟨⟨fun e => h1 (.inl e), by omega, by omega⟩, fun p o hp ho => k _ _ (.laid hp) (R.laid hp) (Den.tup_new ho R (z.rep _) ?_ hp)⟩)⟩)
          rw [rep_len, sizeLine_eq]
          have a1 : i.toNat * vs.length ≤ 1000 * 1000 := Nat.mul_le_mul (by omega) (by omega)
          omega
    · cases e
  · rename_i xs i
    split at e
    · rename_i hc
      obtain ⟨c1, c2, c3⟩ := hc
      cases e
      obtain ⟨a, vs, rfl, hT, l, z⟩ := seqL_of (ds := xs) R q1 rfl
      have hl := z.length
      have a1 : i.toNat * vs.length ≤ 1000 * 1000 := Nat.mul_le_mul (by omega) (by omega)
      refine .inr (.inr ⟨a, i, vs, rfl, q2, hT, by omega, by omega, by rw [sizeLine_eq, Nat.mul_comm]; omega, fun p hp => k _ _ (.laid hp) (R.laid hp) (den_lst_new R (z.rep _) ?_ hp)⟩)
      rw [rep_len, sizeLine_eq]
      omega
    · cases e
  · exact .inl (rz_mul rho hh H d1 d2 v1 v2 d Q R q1 q2 e k)
end
@[simp] theorem ev_mulBI (i j : Int) (h : Hh) : mulB (.int i) (.int j) h = mulO (.int i) (.int j) h := rfl
@[simp] theorem ev_mulBT (xs : List D) (k : Int) (h : Hh) : mulB (.tup xs) (.int k) h = if -1000 ≤ k ∧ k ≤ 1000 ∧ xs.length ≤ 1000 then some (.tup (repG xs k)) else none := rfl
@[simp] theorem ev_mulBL (xs : List D) (k : Int) (h : Hh) : mulB (.lst xs) (.int k) h = if -1000 ≤ k ∧ k ≤ 1000 ∧ xs.length ≤ 1000 then some (.lst (repG xs k)) else none := rfl
end MR

/-! F18: loops and comprehensions, as a whole. -/
namespace MR
open PySem PySem.Spec PyProof.Rows L2

@[simp] theorem ev_tupleT (xs : List D) (h : Hh) : tupleO [.tup xs] h = some (.tup xs) := rfl
@[simp] theorem ev_tupleL (xs : List D) (h : Hh) : tupleO [.lst xs] h = some (.tup xs) := rfl
@[simp] theorem ev_tupleR (j : Nat) (h : Hh) : tupleO [.ref j] h = (refSeq h[j]?).map fun xs => .tup xs := by
  show (seqL (.ref j) h).map _ = _
  rw [ev_seqLR]
/-- a comprehension that changes nothing -/
theorem comp_map {T : Tg} {e : ME} {env : DEnv} {h : Hh} (f : D → D) : ∀ ds : List D, (∀ d ∈ ds, ∃ env', bindT T d env = some env' ∧ e env' h = .ok (f d) h) → compL none T (fun _ h => .ok true h) e env ds h = .ok (ds.map f) h
  | [], _ => ev_comp_nil _ _ _ _ _
  | d :: ds, hd => by
    have ih := comp_map (e := e) (env := env) (h := h) f ds fun d m => hd d (List.mem_cons_of_mem _ m)
    obtain ⟨env', e0, e1⟩ := hd d List.mem_cons_self
    rw [ev_comp_cons, e0, ev_k_c0, ev_bind_ok, ev_k_c11, e1, ev_bind_ok, ev_k_c2, ih, ev_bind_ok, ev_k_cons']
    rfl
/-- .. with a test -/
theorem comp_filter {T : Tg} {t : MT} {e : ME} {env : DEnv} {h : Hh} (p : D → Bool) (f : D → D) : ∀ ds : List D, (∀ d ∈ ds, ∃ env', bindT T d env = some env' ∧ t env' h = .ok (p d) h ∧ (p d = true → e env' h = .ok (f d) h)) → compL none T t e env ds h = .ok ((ds.filter p).map f) h
  | [], _ => ev_comp_nil _ _ _ _ _
  | d :: ds, hd => by
    have ih := comp_filter (t := t) (e := e) (env := env) (h := h) p f ds fun d m => hd d (List.mem_cons_of_mem _ m)
    obtain ⟨env', e0, e1, e2⟩ := hd d List.mem_cons_self
    rw [ev_comp_cons, e0, ev_k_c0, e1, ev_bind_ok]
    cases hp : p d with
    | true => rw [ev_k_c11, e2 hp, ev_bind_ok, ev_k_c2, ih, ev_bind_ok, ev_k_cons', List.filter_cons_of_pos hp]; rfl
    | false => rw [ev_k_c10, ih, List.filter_cons_of_neg (by rw [hp]; exact Bool.false_ne_true)]
/-- a comprehension whose items may change what stands -/
theorem comp_inv {T : Tg} {e : ME} {env : DEnv} (I : Hh → Prop) (P : D → Prop) : ∀ (ds : List D) (h : Hh), I h → (∀ d ∈ ds, ∀ h, I h → ∃ env' y h', bindT T d env = some env' ∧ e env' h = .ok y h' ∧ I h' ∧ P y) →
    ∃ ys h', compL none T (fun _ h => .ok true h) e env ds h = .ok ys h' ∧ I h' ∧ ys.length = ds.length ∧ ∀ y ∈ ys, P y
  | [], h, i, _ => ⟨[], h, ev_comp_nil _ _ _ _ _, i, rfl, fun _ m => by cases m⟩
  | d :: ds, h, i, hd => by
    obtain ⟨env', y, h1, e0, e1, i1, p1⟩ := hd d List.mem_cons_self h i
    obtain ⟨ys, h2, e2, i2, l2, p2⟩ := comp_inv (env := env) I P ds h1 i1 fun d m => hd d (List.mem_cons_of_mem _ m)
    refine ⟨y :: ys, h2, ?_, i2, by rw [List.length_cons, l2, List.length_cons], fun z m => ?_⟩
    · rw [ev_comp_cons, e0, ev_k_c0, ev_bind_ok, ev_k_c11, e1, ev_bind_ok, ev_k_c2, e2, ev_bind_ok, ev_k_cons']
    · rcases List.mem_cons.mp m with e | m
      · rw [e]; exact p1
      · exact p2 z m
@[simp] theorem truths_map {α : Type} (p : α → Bool) (xs : List α) : truths (xs.map fun x => D.bl (p x)) = some (xs.map p) := by
  induction xs with
  | nil => rfl
  | cons x xs ih => rw [List.map_cons, ev_truths, ih]; rfl
theorem all_map {α : Type} (p : α → Bool) (xs : List α) : (xs.map p).all id = xs.all p := by
  induction xs with
  | nil => rfl
  | cons x xs ih => rw [List.map_cons, List.all_cons, List.all_cons, ih]; rfl
/-- turn by turn, counted -/
theorem for_invN {body : D → DEnv → Hh → RS} (N : Nat) (I : Nat → DEnv → Hh → Prop) : ∀ (ds : List D) (n : Nat) (env : DEnv) (h : Hh), n + ds.length ≤ N → I n env h → (∀ d ∈ ds, ∀ n env h, n < N → I n env h → ∃ env' h', body d env h = .nx env' h' ∧ I (n + 1) env' h') →
    ∃ env' h', forL none body ds env h = .nx env' h' ∧ I (n + ds.length) env' h'
  | [], n, env, h, _, i, _ => ⟨env, h, ev_for_nil body env h, i⟩
  | d :: ds, n, env, h, l, i, b => by
    rw [List.length_cons] at l
    obtain ⟨env1, h1, e1, i1⟩ := b d List.mem_cons_self n env h (by omega) i
    obtain ⟨env2, h2, e2, i2⟩ := for_invN N I ds (n + 1) env1 h1 (by omega) i1 fun d m => b d (List.mem_cons_of_mem _ m)
    exact ⟨env2, h2, by rw [ev_for_cons, e1, ev_lb_nx, e2], by rw [List.length_cons, Nat.add_comm ds.length 1, ← Nat.add_assoc]; exact i2⟩
/-- turn by turn, by what is done -/
theorem for_seen {body : D → DEnv → Hh → RS} (I : List D → DEnv → Hh → Prop) : ∀ (ds pre : List D) (env : DEnv) (h : Hh), I pre env h → (∀ pre d, d ∈ ds → ∀ env h, I pre env h → ∃ env' h', body d env h = .nx env' h' ∧ I (pre ++ [d]) env' h') →
    ∃ env' h', forL none body ds env h = .nx env' h' ∧ I (pre ++ ds) env' h'
  | [], pre, env, h, i, _ => ⟨env, h, ev_for_nil body env h, by rw [List.append_nil]; exact i⟩
  | d :: ds, pre, env, h, i, b => by
    obtain ⟨env1, h1, e1, i1⟩ := b pre d List.mem_cons_self env h i
    obtain ⟨env2, h2, e2, i2⟩ := for_seen I ds (pre ++ [d]) env1 h1 i1 fun pre d m => b pre d (List.mem_cons_of_mem _ m)
    exact ⟨env2, h2, by rw [ev_for_cons, e1, ev_lb_nx, e2], by rw [List.append_assoc] at i2; exact i2⟩
/-- a loop that looks: it goes on while all is well, else it ends with False -/
theorem for_look {body : D → DEnv → Hh → RS} (I : DEnv → Prop) (p : D → Bool) (h : Hh) : ∀ (ds : List D) (env : DEnv), I env → (∀ d ∈ ds, ∀ env, I env → (p d = true → ∃ env', body d env h = .nx env' h ∧ I env') ∧ (p d = false → body d env h = .rt (.bl false) h)) →
    (ds.all p = true → ∃ env', forL none body ds env h = .nx env' h ∧ I env') ∧ (ds.all p = false → forL none body ds env h = .rt (.bl false) h)
  | [], env, i, _ => by
    refine And.intro (fun _ => ⟨env, ev_for_nil body env h, i⟩) (fun e => ?_)
    simp at e
  | d :: ds, env, i, b => by
    obtain ⟨b1, b2⟩ := b d List.mem_cons_self env i
    rw [List.all_cons, ev_for_cons]
    cases hp : p d with
    | false =>
      rw [b2 hp]
      refine And.intro (fun e => ?_) (fun _ => rfl)
      simp at e
    | true =>
      obtain ⟨env1, e1, i1⟩ := b1 hp
      rw [e1, ev_lb_nx, Bool.true_and]
      exact for_look I p h ds env1 i1 fun d m => b d (List.mem_cons_of_mem _ m)
theorem fit_up : ∀ (n : Nat) (d : D), fit n d = true → fit (n + 1) d = true
  | 0, d, f => by cases f
  | n + 1, d, f => by
    cases d with
    | tup ds =>
      have f : ds.all (fit n) = true := f
      show ds.all (fit (n + 1)) = true
      rw [List.all_eq_true] at f ⊢
      exact fun d m => fit_up n d (f d m)
    | lst ds =>
      have f : ds.all (fit n) = true := f
      show ds.all (fit (n + 1)) = true
      rw [List.all_eq_true] at f ⊢
      exact fun d m => fit_up n d (f d m)
    | non => exact f
    | bl b => exact f
    | int i => exact f
    | str x => exact f
    | ref i => cases f
    | glb v => cases f
    | scr ns => cases f
    | wtp ds => cases f
theorem fit_le {n m : Nat} (hm : n ≤ m) {d : D} (f : fit n d = true) : fit m d = true := by
  induction hm with
  | refl => exact f
  | step _ ih => exact fit_up _ _ ih
theorem fit_tup {n : Nat} {ds : List D} : fit (n + 1) (.tup ds) = true ↔ ∀ d ∈ ds, fit n d = true := by
  show ds.all (fit n) = true ↔ _
  rw [List.all_eq_true]
theorem fit_lst {n : Nat} {ds : List D} : fit (n + 1) (.lst ds) = true ↔ ∀ d ∈ ds, fit n d = true := by
  show ds.all (fit n) = true ↔ _
  rw [List.all_eq_true]
/-- slices by counted places -/
theorem cut_to {α : Type} (xs : List α) (k : Int) (h : 0 ≤ k) : cutG xs none (some k) = xs.take k.toNat := by
  unfold cutG HT.sIx
  simp only [show ¬ k < 0 from by omega, if_false, List.drop_zero, Nat.sub_zero]
  rw [Nat.min_def]
  split
  · rfl
  · rw [List.take_of_length_le (Nat.le_refl _), List.take_of_length_le (by omega)]
theorem cut_from {α : Type} (xs : List α) (k : Int) (h : 0 ≤ k) : cutG xs (some k) none = xs.drop k.toNat := by
  unfold cutG HT.sIx
  simp only [show ¬ k < 0 from by omega, if_false]
  rw [Nat.min_def]
  split
  · rw [List.take_of_length_le (by rw [List.length_drop]; omega)]
  · rw [List.drop_eq_nil_of_le (Nat.le_refl _), List.drop_eq_nil_of_le (by omega)]; simp
theorem cut_sub {α : Type} (xs : List α) (lo hi : Option Int) {x : α} (h : x ∈ cutG xs lo hi) : x ∈ xs := List.mem_of_mem_drop (List.mem_of_mem_take h)
theorem cut_len {α : Type} (xs : List α) (lo hi : Option Int) : (cutG xs lo hi).length ≤ xs.length := by
  unfold cutG
  rw [List.length_take, List.length_drop]
  omega
theorem rep_mem {α : Type} {xs : List α} {k : Int} {x : α} (h : x ∈ repG xs k) : x ∈ xs := by
  unfold repG at h
  obtain ⟨l, hl, hx⟩ := List.mem_flatten.mp h
  rw [List.eq_of_mem_replicate hl] at hx
  exact hx
theorem rep_length {α : Type} (xs : List α) (k : Int) : (repG xs k).length = k.toNat * xs.length := rep_len xs _
theorem rangeD_length (lo hi : Int) : (rangeD lo hi).length = (hi - lo).toNat := by simp [rangeD]
theorem right_n {env : DEnv} {n : Nat} (h : env.length = n) (i : Nat) (o : Option D) : (env.set i o).length = n := by simpa using h
end MR

/-! F19: count and index of lists and tuples; x[::-1]. -/
namespace MR
open PySem PySem.Spec PyProof.Rows L2

/-- a value of a built-in type, without a dict -/
def TyAt (X : Cx) (T : String) (x : V) (H : Hp) : Prop := ∀ (pins : List (Addr × Obj)) (σ : L2.St) (s : Shared) (v : Value), Inv X pins σ H s → RelV x v → s.TypeIs v T ∧ ∀ a, v = .ref a → ∃ ob, s.heap.get? a = some ob ∧ ob.dict = none
theorem tyAt_list {X : Cx} {a : Addr} {xs : List V} {H : Hp} (h : SqL X.K H a xs) : TyAt X "list" (.ref a) H := fun pins σ s v I r => tyV_is I r (.inl ⟨rfl, xs, h⟩)
theorem tyAt_tup {X : Cx} {a : Addr} {xs : List V} {H : Hp} (h : SqTS X.K H a xs) : TyAt X "tuple" (.ref a) H := fun pins σ s v I r => by
  cases r
  rcases h with ⟨o, h, d⟩ | ⟨o, its, n, k, c, d, _⟩
  · obtain ⟨e, _, _, _, o', e', c', _⟩ := I.hok a _ h
    rw [e] at e'; cases e'
    exact ⟨⟨o, e, c'⟩, fun b q => by cases q; exact ⟨o, e, d⟩⟩
  · exact ⟨⟨o, I.kIn a o k, c⟩, fun b q => by cases q; exact ⟨o, I.kIn a o k, d⟩⟩
theorem tyAt_str {X : Cx} {x : Str} {H : Hp} : TyAt X "str" (.str x) H := fun pins σ s v I r => tyV_is I r rfl
def tBMx (X : Cx) (T : String) (r : V → List V → Hp → VK → Prop) (to : TE) (t : TA) : TE := fun σ H Q => to σ H fun x H1 => TyAt X T x H1 ∧ t σ H1 fun xs H2 => r x xs H2 Q
section
variable {X : Cx} {o e : Expr} {es : List Expr} {to : TE} {t : TA} {name : Str} {apos cpos : Pos} {T id : String} {r : V → List V → Hp → VK → Prop}
theorem pe_bmx (pa : PlainAttrs T) (slot : Slot T name id) (hty : typeOf (.builtin id) = pure (.type "method_descriptor")) (hm : MtR X id r) (ho : PE X o to) (ha : PA X (e :: es) t)
    (hbase : attributeBase o name X.env (eval o X.env) = eval o X.env)
    (hfew : ((backTo cpos (starEach (e :: es) X.env)).all (fun x => !x.1) && (backToKw cpos (keywordEach [] X.env)).all (fun x => x.1.isSome)
      && decide ((e :: es).length + ([] : List Keyword).length + (if ([] : List Keyword).isEmpty then 0 else 1) < 30)) = true)
    (hline : (apos.endLine == cpos.line) = true) (hs : starEach (e :: es) X.env = (false, eval e X.env) :: starEach es X.env) (hplain : (backTo cpos (starEach es X.env)).any (·.1) = false) :
    PE X (.Call (.Attribute o name apos) (e :: es) [] cpos) (tBMx X T r to t) := by
  refine ⟨fun pins s σ H Q I h => wpAny_Call_method_late hbase hfew hline rfl (thn (ho.run pins s σ H _ I h) fun v s1 ⟨x, H1, I1, r1, ty, q1⟩ => ?_)⟩
  obtain ⟨h1, h2⟩ := ty pins σ s1 v I1 r1
  refine ⟨T, id, pa, slot, hty, h1, h2, ?_⟩
  have hA := ha.run cpos pins s1 σ H1 _ I1 q1
  rw [hs] at hA ⊢
  exact Calls.callWith_builtin (by show (false || (backTo cpos (starEach es X.env)).any (·.1)) = false; rw [hplain] <;> rfl) (Calls.evalArgs_plain (thn hA fun us s2 ⟨vs, H2, I2, r2, q2⟩ => hm pins s2 σ H2 x vs v us Q I2 r1 r2 q2))
end
/-- either of two roads, as the thing is -/
theorem pe_or {X : Cx} {e : Expr} {t t' : TE} (h : PE X e t) (h' : PE X e t') : PE X e (fun σ H Q => t σ H Q ∨ t' σ H Q) := ⟨fun pins s σ H Q I q => by
  rcases q with q | q
  · exact h.run pins s σ H Q I q
  · exact h'.run pins s σ H Q I q⟩
/-- what a method of a thing that is only read tells -/
abbrev OpR1 := D → List D → Hh → Option D
structure RzR (X : Cx) (T : String) (r : V → List V → Hp → VK → Prop) (ok : D → Hh → Bool) (f : OpR1) : Prop where
  ty : ∀ rho hh H d v, Rep (Cx.gm X) rho hh H → Den (Cx.gm X) rho H d v → ok d hh = true → TyAt X T v H
  run : ∀ rho hh H d ds v vs d' (Q : VK), Rep (Cx.gm X) rho hh H → Den (Cx.gm X) rho H d v → Dens (Cx.gm X) rho H ds vs → f d ds hh = some d' →
    (∀ w H', Step rho H rho H' → Rep (Cx.gm X) rho hh H' → Den (Cx.gm X) rho H' d' w → Q w H') → r v vs H Q
def eMethR (ok : D → Hh → Bool) (f : OpR1) (m : ME) (ms : MA) : ME := fun env h => (m env h).bind fun d h1 => if ok d h1 = true then (ms env h1).bind fun ds h2 => lift (f d ds h2) h2 else .stuck
section
variable {X : Cx} {o e : Expr} {es : List Expr} {m : ME} {ms : MA} {name : Str} {apos cpos : Pos} {T T' id id' : String} {r r' : V → List V → Hp → VK → Prop} {ok ok' : D → Hh → Bool} {f f' : OpR1}
theorem methR_of {W : WX} {σ : L2.St} {H : Hp} {Q : VK} (z : RzR X T r ok f) (h : TD (Cx.gm X) W (eMethR ok f m ms) σ H Q) : tBMx X T r (TD (Cx.gm X) W m) (TDa (Cx.gm X) W ms) σ H Q := by
  refine tE_of (f := fun env d h1 => if ok d h1 = true then (ms env h1).bind fun ds h2 => lift (f d ds h2) h2 else .stuck) h fun rho env hh H1 d v R E qd p => ?_
  split at p
  · rename_i hok
    refine ⟨z.ty rho hh H1 d v R qd hok, ?_⟩
    have h2 := At.seq2A (m := ms) (f := fun env d ds h2 => lift (f d ds h2) h2) ⟨rho, env, hh, d, R, E, qd, p⟩
    obtain ⟨rho2, env2, hh2, R2, E2, p2⟩ := h2
    refine ⟨rho2, env2, hh2, R2, E2, ?_⟩
    cases e2 : ms env2 hh2 with
    | ok d2 hh3 =>
      rw [e2] at p2
      intro rho3 H3 vs S3 R3 q3
      obtain ⟨rho4, env4, hh4, x, xs, R4, E4, qx, qy, p4⟩ := p2 rho3 H3 vs S3 R3 q3
      cases e4 : f x xs hh4 with
      | none => rw [e4] at p4; exact p4.elim
      | some y =>
        rw [e4] at p4
        exact z.run rho4 hh4 H3 x xs v vs y Q R4 qx qy e4 fun w H' S' R' q' => p4 rho4 H' w S' R' q'
    | err x hh1 => rw [e2] at p2; exact p2
    | stuck => rw [e2] at p2; exact p2
  · exact p.elim
theorem de_methR (pa : PlainAttrs T) (slot : Slot T name id) (hty : typeOf (.builtin id) = pure (.type "method_descriptor")) (hm : MtR X id r) (z : RzR X T r ok f) (ho : DE X o m) (ha : DA X (e :: es) ms)
    (hbase : attributeBase o name X.env (eval o X.env) = eval o X.env := by rfl)
    (hfew : ((backTo cpos (starEach (e :: es) X.env)).all (fun x => !x.1) && (backToKw cpos (keywordEach [] X.env)).all (fun x => x.1.isSome)
      && decide ((e :: es).length + ([] : List Keyword).length + (if ([] : List Keyword).isEmpty then 0 else 1) < 30)) = true := by rfl)
    (hline : (apos.endLine == cpos.line) = true := by rfl) (hs : starEach (e :: es) X.env = (false, eval e X.env) :: starEach es X.env := by rfl) (hplain : (backTo cpos (starEach es X.env)).any (·.1) = false := by rfl) :
    DE X (.Call (.Attribute o name apos) (e :: es) [] cpos) (eMethR ok f m ms) :=
  ⟨fun W tk => pe_weak (pe_bmx pa slot hty hm (ho.run W tk) (ha.run W tk) hbase hfew hline hs hplain) fun σ H Q h => methR_of z h⟩
/-- the same text does one or the other -/
theorem de_either {m1 m2 : ME} (h1 : DE X e m1) (h2 : DE X e m2) {m : ME} (hm : ∀ env h, m env h = m1 env h ∨ m env h = m2 env h) : DE X e m :=
  ⟨fun W tk => pe_weak (pe_or (h1.run W tk) (h2.run W tk)) fun σ H Q ⟨rho, env, hh, R, E, p⟩ => by
    rcases hm env hh with q | q
    · rw [q] at p; exact .inl ⟨rho, env, hh, R, E, p⟩
    · rw [q] at p; exact .inr ⟨rho, env, hh, R, E, p⟩⟩
/-- a method that two kinds of things have -/
def eMeth2 (ok ok' : D → Hh → Bool) (f f' : OpR1) (m : ME) (ms : MA) : ME := fun env h => (m env h).bind fun d h1 => if ok d h1 = true then (ms env h1).bind fun ds h2 => lift (f d ds h2) h2 else if ok' d h1 = true then (ms env h1).bind fun ds h2 => lift (f' d ds h2) h2 else .stuck
theorem meth2_or (ok ok' : D → Hh → Bool) (f f' : OpR1) (m : ME) (ms : MA) (env : DEnv) (h : Hh) : eMeth2 ok ok' f f' m ms env h = eMethR ok f m ms env h ∨ eMeth2 ok ok' f f' m ms env h = eMethR ok' f' m ms env h := by
  unfold eMeth2 eMethR
  cases e : m env h with
  | ok d h1 =>
    rw [bind_ok, bind_ok, bind_ok]
    cases h1' : ok d h1 with
    | true => left; rfl
    | false => right; rfl
  | err x h1 => left; rfl
  | stuck => left; rfl
theorem de_meth2 {T' id' : String} {r' : V → List V → Hp → VK → Prop} {ok' : D → Hh → Bool} (pa : PlainAttrs T) (slot : Slot T name id) (hty : typeOf (.builtin id) = pure (.type "method_descriptor")) (hm : MtR X id r) (z : RzR X T r ok f)
    (pa' : PlainAttrs T') (slot' : Slot T' name id') (hty' : typeOf (.builtin id') = pure (.type "method_descriptor")) (hm' : MtR X id' r') (z' : RzR X T' r' ok' f') (ho : DE X o m) (ha : DA X (e :: es) ms)
    (hbase : attributeBase o name X.env (eval o X.env) = eval o X.env := by rfl)
    (hfew : ((backTo cpos (starEach (e :: es) X.env)).all (fun x => !x.1) && (backToKw cpos (keywordEach [] X.env)).all (fun x => x.1.isSome)
      && decide ((e :: es).length + ([] : List Keyword).length + (if ([] : List Keyword).isEmpty then 0 else 1) < 30)) = true := by rfl)
    (hline : (apos.endLine == cpos.line) = true := by rfl) (hs : starEach (e :: es) X.env = (false, eval e X.env) :: starEach es X.env := by rfl) (hplain : (backTo cpos (starEach es X.env)).any (·.1) = false := by rfl) :
    DE X (.Call (.Attribute o name apos) (e :: es) [] cpos) (eMeth2 ok ok' f f' m ms) :=
  de_either (de_methR pa slot hty hm z ho ha hbase hfew hline hs hplain) (de_methR pa' slot' hty' hm' z' ho ha hbase hfew hline hs hplain) (meth2_or ok ok' f f' m ms)
end

/-! ### count -/
def rCntL (K : PySem.W.Frag) : V → List V → Hp → VK → Prop := fun x xs H Q => ∃ (a : Addr) (y : V) (d : PyData) (ds : List PyData), x = V.ref a ∧ xs = [y] ∧ (∃ vs, SqL K H a vs ∧ DpAll K H vs ds) ∧ Dp K H y d ∧
  SeqAt.shaped (.list ds) = true ∧ SeqAt.shaped d = true ∧ Q (.int (ds.countP fun z => PyData.eqv z d : Nat)) H
def rCntT (K : PySem.W.Frag) : V → List V → Hp → VK → Prop := fun x xs H Q => ∃ (a : Addr) (y : V) (d : PyData) (ds : List PyData), x = V.ref a ∧ xs = [y] ∧ (∃ vs, SqT K H a vs ∧ DpAll K H vs ds) ∧ Dp K H y d ∧
  SeqAt.shaped (.list ds) = true ∧ SeqAt.shaped d = true ∧ Q (.int (ds.countP fun z => PyData.eqv z d : Nat)) H
theorem cnt_map {h : Heap} {its : List Value} {ds : List PyData} {d : PyData} (hm : its.map (SeqAt.readOf h) = ds) : its.countP (fun u => PyData.eqv (SeqAt.readOf h u) d) = ds.countP fun z => PyData.eqv z d := by
  rw [← hm, List.countP_map]; rfl
theorem mt_cntL {X : Cx} (hu : X.A.units + 65 < cLine) : MtR X "list.count" (rCntL X.K) := by
  intro pins s σ H x xs v us Q I rx rxs h
  obtain ⟨a, y, d, ds, rfl, rfl, ⟨vs, hs, ha⟩, hy, sl, sd, q⟩ := h
  cases rx
  obtain ⟨u, rfl, ry⟩ := vals1 rxs
  obtain ⟨bs, r1⟩ := Dp.reads I d y u hy ry
  have hxs : PyData.canLayAll0 ds = true := SeqAt.canLay_of_shaped sl
  have hroom : X.A.units + 1 + min (PyData.depthAll ds) d.depth < cLine := room_in_shaped sd hu
  obtain ⟨its, rv, ⟨⟨cls, dd, data, sls⟩, n, ho, hc, hdn, hdt⟩, hlen⟩ := I.list hs
  simp only at hc hdt
  subst hc hdt
  obtain ⟨as, h4⟩ := Dp.readsAll I ds _ its ha rv
  have hmap : its.map (SeqAt.readOf s.heap) = ds := SeqAt.readsAll_map ds its as hxs h4
  refine call_meets PySem.F.slot_list_count ⟨_, ho, rfl⟩ PySem.F.entry_list_count (PySem.F.args_list_count_2 _ _)
    (SeqAt.list_countAt a its.toArray n dd sls u fun u => PyData.eqv (SeqAt.readOf s.heap u) d) ⟨ho, SeqAt.items_eqAt (vs := its.toArray) (show ReadsAll s.heap its.toArray.toList ds as from h4) r1 hxs (SeqAt.canLay_of_shaped sd) hroom, ?_⟩
  refine ⟨.int (ds.countP fun z => PyData.eqv z d : Nat), H, I.tok _, ⟨s.toks, ?_⟩, q⟩
  show Value.int _ _ = Value.int _ _
  rw [← cnt_map (d := d) hmap]
theorem mt_cntT {X : Cx} (hu : X.A.units + 65 < cLine) : MtR X "tuple.count" (rCntT X.K) := by
  intro pins s σ H x xs v us Q I rx rxs h
  obtain ⟨a, y, d, ds, rfl, rfl, ⟨vs, hs, ha⟩, hy, sl, sd, q⟩ := h
  cases rx
  obtain ⟨u, rfl, ry⟩ := vals1 rxs
  obtain ⟨bs, r1⟩ := Dp.reads I d y u hy ry
  have hxs : PyData.canLayAll0 ds = true := SeqAt.canLay_of_shaped sl
  have hroom : X.A.units + 1 + min (PyData.depthAll ds) d.depth < cLine := room_in_shaped sd hu
  obtain ⟨its, rv, ⟨⟨cls, dd, data, sls⟩, ho, hc, n, hdt⟩, hlen⟩ := I.tuple hs
  simp only at hc hdt
  subst hc hdt
  obtain ⟨as, h4⟩ := Dp.readsAll I ds _ its ha rv
  have hmap : its.map (SeqAt.readOf s.heap) = ds := SeqAt.readsAll_map ds its as hxs h4
  refine call_meets PySem.F.slot_tuple_count ⟨_, ho, rfl⟩ PySem.F.entry_tuple_count (PySem.F.args_tuple_count_2 _ _)
    (SeqAt.tuple_countAt a its.toArray n dd sls u fun u => PyData.eqv (SeqAt.readOf s.heap u) d) ⟨ho, SeqAt.items_eqAt (vs := its.toArray) (show ReadsAll s.heap its.toArray.toList ds as from h4) r1 hxs (SeqAt.canLay_of_shaped sd) hroom, ?_⟩
  refine ⟨.int (ds.countP fun z => PyData.eqv z d : Nat), H, I.tok _, ⟨s.toks, ?_⟩, q⟩
  show Value.int _ _ = Value.int _ _
  rw [← cnt_map (d := d) hmap]
/-- the items of a list, of a tuple, as data -/
def pysL (d : D) (h : Hh) : Option (List PyData) := match pyOf d h with
  | some (.list ds) => some ds
  | _ => none
def pysT (d : D) (h : Hh) : Option (List PyData) := match pyOf d h with
  | some (.tuple ds) => some ds
  | _ => none
def cntOf (o : Option (List PyData)) (p : Option PyData) : Option D := match o, p with
  | some ps, some p => some (.int (ps.countP fun z => PyData.eqv z p : Nat))
  | _, _ => none
def countL : OpR1 := fun d ds h => match ds with
  | [e] => cntOf (pysL d h) (pyOf e h)
  | _ => none
def countT : OpR1 := fun d ds h => match ds with
  | [e] => cntOf (pysT d h) (pyOf e h)
  | _ => none
def isTp (d : D) (_ : Hh) : Bool := match d with | .tup _ => true | _ => false
section
variable {G : Gm} {rho : Rm} {hh : Hh} {H : Hp} {d : D} {v : V} {ps : List PyData}
theorem pysL_of (R : Rep G rho hh H) (q : Den G rho H d v) (e : pysL d hh = some ps) : ∃ a vs, v = .ref a ∧ SqL G.K H a vs ∧ DpAll G.K H vs ps ∧ SeqAt.shaped (.list ps) = true := by
  unfold pysL at e
  split at e
  · rename_i ds e1
    cases e
    obtain ⟨a, b⟩ := pyOf_dp R q e1
    cases a with
    | lst hs ha => exact ⟨_, _, rfl, hs, ha, b⟩
  · cases e
theorem pysT_of (R : Rep G rho hh H) (q : Den G rho H d v) (e : pysT d hh = some ps) : ∃ a vs, v = .ref a ∧ SqT G.K H a vs ∧ DpAll G.K H vs ps ∧ SeqAt.shaped (.list ps) = true := by
  unfold pysT at e
  split at e
  · rename_i ds e1
    cases e
    obtain ⟨a, b⟩ := pyOf_dp R q e1
    cases a with
    | tup hs ha => exact ⟨_, _, rfl, hs, ha, b⟩
  · cases e
end
theorem tyL {X : Cx} {rho : Rm} {hh : Hh} {H : Hp} {d : D} {v : V} (R : Rep (Cx.gm X) rho hh H) (q : Den (Cx.gm X) rho H d v) (h : isL d hh = true) : TyAt X "list" v H := by
  obtain ⟨ds, e⟩ := Option.isSome_iff_exists.mp h
  obtain ⟨a, vs, rfl, h1, _, _⟩ := seqL_of R q e
  exact tyAt_list (SqL.of h1)
theorem tyT {X : Cx} {rho : Rm} {hh : Hh} {H : Hp} {d : D} {v : V} (R : Rep (Cx.gm X) rho hh H) (q : Den (Cx.gm X) rho H d v) (h : isTp d hh = true) : TyAt X "tuple" v H := by
  unfold isTp at h
  split at h
  · rw [Den] at q
    obtain ⟨a, vs, rfl, h1, _⟩ := q
    exact tyAt_tup h1
  · cases h
theorem cntOf_some {o : Option (List PyData)} {p : Option PyData} {d : D} (h : cntOf o p = some d) : ∃ ps q, o = some ps ∧ p = some q ∧ d = .int (ps.countP fun z => PyData.eqv z q : Nat) := by
  unfold cntOf at h
  split at h
  · cases h; exact ⟨_, _, rfl, rfl, rfl⟩
  · cases h
theorem rz_cntL {X : Cx} : RzR X "list" (rCntL X.K) isL countL where
  ty := fun rho hh H d v R q h => tyL R q h
  run := fun rho hh H d ds v vs d' Q R q qs e k => by
    unfold countL at e
    split at e
    · obtain ⟨ps, p, e1, e2, rfl⟩ := cntOf_some e
      obtain ⟨w, rfl, qw⟩ := dens_one qs
      obtain ⟨a, us, rfl, h1, h2, h3⟩ := pysL_of R q e1
      obtain ⟨h4, h5⟩ := pyOf_dp R qw e2
      exact ⟨a, w, p, ps, rfl, rfl, ⟨us, h1, h2⟩, h4, h3, h5, k _ H .refl R rfl⟩
    · cases e
theorem rz_cntT {X : Cx} : RzR X "tuple" (rCntT X.K) isTp countT where
  ty := fun rho hh H d v R q h => tyT R q h
  run := fun rho hh H d ds v vs d' Q R q qs e k => by
    unfold countT at e
    split at e
    · obtain ⟨ps, p, e1, e2, rfl⟩ := cntOf_some e
      obtain ⟨w, rfl, qw⟩ := dens_one qs
      obtain ⟨a, us, rfl, h1, h2, h3⟩ := pysT_of R q e1
      obtain ⟨h4, h5⟩ := pyOf_dp R qw e2
      exact ⟨a, w, p, ps, rfl, rfl, ⟨us, h1, h2⟩, h4, h3, h5, k _ H .refl R rfl⟩
    · cases e
/-! ### index of a list -/
def idxOf (o : Option (List PyData)) (p : Option PyData) : Option D := match o, p with
  | some ps, some p => (ps.findIdx? fun z => PyData.eqv z p).map fun n => .int (n : Nat)
  | _, _ => none
def indexL : OpR1 := fun d ds h => match ds with
  | [e] => idxOf (pysL d h) (pyOf e h)
  | _ => none
theorem rz_idxL {X : Cx} : RzR X "list" (rIndexD X.K) isL indexL where
  ty := fun rho hh H d v R q h => tyL R q h
  run := fun rho hh H d ds v vs d' Q R q qs e k => by
    unfold indexL at e
    split at e
    · unfold idxOf at e
      split at e
      · rename_i ps p e1 e2
        obtain ⟨n, e3, rfl⟩ := Option.map_eq_some_iff.mp e
        obtain ⟨w, rfl, qw⟩ := dens_one qs
        obtain ⟨a, us, rfl, h1, h2, h3⟩ := pysL_of R q e1
        obtain ⟨h4, h5⟩ := pyOf_dp R qw e2
        obtain ⟨hn, hp, hno⟩ := List.findIdx?_eq_some_iff_getElem.mp e3
        refine ⟨a, w, p, ps, n, ps[n], rfl, rfl, .lst h1 h2, h4, h3, h5, List.getElem?_eq_getElem hn, hp, fun m z' hm hz => ?_, k _ H .refl R rfl⟩
        obtain ⟨hm2, hz2⟩ := List.getElem?_eq_some_iff.mp hz
        have := hno m hm
        rw [hz2] at this
        exact Bool.eq_false_iff.mpr this
      · cases e
    · cases e
/-! ### running them -/
def k_mr (ok : D → Hh → Bool) (f : OpR1) (ms : MA) (env : DEnv) : D → Hh → Res D := fun d h1 => if ok d h1 = true then (ms env h1).bind fun ds h2 => lift (f d ds h2) h2 else .stuck
def k_mr2 (f : OpR1) (ms : MA) (env : DEnv) (d : D) (h1 : Hh) (k : Bool) : Res D := if k = true then (ms env h1).bind fun ds h2 => lift (f d ds h2) h2 else .stuck
def k_mr3 (f : OpR1) (d : D) : List D → Hh → Res D := fun ds h2 => lift (f d ds h2) h2
@[simp] theorem ev_methR (ok : D → Hh → Bool) (f : OpR1) (m : ME) (ms : MA) (env : DEnv) (h : Hh) : eMethR ok f m ms env h = (m env h).bind (k_mr ok f ms env) := rfl
@[simp] theorem ev_k_mr (ok : D → Hh → Bool) (f : OpR1) (ms : MA) (env : DEnv) (d : D) (h : Hh) : k_mr ok f ms env d h = k_mr2 f ms env d h (ok d h) := rfl
@[simp] theorem ev_k_mr2 (f : OpR1) (ms : MA) (env : DEnv) (d : D) (h : Hh) : k_mr2 f ms env d h true = (ms env h).bind (k_mr3 f d) := rfl
@[simp] theorem ev_k_mr3 (f : OpR1) (d : D) (ds : List D) (h : Hh) : k_mr3 f d ds h = lift (f d ds h) h := rfl
def k_mm (ok ok' : D → Hh → Bool) (f f' : OpR1) (ms : MA) (env : DEnv) : D → Hh → Res D := fun d h1 => if ok d h1 = true then (ms env h1).bind fun ds h2 => lift (f d ds h2) h2 else if ok' d h1 = true then (ms env h1).bind fun ds h2 => lift (f' d ds h2) h2 else .stuck
@[simp] theorem ev_meth2 (ok ok' : D → Hh → Bool) (f f' : OpR1) (m : ME) (ms : MA) (env : DEnv) (h : Hh) : eMeth2 ok ok' f f' m ms env h = (m env h).bind (k_mm ok ok' f f' ms env) := rfl
@[simp] theorem ev_mmL (f f' : OpR1) (ms : MA) (env : DEnv) (xs : List D) (h : Hh) : k_mm isL isTp f f' ms env (.lst xs) h = (ms env h).bind (k_mr3 f (.lst xs)) := rfl
@[simp] theorem ev_mmT (f f' : OpR1) (ms : MA) (env : DEnv) (xs : List D) (h : Hh) : k_mm isL isTp f f' ms env (.tup xs) h = (ms env h).bind (k_mr3 f' (.tup xs)) := rfl
@[simp] theorem ev_countL (d e : D) (h : Hh) : countL d [e] h = cntOf (pysL d h) (pyOf e h) := rfl
@[simp] theorem ev_countT (d e : D) (h : Hh) : countT d [e] h = cntOf (pysT d h) (pyOf e h) := rfl
@[simp] theorem ev_indexL (d e : D) (h : Hh) : indexL d [e] h = idxOf (pysL d h) (pyOf e h) := rfl
@[simp] theorem ev_isLL (xs : List D) (h : Hh) : isL (.lst xs) h = true := rfl
/-! ### x[::-1] -/
def revO (d : D) (h : Hh) : Option D := match d with
  | .tup xs => some (.tup xs.reverse)
  | d => (seqL d h).map fun xs => .lst xs.reverse
def eRev (m : ME) : ME := fun env h => (m env h).bind fun d h1 => lift (revO d h1) h1
end MR

/-! F20: x[::-1]. -/
namespace MR
open PySem PySem.Spec PyProof.Rows L2

section
variable {prog : Program} {w : World} {A : Around} {E : Value → Shared → Prop} {s : Shared}
theorem fmap_cg {α β : Type} {f g : α → Option β} : ∀ {l : List α}, (∀ a ∈ l, f a = g a) → l.filterMap f = l.filterMap g
  | [], _ => rfl
  | a :: l, h => by
    rw [List.filterMap_cons, List.filterMap_cons, h a List.mem_cons_self, fmap_cg fun b m => h b (List.mem_cons_of_mem _ m)]
theorem adjust_back (n : Nat) : Builtin.Slice.sliceAdjust none none (-1) (n : Int) = ((n : Int) - 1, -1) := rfl
theorem places_back (n : Nat) : Builtin.Slice.slicePlaces ((n : Int) - 1) (-1) (-1) = n := by
  unfold Builtin.Slice.slicePlaces
  have h1 : ¬ (-1 : Int) > 0 := by omega
  simp only [h1, if_false]
  have h2 : (-(-1) : Int) = 1 := rfl
  rw [h2, Int.ediv_one]
  split <;> omega
theorem pick_back (xs : Array Value) : ((List.range xs.size).filterMap fun (m : Nat) => xs[(((xs.size : Int) - 1) + (m : Int) * (-1)).toNat]?).toArray = xs.toList.reverse.toArray := by
  congr 1
  have e : ∀ m ∈ List.range xs.size, xs[(((xs.size : Int) - 1) + (m : Int) * (-1)).toNat]? = xs.toList.reverse[m]? := fun m hm => by
    have hm := List.mem_range.mp hm
    have e1 : (((xs.size : Int) - 1) + (m : Int) * (-1)).toNat = xs.size - 1 - m := by omega
    rw [e1, List.getElem?_reverse (by simpa using hm)]
    simp
  rw [fmap_cg e]
  have hl : xs.size = xs.toList.reverse.length := by simp
  rw [hl]
  generalize xs.toList.reverse = l
  induction l with
  | nil => rfl
  | cons a r ih =>
    rw [List.length_cons, List.range_succ_eq_map, List.filterMap_cons]
    simp only [List.getElem?_cons_zero, List.filterMap_map]
    congr 1
theorem sliceApplied_back {sl : Addr} {vl vu vs : Value} {n : Nat} {Q : Int × Int × Nat → Shared → Prop} (hs : s.heap.IsSliceOf sl vl vu vs) (pl : IsPart vl none) (pu : IsPart vu none) (ps : IsPart vs (some (-1)))
    (h : Q ((n : Int) - 1, -1, n) s) : wpAny (model prog w) A (Builtin.Slice.sliceApplied (.ref sl) (pure (n : Int))) Q E s := by
  obtain ⟨os, hos, hcs, hds⟩ := id hs
  unfold Builtin.Slice.sliceApplied Builtin.Slice.sliceFields
  refine wpAny_bind (wpAny_bind (wpAny_field hos hds (x := vl) rfl (wpAny_bind (wpAny_field hos hds (x := vu) rfl (wpAny_bind (wpAny_field hos hds (x := vs) rfl (wpAny_pure ?_)))))))
  refine wpAny_bind (HT.slicePart_ ps ?_)
  show wpAny _ _ (if ((-1 : Int) == 0) = true then _ else _) _ _ s
  rw [if_neg (by decide)]
  refine wpAny_bind (HT.slicePart_ pl (wpAny_bind (HT.slicePart_ pu (wpAny_bind (wpAny_pure ?_)))))
  show wpAny _ _ (pure ((n : Int) - 1, (-1 : Int), Builtin.Slice.slicePlaces ((n : Int) - 1) (-1) (-1))) _ _ s
  rw [places_back]
  exact wpAny_pure h
theorem getItem_tuple_back {t sl : Addr} {items : Array Value} {vl vu vs : Value} {Q : Value → Shared → Prop} (ht : IsTup s.heap t items) (hs : s.heap.IsSliceOf sl vl vu vs) (pl : IsPart vl none) (pu : IsPart vu none) (ps : IsPart vs (some (-1)))
    (h : Q (.ref s.heap.objs.size) { s with heap := s.heap.push { cls := .type "tuple", data := .seq items.toList.reverse.toArray } })
    (hsz : items.size ≤ sizeLine) : wpAny (model prog w) A (getItem (.ref t) (.ref sl)) Q E s := by
  have htake : sizeOk (.seq items.toList.reverse.toArray) := by
    show items.toList.reverse.toArray.size ≤ sizeLine
    simpa using hsz
  obtain ⟨os, hos, hcs, hds⟩ := id hs
  have hTs : s.TypeIs (.ref sl) "slice" := ⟨os, hos, hcs⟩
  unfold getItem
  try with_reducible refine wpAny_holding ?_
  first | refine wpAny_bind (wpAny_pure ?_) | skip
  refine wpAny_bind (wpAny_sequenceKey ht.typeIs (by decide) ?_)
  refine wpAny_bind (wpAny_callSpecial?_slot (name := Str.ofString "__getitem__") ht.typeIs PyProof.Rows.slot_tuple_getitem
    (wpAny_call_entry PyProof.Rows.slot_tuple_getitem ht.typeIs entry_tuple_getitem ?_ (args_tuple_getitem _ _)))
  show wpAny _ _ (Builtin.Tuple.tupleItemsOf (.ref t) >>= _) _ _ s
  refine wpAny_bind (tupleItemsOf_ ht ?_)
  refine wpAny_bind (wpAny_typeOf hTs ?_)
  rw [if_pos (by decide)]
  refine wpAny_bind (sliceApplied_back hs pl pu ps ?_)
  show wpAny _ _ (if (((items.size : Int) - 1) == 0 && (-1 : Int) == 1 && items.size == items.size) = true then _ else _) _ _ s
  have hno : ¬ ((((items.size : Int) - 1) == 0 && (-1 : Int) == 1 && items.size == items.size) = true) := by
    intro q
    rw [Bool.and_eq_true, Bool.and_eq_true] at q
    exact absurd q.1.2 (by decide)
  rw [if_neg hno, pick_back]
  exact wpAny_bind (m := Builtin.Tuple.tupleExact _) (wpAny_newObj_type (wpAny_pure ⟨_, rfl, wpAny_pure h⟩) htake)
end
section
variable {G : Gm} {rho : Rm} {H : Hp}
theorem Dens.reverse : ∀ {ds : List D} {vs : List V}, Dens G rho H ds vs → Dens G rho H ds.reverse vs.reverse
  | [], vs, h => by rw [Dens] at h; subst h; rfl
  | d :: ds, vs, h => by
    rw [Dens] at h
    obtain ⟨v, r, rfl, a, b⟩ := h
    rw [List.reverse_cons, List.reverse_cons]
    exact (Dens.reverse b).append ⟨v, [], rfl, a, rfl⟩
end
def tRevT (K : PySem.W.Frag) (te : TE) : TE := fun σ H Q => te σ H fun x H1 => ∃ a xs, x = .ref a ∧ SqT K H1 a xs ∧ NewT H1 xs.reverse Q
theorem pe_revT {X : Cx} {e : Expr} {te : TE} {k : Nat} {p1 p2 p3 pos : Pos} (he : PE X e te) : PE X (.Subscript e (.Slice none none (some (.UnaryOp .USub (.Constant (.int 1) k p1) p2)) p3) pos) (tRevT X.K te) := by
  refine ⟨fun pins s σ H Q I h => ?_⟩
  refine Subscript_ (thn (he.run pins s σ H _ I h) fun v s1 ⟨x, H1, I1, r1, q1⟩ => ?_)
  obtain ⟨a, xs, ex, hx, q⟩ := q1
  subst ex
  cases r1
  have hst : PO X (some (.UnaryOp .USub (.Constant (.int 1) k p1) p2)) (tPart (tUn (rU fun i => .int (-i)) (tC (.int 1)))) := po_some (pe_un un_neg pe_int)
  refine wpAny_Slice (thn (po_none.run pins s1 σ H1 (fun o H2 => o = none ∧ H2 = H1) I1 ⟨rfl, rfl⟩) fun vl s2 ⟨l, H2, I2, pl, el, e2⟩ => ?_)
  subst el e2
  refine thn (po_none.run pins s2 σ H2 (fun o H3 => o = none ∧ H3 = H2) I2 ⟨rfl, rfl⟩) fun vu s3 ⟨u, H3, I3, pu, eu, e3⟩ => ?_
  subst eu e3
  refine thn (hst.run pins s3 σ H3 (fun o H4 => o = some (-1) ∧ H4 = H3) I3 ⟨1, rfl, -1, rfl, rfl, rfl⟩) fun vs s4 ⟨o, H4, I4, ps, eo, e4⟩ => ?_
  subst eo e4
  have I5 : Inv X pins σ H4 { s4 with heap := s4.heap.push { cls := .type "slice", data := .fields #[vl, vu, vs] } } := I4.kept (t' := s4.toks) fun b ob q => Heap.get?_push_of_some _ q
  obtain ⟨its, r, ht, hz⟩ := I5.tuple hx
  have hlen := r.length
  show wpAny (model X.prog X.w) X.A (subscriptTail e (.Slice none none (some (.UnaryOp .USub (.Constant (.int 1) k p1) p2)) p3) (.ref a) (.ref s4.heap.objs.size)) (EP X pins σ Q) X.xe { s4 with heap := s4.heap.push { cls := .type "slice", data := .fields #[vl, vu, vs] } }
  refine tail_any (ops := [.ref a, .ref s4.heap.objs.size]) ht.typeIs PyProof.Rows.slot_tuple_getitem.lookup ?_ (by with_unfolding_all rfl)
  refine getItem_tuple_back ht (Heap.IsSliceOf.new _ vl vu vs) pl pu ps ?_ (by rw [List.size_toArray]; omega)
  exact inv_newT I5 r.reverse (by rw [List.length_reverse]; exact hz) q
def eRevL (m : ME) : ME := fun env h => (m env h).bind fun d h1 => lift ((seqA d h1).map fun xs => .lst xs.reverse) h1
def revT (d : D) (_ : Hh) : Option D := match d with | .tup xs => some (.tup xs.reverse) | _ => none
def revL (d : D) (h : Hh) : Option D := match d with | .tup _ => none | d => (seqL d h).map fun xs => .lst xs.reverse
theorem rev_or (m : ME) (env : DEnv) (h : Hh) : eRev m env h = ((m env h).bind fun d h1 => lift (revT d h1) h1) ∨ eRev m env h = ((m env h).bind fun d h1 => lift (revL d h1) h1) := by
  unfold eRev
  cases e : m env h with
  | ok d h1 =>
    rw [bind_ok, bind_ok, bind_ok]
    cases d with
    | tup xs => left; rfl
    | _ => right; rfl
  | err x h1 => left; rfl
  | stuck => left; rfl
theorem de_rev {X : Cx} {e : Expr} {m : ME} {k : Nat} {p1 p2 p3 pos : Pos} (he : DE X e m) : DE X (.Subscript e (.Slice none none (some (.UnaryOp .USub (.Constant (.int 1) k p1) p2)) p3) pos) (eRev m) := by
  refine de_either (m1 := fun env h => (m env h).bind fun d h1 => lift (revT d h1) h1) (m2 := fun env h => (m env h).bind fun d h1 => lift (revL d h1) h1) ⟨fun W tk => pe_weak (pe_revT (he.run W tk)) fun σ H Q q => ?_⟩ ⟨fun W tk => pe_weak (pe_revL (he.run W tk)) fun σ H Q q => ?_⟩ (rev_or m)
  · refine tE_of (f := fun env d h1 => lift (revT d h1) h1) q fun rho env hh H1 d v R E qd p => ?_
    obtain ⟨a, e, p⟩ := lift_post p
    unfold revT at e
    split at e
    · cases e
      rw [Den] at qd
      obtain ⟨a, vs, rfl, hs, l, z⟩ := qd
      exact ⟨a, vs, rfl, hs.t, fun pp o hp ho => p rho _ _ (.laid hp) (R.laid hp) (Den.tup_new ho R z.reverse (by rw [List.length_reverse]; exact l) hp)⟩
    · cases e
  · refine tE_of (f := fun env d h1 => lift (revL d h1) h1) q fun rho env hh H1 d v R E qd p => ?_
    obtain ⟨a, e, p⟩ := lift_post p
    unfold revL at e
    split at e
    · cases e
    · obtain ⟨xs, e1, rfl⟩ := Option.map_eq_some_iff.mp e
      obtain ⟨a, vs, rfl, hs, l, z⟩ := seqL_of R qd e1
      exact ⟨a, vs, rfl, SqL.of hs, fun pp hp => p rho _ _ (.laid hp) (R.laid hp) (den_lst_new R z.reverse (by rw [List.length_reverse]; exact l) hp)⟩
def k_rev : D → Hh → Res D := fun d h1 => lift (revO d h1) h1
@[simp] theorem ev_rev (m : ME) (env : DEnv) (h : Hh) : eRev m env h = (m env h).bind k_rev := rfl
@[simp] theorem ev_k_revT (xs : List D) (h : Hh) : k_rev (.tup xs) h = .ok (.tup xs.reverse) h := rfl
@[simp] theorem ev_k_revL (xs : List D) (h : Hh) : k_rev (.lst xs) h = .ok (.lst xs.reverse) h := rfl
end MR

/-! F21: lists and tuples of texts: what count and index tell; rooms. -/
namespace MR
open PySem PySem.Spec PyProof.Rows L2

theorem py_str {x : Str} (hx : PyData.strOk x = true) (h : Hh) : pyOf (.str x) h = some (.str x) := if_pos (shaped_str hx)
theorem py_tupS {ws : List Str} (hw : oks ws = true) (h : Hh) : pyOf (.tup (ws.map D.str)) h = some (.tuple (ws.map PyData.str)) := by
  unfold pyOf deref
  show (match toPy (.tup (ws.map D.str)) with | some p => if SeqAt.shaped p = true then some p else none | none => none) = _
  rw [toPy, toPys_strs]
  have : SeqAt.shaped (.tuple (ws.map PyData.str)) = true := by
    obtain ⟨a, b⟩ := shaped_strs hw
    unfold SeqAt.shaped
    rw [PyData.canLay0, a, PyData.depth, b]; rfl
  show (if SeqAt.shaped (.tuple (ws.map PyData.str)) = true then _ else _) = _
  rw [if_pos this]
theorem py_lstS {ws : List Str} (hw : oks ws = true) (h : Hh) : pyOf (.lst (ws.map D.str)) h = some (.list (ws.map PyData.str)) := by
  unfold pyOf deref
  show (match toPy (.lst (ws.map D.str)) with | some p => if SeqAt.shaped p = true then some p else none | none => none) = _
  rw [toPy, toPys_strs]
  have : SeqAt.shaped (.list (ws.map PyData.str)) = true := by
    obtain ⟨a, b⟩ := shaped_strs hw
    unfold SeqAt.shaped
    rw [PyData.canLay0, a, PyData.depth, b]; rfl
  show (if SeqAt.shaped (.list (ws.map PyData.str)) = true then _ else _) = _
  rw [if_pos this]
theorem countP_strs (x : Str) (ws : List Str) : (ws.map PyData.str).countP (fun z => PyData.eqv z (.str x)) = ws.count x := by
  induction ws with
  | nil => rfl
  | cons w ws ih =>
    rw [List.map_cons, List.countP_cons, List.count_cons, ih]
    rfl
theorem cntL_strs {x : Str} {ws : List Str} (hx : PyData.strOk x = true) (hw : oks ws = true) (h : Hh) : cntOf (pysL (.lst (ws.map D.str)) h) (pyOf (.str x) h) = some (.int (ws.count x : Nat)) := by
  unfold pysL
  rw [py_lstS hw, py_str hx]
  show some (D.int _) = _
  rw [countP_strs]
theorem cntT_strs {x : Str} {ws : List Str} (hx : PyData.strOk x = true) (hw : oks ws = true) (h : Hh) : cntOf (pysT (.tup (ws.map D.str)) h) (pyOf (.str x) h) = some (.int (ws.count x : Nat)) := by
  unfold pysT
  rw [py_tupS hw, py_str hx]
  show some (D.int _) = _
  rw [countP_strs]
theorem oks_filter {ws : List Str} (p : Str → Bool) (h : oks ws = true) : oks (ws.filter p) = true := by
  unfold oks at h ⊢
  rw [List.all_eq_true] at h ⊢
  exact fun w m => h w (List.mem_filter.mp m).1
/-- only the texts that are wanted -/
theorem filter_strs (p : Str → Bool) (q : D → Bool) (h : ∀ w, q (.str w) = p w) (ws : List Str) : (ws.map D.str).filter q = (ws.filter p).map D.str := by
  induction ws with
  | nil => rfl
  | cons w ws ih =>
    rw [List.map_cons, List.filter_cons, List.filter_cons, h w, ih]
    cases p w <;> rfl
/-- the last one left out -/
theorem cut_last {α : Type} (xs : List α) : cutG xs none (some (-1)) = xs.dropLast := by
  unfold cutG HT.sIx
  have h1 : (-1 : Int) < 0 := by decide
  simp only [h1, if_true, List.drop_zero, Nat.sub_zero]
  rw [List.dropLast_eq_take]
  congr 1
  omega
theorem lf_app {h : Hh} {i : Nat} (l : Lf h i) (g : Hh) : Lf (h ++ g) i := by
  obtain ⟨a, b, c, q, z⟩ := l
  exact ⟨a, b, c, by rw [List.getElem?_append_left (List.getElem?_eq_some_iff.mp q).1]; exact q, z⟩
theorem lf_set {h : Hh} {i j : Nat} (l : Lf h i) (ne : j ≠ i) (o : O) : Lf (h.set j o) i := by
  obtain ⟨a, b, c, q, z⟩ := l
  exact ⟨a, b, c, by rw [List.getElem?_set_ne ne]; exact q, z⟩
theorem get_lt {h : Hh} {j : Nat} {o : O} (e : h[j]? = some o) : j < h.length := (List.getElem?_eq_some_iff.mp e).1
@[simp] theorem ev_gins (i : Int) (e : D) (xs : List D) : g_ins i e xs = if xs.length < 16777216 ∧ 0 ≤ i ∧ i < 1000000000 then some (.non, xs.take i.toNat ++ [e] ++ xs.drop i.toNat) else none := by rw [← sizeLine_eq]; rfl
/-! ### rooms -/
abbrev PL : List Str := ["out", "reads", "rising", "writes", "raised"]
theorem ok_PL {w : Str} (h : w ∈ PL) : PyData.strOk w = true := by
  simp only [PL, List.mem_cons, List.not_mem_nil, or_false] at h
  rcases h with rfl | rfl | rfl | rfl | rfl <;> decide +kernel
theorem oks_of {ws : List Str} (h : ∀ w ∈ ws, w ∈ PL) : oks ws = true := List.all_eq_true.mpr fun w m => ok_PL (h w m)
/-- who is within, as data -/
def Wn (n : Nat) (d : D) : Prop := ∃ ws : List Str, d = .tup (ws.map D.str) ∧ ws.length = n ∧ ∀ w ∈ ws, w ∈ PL
/-- one that waits, as data -/
def Ent (n : Nat) (d : D) : Prop := ∃ (g : Nat) (w : Str) (mk : Nat) (lt : D), d = .tup [.int g, .str w, .int mk, lt] ∧ g < n ∧ (w = "read" ∨ w = "write") ∧ (lt = .non ∨ ∃ r : Nat, lt = .int r ∧ 1 ≤ r)
end MR

/-! F22: dict(..) of pairs, d.get(k), d.get(k, x). -/
namespace MR
open PySem PySem.Spec PyProof.Rows L2

/-- the pairs of a list -/
def prsOf : List D → Option (List (Key × D))
  | [] => some []
  | .tup [a, b] :: r => match keyD a, prsOf r with
    | some k, some ks => some ((k, b) :: ks)
    | _, _ => none
  | _ :: _ => none
section
variable {G : Gm} {rho : Rm} {H : Hp} {hh : Hh}
theorem prsOf_of : ∀ {ds : List D} {vs : List V} {kvs : List (Key × D)}, Dens G rho H ds vs → prsOf ds = some kvs → ∃ (ps : List Addr) (ws : List (Key × V)), vs = ps.map V.ref ∧ Paired (fun p kv => SqT G.K H p [kV kv.1, kv.2]) ps ws ∧ KD G rho H kvs ws
  | [], vs, kvs, q, e => by
    rw [Dens] at q; subst q
    cases e
    exact ⟨[], [], rfl, .nil, .nil⟩
  | d :: ds, vs, kvs, q, e => by
    rw [Dens] at q
    obtain ⟨v, r, rfl, a, b⟩ := q
    unfold prsOf at e
    split at e
    · rename_i z; cases z
    · rename_i x y r' z
      cases z
      split at e
      · rename_i k ks e1 e2
        cases e
        obtain ⟨ps, ws, rfl, hp, hk⟩ := prsOf_of b e2
        rw [Den] at a
        obtain ⟨p, us, rfl, hs, l, zz⟩ := a
        obtain ⟨u1, u2, rfl, h1, h2⟩ := dens_two zz
        have := keyD_of e1 h1
        subst this
        exact ⟨p :: ps, (k, u2) :: ws, rfl, .cons hs.t hp, .cons ⟨rfl, h2⟩ hk⟩
      · cases e
    · cases e
end
def eDictOf (m : ME) : ME := fun env h => (m env h).bind fun d h1 => match (seqL d h1).bind prsOf with
  | some kvs => .ok (.ref h1.length) (h1 ++ [.dK (mergeG [] kvs)])
  | none => .stuck
section
variable {X : Cx} {e : Expr} {m : ME} {pos p : Pos} {x : Str}
theorem de_dictOf (hc : X.calm = true) (hg : Gl X x) (hm : X.mg x = none) (hv : bootBuiltins x = some (.type "dict")) (ha : DE X e m)
    (hn : x ≠ "__name__" := by decide) (hdb : (x == ("__debug__" : Str)) = false := by decide) (he : starEach [e] X.env = (false, eval e X.env) :: starEach [] X.env := by rfl) (hpl : (backTo pos (starEach [] X.env)).any (·.1) = false := by rfl) :
    DE X (.Call (.Name x p) [e] [] pos) (eDictOf m) :=
  ⟨fun W tk => pe_weak (pe_callTy (call_dictP hc) hg hm hv ((da_cons ha da_nil he).run W tk) hn hdb he hpl) fun σ H Q hq => by
    obtain ⟨rho, env, hh, R, E, p⟩ := hq
    refine ⟨rho, env, hh, R, E, ?_⟩
    unfold eDictOf at p
    unfold aCons aNil
    cases e1 : m env hh with
    | stuck => rw [e1] at p; exact p
    | err z h1 => rw [e1] at p; exact p
    | ok d h1 =>
      rw [e1, bind_ok] at p
      rw [bind_ok, bind_ok]
      intro rho1 H1 vs S1 R1 q1
      obtain ⟨v, rfl, qv⟩ := dens_one q1
      cases e2 : (seqL d h1).bind prsOf with
      | none => rw [e2] at p; exact p.elim
      | some kvs =>
        rw [e2] at p
        obtain ⟨ds, e3, e4⟩ := Option.bind_eq_some_iff.mp e2
        obtain ⟨a, us, rfl, hs, l, z⟩ := seqL_of R1 qv e3
        obtain ⟨ps, ws, rfl, hp, hk⟩ := prsOf_of z e4
        refine ⟨a, ps, ws, rfl, SqL.of hs, hp, fun pp hpp => ?_⟩
        obtain ⟨S0, R0, na⟩ := new_held (o := .dK (mergeK [] ws)) R1 hpp
        have hlen : (mergeK [] ws).length ≤ sizeLine := by
          have a1 := length_mergeK ws []
          have a2 := Paired.length hp
          rw [List.length_nil] at a1
          rw [List.length_map] at l
          omega
        have hk2 : KD (Cx.gm X) (rho1.hold pp) (upd H1 pp (.dK (mergeK [] ws))) kvs ws := KD.step R1 S0 hk
        refine p _ _ _ (S1.trans (S0.turn hpp)) (R0.turn List.mem_cons_self na ⟨_, upd_same, hlen, hk2.merge .nil⟩) ?_
        rw [Den]
        exact ⟨pp, by rw [← R1.len]; show (rho1.at_ ++ [pp])[_]? = _; rw [List.getElem?_append_right (Nat.le_refl _)]; simp, rfl⟩⟩
end

/-! ### d.get(k), d.get(k, x) -/
/-- what a dict holds -/
def dictOf (d : D) (h : Hh) : Option (List (Key × D)) := match d with
  | .ref i => match h[i]? with
    | some (.dK kvs) => some kvs
    | _ => none
  | _ => none
def getO (d k : D) (h : Hh) : Option (Option D) := match dictOf d h, keyD k with
  | some kvs, some key => some (getG kvs key)
  | _, _ => none
def eDGet1 (md mk : ME) : ME := fun env h => (md env h).bind fun d h1 => if (dictOf d h1).isSome = true then (mk env h1).bind fun k h2 => lift ((getO d k h2).map fun (o : Option D) => o.getD D.non) h2 else .stuck
theorem dictOf_of {G : Gm} {rho : Rm} {H : Hp} {hh : Hh} {d : D} {v : V} {kvs : List (Key × D)} (R : Rep G rho hh H) (q : Den G rho H d v) (e : dictOf d hh = some kvs) : ∃ a ws, v = .ref a ∧ H a = some (.dK ws) ∧ KD G rho H kvs ws := by
  unfold dictOf at e
  split at e
  · rename_i i
    split at e
    · rename_i kvs' e1
      cases e
      rw [Den] at q
      obtain ⟨a, e2, rfl⟩ := q
      obtain ⟨ws, e3, l, z⟩ := R.ob i a _ e2 e1
      exact ⟨a, ws, rfl, e3, z⟩
    · cases e
  · cases e
def OptD (G : Gm) (rho : Rm) (H : Hp) : Option D → Option V → Prop
  | some d, some v => Den G rho H d v
  | none, none => True
  | _, _ => False
theorem getO_of {G : Gm} {rho : Rm} {H : Hp} {hh : Hh} {d k : D} {a : Addr} {u : V} {o : Option D} (R : Rep G rho hh H) (q : Den G rho H d (.ref a)) (qk : Den G rho H k u) (e : getO d k hh = some o) :
    ∃ w : Option V, DGet H a u w ∧ OptD G rho H o w := by
  unfold getO at e
  split at e
  · rename_i kvs key e1 e2
    cases e
    obtain ⟨b, ws, eb, hb, z⟩ := dictOf_of R q e1
    cases eb
    have := keyD_of e2 qk
    subst this
    refine ⟨valV ws key, .k hb, ?_⟩
    cases g : getG kvs key with
    | none => rw [KD.none z g]; trivial
    | some d =>
      obtain ⟨v, e3, e4⟩ := KD.get z g
      rw [e3]; exact e4
  · cases e
section
variable {X : Cx} {o e f : Expr} {apos cpos : Pos} {md mk mx : ME}
theorem isD_of {G : Gm} {rho : Rm} {H : Hp} {hh : Hh} {d : D} {v : V} (R : Rep G rho hh H) (q : Den G rho H d v) (h : (dictOf d hh).isSome = true) : ∃ a, v = .ref a ∧ IsD H a := by
  obtain ⟨kvs, e⟩ := Option.isSome_iff_exists.mp h
  obtain ⟨a, ws, rfl, hb, _⟩ := dictOf_of R q e
  exact ⟨a, rfl, .inl ⟨ws, .inl hb⟩⟩
theorem de_dget1 (hu : X.A.units + 1 < cLine) (ho : DE X o md) (he : DE X e mk) (m : M1 X o "get" apos e cpos) : DE X (.Call (.Attribute o "get" apos) [e] [] cpos) (eDGet1 md mk) :=
  ⟨fun W tk => pe_weak (pe_dget1 hu (ho.run W tk) (he.run W tk) m) fun σ H Q q => by
    refine tE_of (f := fun env d h1 => if (dictOf d h1).isSome = true then (mk env h1).bind fun k h2 => lift ((getO d k h2).map fun (o : Option D) => o.getD D.non) h2 else .stuck) q fun rho env hh H1 d v R E qd p => ?_
    split at p
    · rename_i hd
      obtain ⟨a, rfl, ha⟩ := isD_of R qd hd
      refine ⟨a, rfl, ha, ?_⟩
      refine tE2_of (f := fun env d k h2 => lift ((getO d k h2).map fun (o : Option D) => o.getD D.non) h2) ⟨rho, env, hh, R, E, qd, p⟩ fun rho env hh H2 k u R E qd qk p => ?_
      obtain ⟨z, ez, p⟩ := lift_post p
      obtain ⟨oo, eo, rfl⟩ := Option.map_eq_some_iff.mp ez
      obtain ⟨w, g, hw⟩ := getO_of R qd qk eo
      refine ⟨w, g, p.val R ?_⟩
      cases oo with
      | none =>
        cases w with
        | none => rfl
        | some v => exact hw.elim
      | some d =>
        cases w with
        | none => exact hw.elim
        | some v => exact hw
    · exact p.elim⟩
def eDGet2 (md mk mx : ME) : ME := fun env h => (md env h).bind fun d h1 => if (dictOf d h1).isSome = true then (mk env h1).bind fun k h2 => (mx env h2).bind fun x h3 => lift ((getO d k h3).map fun (o : Option D) => o.getD x) h3 else .stuck
theorem de_dget2 (hu : X.A.units + 1 < cLine) (ho : DE X o md) (he : DE X e mk) (hf : DE X f mx) (m : M2 X o "get" apos e f cpos) : DE X (.Call (.Attribute o "get" apos) [e, f] [] cpos) (eDGet2 md mk mx) :=
  ⟨fun W tk => pe_weak (pe_dget2 hu (ho.run W tk) (he.run W tk) (hf.run W tk) m) fun σ H Q q => by
    refine tE_of (f := fun env d h1 => if (dictOf d h1).isSome = true then (mk env h1).bind fun k h2 => (mx env h2).bind fun x h3 => lift ((getO d k h3).map fun (o : Option D) => o.getD x) h3 else .stuck) q fun rho env hh H1 d v R E qd p => ?_
    split at p
    · rename_i hd
      obtain ⟨a, rfl, ha⟩ := isD_of R qd hd
      refine ⟨a, rfl, ha, ?_⟩
      refine tE2_of (f := fun env d k h2 => (mx env h2).bind fun x h3 => lift ((getO d k h3).map fun (o : Option D) => o.getD x) h3) ⟨rho, env, hh, R, E, qd, p⟩ fun rho env hh H2 k u R E qd qk p => ?_
      have h3 := At.seq3 (m := mx) (f := fun env d k x h3 => lift ((getO d k h3).map fun (o : Option D) => o.getD x) h3) ⟨rho, env, hh, d, k, R, E, qd, qk, p⟩
      obtain ⟨rho3, env3, hh3, R3, E3, p3⟩ := h3
      refine ⟨rho3, env3, hh3, R3, E3, ?_⟩
      cases e3 : mx env3 hh3 with
      | stuck => rw [e3] at p3; exact p3
      | err y h1 => rw [e3] at p3; exact p3
      | ok y h1 =>
        rw [e3] at p3
        intro rho4 H4 vy S4 R4 q4
        obtain ⟨rho5, env5, hh5, d5, k5, y5, R5, E5, qd5, qk5, qy5, p5⟩ := p3 rho4 H4 vy S4 R4 q4
        obtain ⟨z, ez, p6⟩ := lift_post p5
        obtain ⟨oo, eo, rfl⟩ := Option.map_eq_some_iff.mp ez
        obtain ⟨w, g, hw⟩ := getO_of R5 qd5 qk5 eo
        refine ⟨w, g, p6.val R5 ?_⟩
        cases oo with
        | none =>
          cases w with
          | none => exact qy5
          | some v => exact hw.elim
        | some d =>
          cases w with
          | none => exact hw.elim
          | some v => exact hw
    · exact p.elim⟩
end
/-! ### running them -/
def k_dof : D → Hh → Res D := fun d h1 => match (seqL d h1).bind prsOf with
  | some kvs => .ok (.ref h1.length) (h1 ++ [.dK (mergeG [] kvs)])
  | none => .stuck
def k_dof' (h1 : Hh) (o : Option (List (Key × D))) : Res D := match o with
  | some kvs => .ok (.ref h1.length) (h1 ++ [.dK (mergeG [] kvs)])
  | none => .stuck
@[simp] theorem ev_dictOf (m : ME) (env : DEnv) (h : Hh) : eDictOf m env h = (m env h).bind k_dof := rfl
@[simp] theorem ev_k_dof (xs : List D) (h : Hh) : k_dof (.lst xs) h = k_dof' h (prsOf xs) := rfl
@[simp] theorem ev_k_dof' (kvs : List (Key × D)) (h : Hh) : k_dof' h (some kvs) = .ok (.ref h.length) (h ++ [.dK (mergeG [] kvs)]) := rfl
def k_g1 (mk : ME) (env : DEnv) : D → Hh → Res D := fun d h1 => if (dictOf d h1).isSome = true then (mk env h1).bind fun k h2 => lift ((getO d k h2).map fun (o : Option D) => o.getD D.non) h2 else .stuck
def k_g1' (mk : ME) (env : DEnv) (d : D) (h1 : Hh) (o : Option (List (Key × D))) : Res D := if o.isSome = true then (mk env h1).bind fun k h2 => lift ((getO d k h2).map fun (o : Option D) => o.getD D.non) h2 else .stuck
def k_g1'' (d : D) : D → Hh → Res D := fun k h2 => lift ((getO d k h2).map fun (o : Option D) => o.getD D.non) h2
@[simp] theorem ev_dget1 (md mk : ME) (env : DEnv) (h : Hh) : eDGet1 md mk env h = (md env h).bind (k_g1 mk env) := rfl
@[simp] theorem ev_k_g1 (mk : ME) (env : DEnv) (d : D) (h : Hh) : k_g1 mk env d h = k_g1' mk env d h (dictOf d h) := rfl
@[simp] theorem ev_k_g1' (mk : ME) (env : DEnv) (d : D) (h : Hh) (kvs : List (Key × D)) : k_g1' mk env d h (some kvs) = (mk env h).bind (k_g1'' d) := rfl
@[simp] theorem ev_k_g1'' (d k : D) (h : Hh) : k_g1'' d k h = lift ((getO d k h).map fun (o : Option D) => o.getD D.non) h := rfl
def k_h1 (mk mx : ME) (env : DEnv) : D → Hh → Res D := fun d h1 => if (dictOf d h1).isSome = true then (mk env h1).bind fun k h2 => (mx env h2).bind fun x h3 => lift ((getO d k h3).map fun (o : Option D) => o.getD x) h3 else .stuck
def k_h1' (mk mx : ME) (env : DEnv) (d : D) (h1 : Hh) (o : Option (List (Key × D))) : Res D := if o.isSome = true then (mk env h1).bind fun k h2 => (mx env h2).bind fun x h3 => lift ((getO d k h3).map fun (o : Option D) => o.getD x) h3 else .stuck
def k_h2 (mx : ME) (env : DEnv) (d : D) : D → Hh → Res D := fun k h2 => (mx env h2).bind fun x h3 => lift ((getO d k h3).map fun (o : Option D) => o.getD x) h3
def k_h3 (d k : D) : D → Hh → Res D := fun x h3 => lift ((getO d k h3).map fun (o : Option D) => o.getD x) h3
@[simp] theorem ev_dget2 (md mk mx : ME) (env : DEnv) (h : Hh) : eDGet2 md mk mx env h = (md env h).bind (k_h1 mk mx env) := rfl
@[simp] theorem ev_k_h1 (mk mx : ME) (env : DEnv) (d : D) (h : Hh) : k_h1 mk mx env d h = k_h1' mk mx env d h (dictOf d h) := rfl
@[simp] theorem ev_k_h1' (mk mx : ME) (env : DEnv) (d : D) (h : Hh) (kvs : List (Key × D)) : k_h1' mk mx env d h (some kvs) = (mk env h).bind (k_h2 mx env d) := rfl
@[simp] theorem ev_k_h2 (mx : ME) (env : DEnv) (d k : D) (h : Hh) : k_h2 mx env d k h = (mx env h).bind (k_h3 d k) := rfl
@[simp] theorem ev_k_h3 (d k x : D) (h : Hh) : k_h3 d k x h = lift ((getO d k h).map fun (o : Option D) => o.getD x) h := rfl
def refDict (o : Option O) : Option (List (Key × D)) := match o with | some (.dK kvs) => some kvs | _ => none
@[simp] theorem ev_dictR (i : Nat) (h : Hh) : dictOf (.ref i) h = refDict h[i]? := by
  show (match h[i]? with | some (.dK kvs) => some kvs | _ => none : Option (List (Key × D))) = _
  cases h[i]? with
  | none => rfl
  | some o => cases o <;> rfl
@[simp] theorem ev_refDict (kvs : List (Key × D)) : refDict (some (.dK kvs)) = some kvs := rfl
def getO' (o : Option (List (Key × D))) (k : Option Key) : Option (Option D) := match o, k with
  | some kvs, some key => some (getG kvs key)
  | _, _ => none
@[simp] theorem ev_getO (d k : D) (h : Hh) : getO d k h = getO' (dictOf d h) (keyD k) := rfl
@[simp] theorem ev_getO' (kvs : List (Key × D)) (k : Key) : getO' (some kvs) (some k) = some (getG kvs k) := rfl
@[simp] theorem ev_keyI (i : Int) : keyD (.int i) = some (.inl i) := rfl
@[simp] theorem ev_keyS (x : Str) : keyD (.str x) = some (.inr x) := rfl
end MR

/-! F23: rooms as data; loops over a range; dicts of pairs with different keys; loops that look for one. -/
namespace MR
open PySem PySem.Spec PyProof.Rows L2

/-- one that waits -/
structure En where
  g : Nat
  w : Str
  no : Nat
  lt : Option Nat
def ltD (o : Option Nat) : D := match o with | some r => .int r | none => .non
def En.d (e : En) : D := .tup [.int e.g, .str e.w, .int e.no, ltD e.lt]
def roomD (ws : List Str) (es : List En) : D := .tup [.tup (ws.map D.str), .tup (es.map En.d)]
structure RoomOk (n : Nat) (ws : List Str) (es : List En) : Prop where
  len : ws.length = n
  pl : ∀ w ∈ ws, w ∈ PL
  gs : ∀ e ∈ es, e.g < n
  out : ∀ e ∈ es, ws[e.g]? = some ("out" : Str)
  rw : ∀ e ∈ es, e.w = "read" ∨ e.w = "write"
  lt : ∀ e ∈ es, ∀ r, e.lt = some r → 1 ≤ r
  nd : (es.map En.g).Nodup
theorem rangeD_cons {a b : Int} (h : a < b) : rangeD a b = .int a :: rangeD (a + 1) b := by
  unfold rangeD
  have e : (b - a).toNat = (b - (a + 1)).toNat + 1 := by omega
  rw [e, List.range_succ_eq_map, List.map_cons, List.map_map]
  congr 1
  · simp
  · refine List.map_congr_left fun i _ => ?_
    show D.int (a + ((i + 1 : Nat) : Int)) = D.int (a + 1 + (i : Int))
    congr 1; omega
theorem rangeD_nil {a b : Int} (h : b ≤ a) : rangeD a b = [] := by
  unfold rangeD
  have e : (b - a).toNat = 0 := by omega
  rw [e]; rfl
/-- turn by turn through a range -/
theorem for_range {body : D → DEnv → Hh → RS} (N : Nat) (I : Nat → DEnv → Hh → Prop) (b : ∀ g, g < N → ∀ env h, I g env h → ∃ env' h', body (.int g) env h = .nx env' h' ∧ I (g + 1) env' h') :
    ∀ (k g : Nat) (env : DEnv) (h : Hh), g + k = N → I g env h → ∃ env' h', forL none body (rangeD g N) env h = .nx env' h' ∧ I N env' h'
  | 0, g, env, h, e, i => by
    have : g = N := by omega
    subst this
    exact ⟨env, h, by rw [rangeD_nil (Int.le_refl _), ev_for_nil], i⟩
  | k + 1, g, env, h, e, i => by
    obtain ⟨env1, h1, e1, i1⟩ := b g (by omega) env h i
    obtain ⟨env2, h2, e2, i2⟩ := for_range N I b k (g + 1) env1 h1 (by omega) i1
    refine ⟨env2, h2, ?_, i2⟩
    rw [rangeD_cons (by omega), ev_for_cons, e1, ev_lb_nx]
    exact e2
/-- keys that are all different: the dict holds the pairs as they stand -/
theorem merge_nodup {κ α : Type} [DecidableEq κ] : ∀ (kvs acc : List (κ × α)), (kvs.map (·.1)).Nodup → (∀ k ∈ acc.map (·.1), k ∉ kvs.map (·.1)) → mergeG acc kvs = acc ++ kvs
  | [], acc, _, _ => by simp [mergeG]
  | p :: kvs, acc, nd, h => by
    rw [List.map_cons, List.nodup_cons] at nd
    have hp : (acc.any fun kv => decide (kv.1 = p.1)) = false := by
      rw [List.any_eq_false]
      intro kv m e
      have e := of_decide_eq_true e
      exact h kv.1 (List.mem_map_of_mem m) (by rw [e]; exact List.mem_cons_self)
    have e1 : putG acc p.1 p.2 = acc ++ [p] := by
      unfold putG
      rw [hp]; rfl
    show mergeG (putG acc p.1 p.2) kvs = _
    rw [e1, merge_nodup kvs (acc ++ [p]) nd.2 fun k hk m => ?_, List.append_assoc]
    · rfl
    · rw [List.map_append, List.mem_append] at hk
      rcases hk with hk | hk
      · exact h k hk (List.mem_cons_of_mem _ m)
      · have : k = p.1 := by simpa using hk
        rw [this] at m
        exact nd.1 m
/-- a loop that looks for one: it ends there, else it goes through -/
theorem for_find {body : D → DEnv → Hh → RS} (I : DEnv → Prop) (f : D → Option D) (h : Hh) : ∀ (ds : List D) (env : DEnv), I env → (∀ d ∈ ds, ∀ env, I env → (∀ r, f d = some r → body d env h = .rt r h) ∧ (f d = none → ∃ env', body d env h = .nx env' h ∧ I env')) →
    (∀ r, ds.findSome? f = some r → forL none body ds env h = .rt r h) ∧ (ds.findSome? f = none → ∃ env', forL none body ds env h = .nx env' h ∧ I env')
  | [], env, i, _ => by
    refine And.intro (fun r e => ?_) (fun _ => ⟨env, ev_for_nil body env h, i⟩)
    cases e
  | d :: ds, env, i, b => by
    obtain ⟨b1, b2⟩ := b d List.mem_cons_self env i
    rw [List.findSome?_cons, ev_for_cons]
    cases hp : f d with
    | some r =>
      rw [b1 r hp]
      refine And.intro (fun r' e => ?_) (fun e => ?_)
      · cases e; rfl
      · cases e
    | none =>
      obtain ⟨env1, e1, i1⟩ := b2 hp
      rw [e1, ev_lb_nx]
      exact for_find I f h ds env1 i1 fun d m => b d (List.mem_cons_of_mem _ m)
/-! who is at places -/
def inP (ps : List Str) (d : D) : Bool := match d with
  | .wtp [_, .str w] => decide (w ∈ ps)
  | _ => false
def fstD (d : D) : D := match d with
  | .wtp (i :: _) => i
  | _ => .non
def atD (ws ps : List Str) : List D := ((enumD (ws.map D.str)).filter (inP ps)).map fstD
theorem mem_enum {ws : List Str} {d : D} (h : d ∈ enumD (ws.map D.str)) : ∃ (i : Nat) (w : Str), d = .wtp [.int i, .str w] ∧ w ∈ ws ∧ ws[i]? = some w := by
  unfold enumD at h
  obtain ⟨⟨x, i⟩, hm, rfl⟩ := List.mem_map.mp h
  obtain ⟨_, hi, e⟩ := List.mem_zipIdx hm
  have hi : i < ws.length := by simpa using hi
  have e : x = D.str ws[i] := by simpa using e
  subst e
  exact ⟨i, ws[i], rfl, List.getElem_mem hi, List.getElem?_eq_getElem hi⟩
theorem enum_count (ps : List Str) : ∀ (ws : List Str) (k : Nat), (((ws.map D.str).zipIdx k).map fun p => D.wtp [.int (p.2 : Int), p.1]).countP (inP ps) = ws.countP fun w => decide (w ∈ ps)
  | [], _ => rfl
  | w :: ws, k => by
    rw [List.map_cons, List.zipIdx_cons, List.map_cons, List.countP_cons, List.countP_cons, enum_count ps ws (k + 1)]
    rfl
theorem at_len (ws ps : List Str) : (atD ws ps).length = ws.countP fun w => decide (w ∈ ps) := by
  unfold atD enumD
  rw [List.length_map, ← List.countP_eq_length_filter, enum_count]
theorem get_strs (xs : List Str) {r : Int} (r0 : 0 ≤ r) (r1 : r < xs.length) : ∃ x ∈ xs, (xs.map D.str)[r.toNat]? = some (.str x) := by
  obtain ⟨x, hx, e⟩ := get_in xs r0 r1
  exact ⟨x, hx, by rw [List.getElem?_map, e]; rfl⟩
/-- by a range's numbers, as by the walk -/
theorem range_at (ps : List Str) (q : D → Bool) : ∀ (ws : List Str) (k : Nat), (∀ i w, ws[i]? = some w → q (.int ((k + i : Nat) : Int)) = decide (w ∈ ps)) →
    (rangeD k ((k + ws.length : Nat) : Int)).filter q = ((((ws.map D.str).zipIdx k).map fun p => D.wtp [.int (p.2 : Int), p.1]).filter (inP ps)).map fstD
  | [], k, _ => by rw [rangeD_nil (by simp)]; rfl
  | w :: ws, k, h => by
    have h0 := h 0 w rfl
    have ih := range_at ps q ws (k + 1) fun i x e => by
      have := h (i + 1) x (by simpa using e)
      rw [← this]; congr 2; omega
    rw [rangeD_cons (by rw [List.length_cons]; omega), List.map_cons, List.zipIdx_cons, List.map_cons, List.filter_cons, List.filter_cons]
    rw [show (k + (w :: ws).length : Nat) = k + 1 + ws.length by rw [List.length_cons]; omega]
    have e1 : q (.int (k : Int)) = decide (w ∈ ps) := by simpa using h0
    have e2 : inP ps (.wtp [.int (k : Int), .str w]) = decide (w ∈ ps) := rfl
    rw [e1, e2]
    have ih : (rangeD ((k : Int) + 1) ((k + 1 + ws.length : Nat) : Int)).filter q = _ := ih
    cases decide (w ∈ ps) with
    | true => simp only [if_true]; rw [ih]; rfl
    | false => simp only [Bool.false_eq_true, if_false]; exact ih
end MR

/-! F24: list(range(n)), d.update(e), sum, max and min of a list. -/
namespace MR
open PySem PySem.Spec PyProof.Rows L2

/-! ### list(range(n)) -/
def rgOf (d : D) : Option (List D) := match d with
  | .int n => if -1000000 ≤ n ∧ n ≤ 1000000 then some (rangeD 0 n) else none
  | _ => none
def aRg (m : ME) : MA := fun env h => (m env h).bind fun d h1 => lift (rgOf d) h1
theorem dens_rg {G : Gm} {rho : Rm} {H : Hp} (a b : Int) : Dens G rho H (rangeD a b) (rgV a b) := by
  unfold rangeD rgV
  generalize List.range (b - a).toNat = l
  induction l with
  | nil => rfl
  | cons x l ih => exact ⟨_, _, rfl, rfl, ih⟩
section
variable {X : Cx} {e : Expr} {m : ME} {pos p pos2 p2 : Pos}
theorem dl_listRg (hc : X.calm = true) (hg : Gl X "list") (hm : X.mg "list" = none) (hg2 : Gl X "range") (hm2 : X.mg "range" = none) (ha : DE X e m)
    (na : starEach [e] X.env = (false, eval e X.env) :: starEach [] X.env := by rfl) (nb : starEach [.Call (.Name "range" p2) [e] [] pos2] X.env = (false, eval (.Call (.Name "range" p2) [e] [] pos2) X.env) :: starEach [] X.env := by rfl) :
    DL X (.Call (.Name "list" p) [.Call (.Name "range" p2) [e] [] pos2] [] pos) (aRg m) :=
  ⟨fun W tk => pe_weak (pe_listRg hc hg hm (prg_1 hg2 hm2 (ha.run W tk) na) nb) fun σ H Q hq => by
    obtain ⟨rho, env, hh, R, E, p⟩ := hq
    refine ⟨rho, env, hh, R, E, ?_⟩
    unfold aRg at p
    cases e1 : m env hh with
    | stuck => rw [e1] at p; exact p
    | err z h1 => rw [e1] at p; exact p
    | ok d h1 =>
      rw [e1, bind_ok] at p
      intro rho1 H1 v S1 R1 q1
      unfold rgOf at p
      split at p
      · rename_i ds hh' e2
        split at e2
        · rename_i n
          split at e2
          · rename_i hc
            unfold lift at e2
            cases e2
            refine ⟨n, q1, ⟨by omega, by omega, by omega, by omega, by omega⟩, fun pp hp => ?_⟩
            obtain ⟨a, b, c, d⟩ := new_list S1 R1 (dens_rg 0 n) hp
            exact p _ _ pp _ a b upd_same List.mem_cons_self c (S1.back hp) (by rw [rgV_length, sizeLine_eq]; omega) d
          · cases e2
        · cases e2
      · rename_i z hh' e2
        split at e2
        · split at e2 <;> cases e2
        · cases e2
      · exact p.elim⟩
end
def k_rg : D → Hh → Res (List D) := fun d h1 => lift (rgOf d) h1
@[simp] theorem ev_aRg (m : ME) (env : DEnv) (h : Hh) : aRg m env h = (m env h).bind k_rg := rfl
@[simp] theorem ev_k_rg (n : Int) (h : Hh) : k_rg (.int n) h = lift (if -1000000 ≤ n ∧ n ≤ 1000000 then some (rangeD 0 n) else none) h := rfl

/-! ### sum, max, min of a list of numbers -/
def intsOf : List D → Option (List Int)
  | [] => some []
  | .int i :: r => (intsOf r).map (i :: ·)
  | _ :: _ => none
theorem intsOf_of {G : Gm} {rho : Rm} {H : Hp} : ∀ {ds : List D} {vs : List V} {ns : List Int}, Dens G rho H ds vs → intsOf ds = some ns → vs = ns.map V.int
  | [], vs, ns, q, e => by
    rw [Dens] at q; subst q
    cases e; rfl
  | d :: ds, vs, ns, q, e => by
    rw [Dens] at q
    obtain ⟨v, r, rfl, a, b⟩ := q
    unfold intsOf at e
    split at e
    · rename_i z; cases z
    · rename_i i r' z
      cases z
      obtain ⟨ms, e1, rfl⟩ := Option.map_eq_some_iff.mp e
      rw [intsOf_of b e1, show v = .int i from a]; rfl
    · cases e
def maxI : List Int → Int → Int
  | [], m => m
  | x :: xs, m => maxI xs (if x > m then x else m)
theorem maxI_spec : ∀ (xs : List Int) (m : Int), (maxI xs m = m ∨ maxI xs m ∈ xs) ∧ m ≤ maxI xs m ∧ ∀ y ∈ xs, y ≤ maxI xs m
  | [], m => ⟨.inl rfl, Int.le_refl _, fun y h => by cases h⟩
  | x :: xs, m => by
    obtain ⟨h1, h2, h3⟩ := maxI_spec xs (if x > m then x else m)
    unfold maxI
    by_cases hx : x > m
    · rw [if_pos hx] at h1 h2 h3 ⊢
      refine ⟨.inr ?_, by omega, fun y hy => ?_⟩
      · rcases h1 with h1 | h1
        · rw [h1]; exact List.mem_cons_self
        · exact List.mem_cons_of_mem _ h1
      · rcases List.mem_cons.mp hy with e | hy
        · rw [e]; exact h2
        · exact h3 y hy
    · rw [if_neg hx] at h1 h2 h3 ⊢
      refine ⟨?_, h2, fun y hy => ?_⟩
      · rcases h1 with h1 | h1
        · exact .inl h1
        · exact .inr (List.mem_cons_of_mem _ h1)
      · rcases List.mem_cons.mp hy with e | hy
        · rw [e]; omega
        · exact h3 y hy
def maxLO : OpN := fun ds h => match ds with
  | [d] => ((seqL d h).bind intsOf).bind fun ns => match ns with
    | n :: r => some (.int (maxI r n))
    | [] => none
  | _ => none
def sumLO : OpN := fun ds h => match ds with
  | [d] => ((seqL d h).bind intsOf).map fun ns => .int ns.sum
  | _ => none
theorem rz_sumL {G : Gm} : RzN G (rSum G.K) sumLO := fun rho hh H ds vs d Q R q e k => by
  unfold sumLO at e
  split at e
  · obtain ⟨ns, e1, rfl⟩ := Option.map_eq_some_iff.mp e
    obtain ⟨xs, e2, e3⟩ := Option.bind_eq_some_iff.mp e1
    obtain ⟨v, rfl, qv⟩ := dens_one q
    obtain ⟨a, us, rfl, hs, l, z⟩ := seqL_of R qv e2
    have := intsOf_of z e3
    subst this
    exact ⟨a, ns, rfl, SqL.of hs, k _ H .refl R rfl⟩
  · cases e
theorem rz_maxL {G : Gm} : RzN G (rMax G.K) maxLO := fun rho hh H ds vs d Q R q e k => by
  unfold maxLO at e
  split at e
  · obtain ⟨ns, e1, e4⟩ := Option.bind_eq_some_iff.mp e
    obtain ⟨xs, e2, e3⟩ := Option.bind_eq_some_iff.mp e1
    obtain ⟨v, rfl, qv⟩ := dens_one q
    obtain ⟨a, us, rfl, hs, l, z⟩ := seqL_of R qv e2
    have := intsOf_of z e3
    subst this
    split at e4
    · rename_i n r
      cases e4
      refine ⟨a, n :: r, rfl, SqL.of hs, by simp, fun m hm hy => ?_⟩
      obtain ⟨h1, h2, h3⟩ := maxI_spec r n
      have hmm : m = maxI r n := by
        have a1 : maxI r n ≤ m := by
          rcases h1 with h1 | h1
          · rw [h1]; exact hy n List.mem_cons_self
          · exact hy _ (List.mem_cons_of_mem _ h1)
        have a2 : m ≤ maxI r n := by
          rcases List.mem_cons.mp hm with e | hm
          · rw [e]; exact h2
          · exact h3 m hm
        omega
      subst hmm
      exact k _ H .refl R rfl
    · cases e4
  · cases e
@[simp] theorem ev_intsOf0 : intsOf [] = some [] := rfl
@[simp] theorem ev_intsOf (i : Int) (r : List D) : intsOf (.int i :: r) = (intsOf r).map (i :: ·) := rfl
def maxOf : Option (List Int) → Option D := fun o => o.bind fun ns => match ns with
  | n :: r => some (.int (maxI r n))
  | [] => none
@[simp] theorem ev_maxL (xs : List D) (h : Hh) : maxLO [.lst xs] h = maxOf (intsOf xs) := rfl
@[simp] theorem ev_maxOf (n : Int) (r : List Int) : maxOf (some (n :: r)) = some (.int (maxI r n)) := rfl
@[simp] theorem ev_sumL (xs : List D) (h : Hh) : sumLO [.lst xs] h = (intsOf xs).map fun ns => .int ns.sum := rfl

/-! ### d.update(e) -/
def rUpd : V → List V → Hp → VK → Prop := fun x xs H Q => ∃ (a b : Addr) (kvs more : List (Key × V)), x = .ref a ∧ xs = [.ref b] ∧ a ≠ b ∧ H a = some (.dK kvs) ∧ H b = some (.dK more) ∧ kvs.length + more.length ≤ sizeLine ∧ Q .non (upd H a (.dK (mergeK kvs more)))
theorem mt_upd {X : Cx} : MtR X "dict.update" rUpd := by
  intro pins s σ H x xs v us Q I rx rxs h
  obtain ⟨a, b, kvs, more, rfl, rfl, hab, ha, hb, hz, q⟩ := h
  cases rx
  obtain ⟨u, rfl, ru⟩ := vals1 rxs
  cases ru
  obtain ⟨z1, hd1, vs1, rel1, dd1⟩ := dk_rd I.hok (.inl ha)
  obtain ⟨z2, hd2, vs2, rel2, dd2⟩ := dk_rd I.hok (.inl hb)
  refine call_meetsIn PySem.F.slot_dict_update dd1.typeIs PySem.F.entry_dict_update (PySem.F.args_dict_update_2 _ _) (meets_dict_update (mixKind X.prog X.w) a b hab hd2) ⟨vs1, vs2, dd1, dd2, by rw [← rel1.length, ← rel2.length]; exact hz, fun h' d1 d2 sb => ?_⟩
  have new : ObjOk X.prog X.w (upd H a (.dK (mergeK kvs more))) h' a (.dK (mergeK kvs more)) :=
    ⟨Nat.le_trans (length_mergeK more kvs) hz, hd1, merged vs1 vs2, KV.merge rel2 rel1, d1⟩
  have I2 := d_write (t' := s.toks) I (by rw [ha]; exact True.intro) sb (by obtain ⟨o, _, _, e, _⟩ := d1; exact ⟨o, e⟩) new
  exact ⟨.non, _, I2, rfl, q⟩
def updO : OpM := fun d ds h => match ds with
  | [e] => match d, dictOf d h, dictOf e h with
    | .ref i, some kvs, some more => (match e with
      | .ref j => if i ≠ j ∧ kvs.length + more.length ≤ 16777216 then some (.non, h.set i (.dK (mergeG kvs more))) else none
      | _ => none)
    | _, _, _ => none
  | _ => none
def isDk (d : D) (h : Hh) : Bool := (dictOf d h).isSome
theorem dictOf_get {i : Nat} {h : Hh} {kvs : List (Key × D)} (e : dictOf (.ref i) h = some kvs) : h[i]? = some (.dK kvs) := by
  rw [ev_dictR] at e
  unfold refDict at e
  split at e
  · rename_i k x; cases e; exact x
  · cases e
theorem rz_upd {G : Gm} : RzM G "dict" rUpd isDk updO where
  ty := fun rho hh H d v R q h => by
    obtain ⟨kvs, e⟩ := Option.isSome_iff_exists.mp h
    obtain ⟨a, ws, rfl, hb, _⟩ := dictOf_of R q e
    exact .inr (.inr (.inl ⟨rfl, .inl ⟨ws, hb⟩⟩))
  run := fun rho hh H d ds v vs d' hh' Q R q qs e k => by
    unfold updO at e
    split at e
    · rename_i e0
      split at e
      · rename_i i kvs more e1 e2
        split at e
        · rename_i j
          split at e
          · rename_i hc
            cases e
            obtain ⟨hij, hz⟩ := hc
            obtain ⟨w, rfl, qw⟩ := dens_one qs
            have x1 := dictOf_get e2
            have x2 := dictOf_get e1
            rw [Den] at q qw
            obtain ⟨a, ea, rfl⟩ := q
            obtain ⟨b, eb, rfl⟩ := qw
            obtain ⟨ws, e3, l3, z3⟩ := R.ob _ a _ ea x1
            obtain ⟨us, e4, l4, z4⟩ := R.ob _ b _ eb x2
            have hab : a ≠ b := fun z => hij (by
              subst z
              have h1 := (List.getElem?_eq_some_iff.mp ea).1
              exact (List.getElem?_inj h1 R.nd).mp (ea.trans eb.symm))
            have hl1 := Paired.length z3
            have hl2 := Paired.length z4
            have S : Step rho H rho (upd H a (.dK (mergeK ws us))) := .put (List.mem_of_getElem? ea)
            have z3' : KD G rho (upd H a (.dK (mergeK ws us))) _ ws := KD.step R S z3
            have z4' : KD G rho (upd H a (.dK (mergeK ws us))) _ us := KD.step R S z4
            refine ⟨a, b, ws, us, rfl, rfl, hab, e3, e4, by rw [sizeLine_eq]; omega, ?_⟩
            refine k .non rho _ S (R.put ea ⟨mergeK ws us, upd_same, ?_, z4'.merge z3'⟩) rfl
            have := length_mergeK us ws
            rw [sizeLine_eq]; omega
          · cases e
        · cases e
      · cases e
    · cases e
@[simp] theorem ev_isDk (d : D) (h : Hh) : isDk d h = (dictOf d h).isSome := rfl
def updR (i j : Nat) (h : Hh) (o o' : Option (List (Key × D))) : Option (D × Hh) := match o, o' with
  | some kvs, some more => if i ≠ j ∧ kvs.length + more.length ≤ 16777216 then some (.non, h.set i (.dK (mergeG kvs more))) else none
  | _, _ => none
@[simp] theorem ev_upd (i j : Nat) (h : Hh) : updO (.ref i) [.ref j] h = updR i j h (refDict h[i]?) (refDict h[j]?) := by
  rw [← ev_dictR, ← ev_dictR]
  show (match D.ref i, dictOf (.ref i) h, dictOf (.ref j) h with
    | .ref i, some kvs, some more => (if i ≠ j ∧ kvs.length + more.length ≤ 16777216 then some (D.non, h.set i (.dK (mergeG kvs more))) else none)
    | _, _, _ => none) = _
  cases dictOf (.ref i) h <;> cases dictOf (.ref j) h <;> rfl
@[simp] theorem ev_updR (i j : Nat) (h : Hh) (kvs more : List (Key × D)) : updR i j h (some kvs) (some more) = if i ≠ j ∧ kvs.length + more.length ≤ 16777216 then some (.non, h.set i (.dK (mergeG kvs more))) else none := rfl
end MR

/-! F25: the rules of the doors, in plain Lean. -/
namespace MR
open PySem PySem.Spec PyProof.Rows L2

/-- what one wants -/
def wantS (ws : List Str) (es : List En) (g : Nat) : Option Str :=
  if ws[g]? = some ("rising" : Str) then some "up" else es.findSome? fun e => if e.g = g then some e.w else none
def optD (o : Option Str) : D := match o with | some w => .str w | none => .non
def fW (g : Nat) (d : D) : Option D := match d with
  | .tup [.int o, w, _, _] => if o = (g : Int) then some w else none
  | _ => none
theorem find_es (g : Nat) (es : List En) : (es.map En.d).findSome? (fW g) = (es.findSome? fun e => if e.g = g then some e.w else none).map D.str := by
  induction es with
  | nil => rfl
  | cons e es ih =>
    rw [List.map_cons, List.findSome?_cons, List.findSome?_cons]
    have e1 : fW g e.d = if (e.g : Int) = (g : Int) then some (D.str e.w) else none := rfl
    rw [e1]
    by_cases h : e.g = g
    · rw [if_pos h, if_pos (by omega)]; rfl
    · rw [if_neg h, if_neg (by omega)]; exact ih
theorem want_cases {n : Nat} {ws : List Str} {es : List En} (R : RoomOk n ws es) (g : Nat) : wantS ws es g = none ∨ wantS ws es g = some "up" ∨ wantS ws es g = some "read" ∨ wantS ws es g = some "write" := by
  unfold wantS
  split
  · exact .inr (.inl rfl)
  · cases hf : es.findSome? fun e => if e.g = g then some e.w else none with
    | none => exact .inl rfl
    | some r =>
      obtain ⟨e, he, h2⟩ := List.exists_of_findSome?_eq_some hf
      split at h2
      · cases h2
        rcases R.rw e he with q | q
        · rw [q]; exact .inr (.inr (.inl rfl))
        · rw [q]; exact .inr (.inr (.inr rfl))
      · cases h2
def SH : List Str := ["writes", "raised", "rising"]
def mayRead (m : Int) (ws : List Str) : Bool := !(ws.any fun w => decide (w ∈ SH)) && (decide (m = 0) || decide ((ws.count ("reads" : Str) : Int) < m))
/-- nobody is within but one -/
def alone (ws : List Str) (g : Nat) : Bool := ws.zipIdx.all fun p => decide (p.1 = ("out" : Str)) || decide (p.2 = g)
def canGo (m : Int) (ws : List Str) (es : List En) (g : Nat) : Bool := match wantS ws es g with
  | some w => if w = "read" then mayRead m ws else alone ws g
  | none => false
theorem nodup_len : ∀ (n : Nat) (l : List Nat), l.Nodup → (∀ x ∈ l, x < n) → l.length ≤ n
  | 0, l, _, h => by
    cases l with
    | nil => exact Nat.le_refl _
    | cons x xs => exact absurd (h x List.mem_cons_self) (Nat.not_lt_zero _)
  | n + 1, l, nd, h => by
    by_cases hm : n ∈ l
    · have h1 := nodup_len n (l.erase n) (nd.erase n) fun x hx => by
        have h2 := (List.Nodup.mem_erase_iff nd).mp hx
        have := h x h2.2
        omega
      rw [List.length_erase_of_mem hm] at h1
      omega
    · have h1 := nodup_len n l nd fun x hx => by
        have := h x hx
        have : x ≠ n := fun e => hm (by rw [← e]; exact hx)
        omega
      omega
theorem RoomOk.few {n : Nat} {ws : List Str} {es : List En} (R : RoomOk n ws es) : es.length ≤ n := by
  have := nodup_len n (es.map En.g) R.nd fun x m => by
    obtain ⟨e, he, rfl⟩ := List.mem_map.mp m
    exact R.gs e he
  simpa using this
/-- the waits in the order in which the rule lets in -/
def inTurn (w : Str) (es : List En) : List En :=
  if w = ("rows" : Str) then es else
  if w = ("readers" : Str) then es.filter (fun e => decide (e.w = ("read" : Str))) ++ es.filter (fun e => decide (e.w = ("write" : Str))) else
  if w = ("turns" : Str) then es.filter (fun e => decide (e.no = 1)) ++ es.filter (fun e => decide (e.w = ("write" : Str))) ++ es.filter (fun e => decide (e.w = ("read" : Str))) else
  es.filter (fun e => decide (e.w = ("write" : Str))) ++ es.filter (fun e => decide (e.w = ("read" : Str)))
theorem filter_es (p : En → Bool) (q : D → Bool) (h : ∀ e : En, q e.d = p e) (es : List En) : (es.map En.d).filter q = (es.filter p).map En.d := by
  induction es with
  | nil => rfl
  | cons e es ih =>
    rw [List.map_cons, List.filter_cons, List.filter_cons, h e, ih]
    cases p e <;> rfl
/-- with passes: the first that can go, if none ahead has been passed too often -/
def pastD (m t : Int) (ws : List Str) (es : List En) (d : D) : Option D := match d with
  | .wtp [.int i, .tup (.int g :: _)] => if canGo m ws es g.toNat = true then some (if (es.take i.toNat).all (fun e => decide ((e.no : Int) < t)) = true then .int g else .non) else none
  | _ => none
def optI (o : Option Nat) : D := match o with | some g => .int g | none => .non
def nextPast (m t : Int) (ws : List Str) (es : List En) : Option Nat :=
  (es.zipIdx.findSome? fun p => if canGo m ws es p.1.g = true then some (if (es.take p.2).all (fun e => decide ((e.no : Int) < t)) = true then some p.1.g else none) else none).join
def nextIn (w : Str) (m t : Int) (ws : List Str) (es : List En) : Option Nat :=
  if w = ("passes" : Str) then nextPast m t ws es else match inTurn w es with
    | [] => none
    | e :: _ => if canGo m ws es e.g = true then some e.g else none
theorem past_find (m t : Int) (ws : List Str) (es0 : List En) : ∀ (es : List En) (k : Nat), ((((es.map En.d).zipIdx k).map fun p => D.wtp [.int (p.2 : Int), p.1]).findSome? (pastD m t ws es0)) =
    ((es.zipIdx k).findSome? fun p => if canGo m ws es0 p.1.g = true then some (if (es0.take p.2).all (fun e => decide ((e.no : Int) < t)) = true then some p.1.g else none) else none).map optI
  | [], k => rfl
  | e :: es, k => by
    rw [List.map_cons, List.zipIdx_cons, List.map_cons, List.zipIdx_cons, List.findSome?_cons, List.findSome?_cons, past_find m t ws es0 es (k + 1)]
    have e1 : pastD m t ws es0 (D.wtp [D.int ((e.d, k).2 : Nat), (e.d, k).1]) = if canGo m ws es0 e.g = true then some (if (es0.take k).all (fun e => decide ((e.no : Int) < t)) = true then .int (e.g : Int) else .non) else none := rfl
    rw [e1]
    by_cases h : canGo m ws es0 e.g = true
    · rw [if_pos h, if_pos h]
      by_cases h2 : (es0.take k).all (fun e => decide ((e.no : Int) < t)) = true
      · simp only [h2, if_true]; rfl
      · simp only [h2]; rfl
    · rw [if_neg h, if_neg h]
theorem eq_nilL {n : Nat} {xs : List D} (f : fit (n + 1) (.lst xs) = true) (hn : n + 1 ≤ 64) (h : Hh) : eqO (.lst xs) (.lst []) h = some (.bl xs.isEmpty) := by
  obtain ⟨p, e, c, q, r⟩ := fit_py (n + 1) (.lst xs) f
  rw [toPy] at e
  obtain ⟨ps, e1, rfl⟩ := Option.map_eq_some_iff.mp e
  have e2 : pyOf (.lst xs) h = some (.list ps) := by
    unfold pyOf deref
    show (match toPy (.lst xs) with | some p => if SeqAt.shaped p = true then some p else none | none => none) = _
    rw [toPy, e1]
    have : SeqAt.shaped (.list ps) = true := by
      unfold SeqAt.shaped
      rw [c, decide_eq_true (by omega)]; rfl
    show (if SeqAt.shaped (.list ps) = true then _ else _) = _
    rw [if_pos this]
  have e3 : pyOf (.lst []) h = some (.list []) := rfl
  unfold eqO
  rw [e2, e3]
  cases xs with
  | nil => cases e1; rfl
  | cons x xs =>
    rw [toPys] at e1
    cases hx : toPy x with
    | none => rw [hx] at e1; cases e1
    | some px =>
      cases hr : toPys xs with
      | none => rw [hx, hr] at e1; cases e1
      | some pr => rw [hx, hr] at e1; cases e1; rfl
theorem en_fit {n : Nat} {ws : List Str} {es : List En} (R : RoomOk n ws es) {e : En} (he : e ∈ es) : fit 2 e.d = true := by
  have oe : PyData.strOk e.w = true := by
    have o : PyData.strOk "read" = true ∧ PyData.strOk "write" = true := by decide +kernel
    rcases R.rw e he with q | q
    · rw [q]; exact o.1
    · rw [q]; exact o.2
  refine fit_tup.mpr fun d m => ?_
  simp only [List.mem_cons, List.not_mem_nil, or_false] at m
  rcases m with rfl | rfl | rfl | rfl
  · rfl
  · exact oe
  · rfl
  · cases e.lt <;> rfl
theorem inTurn_sub (w : Str) {es : List En} {e : En} (h : e ∈ inTurn w es) : e ∈ es := by
  unfold inTurn at h
  split at h
  · exact h
  split at h
  · rcases List.mem_append.mp h with h | h <;> exact (List.mem_filter.mp h).1
  split at h
  · rcases List.mem_append.mp h with h | h
    · rcases List.mem_append.mp h with h | h <;> exact (List.mem_filter.mp h).1
    · exact (List.mem_filter.mp h).1
  · rcases List.mem_append.mp h with h | h <;> exact (List.mem_filter.mp h).1
/-- one more has been let in past -/
def En.past (w : Str) (e : En) : En := if w = ("passes" : Str) then { e with no := e.no + 1 } else e
/-! numbers in a list -/
theorem toPys_ints (ns : List Int) : toPys (ns.map D.int) = some (ns.map PyData.int) := by
  induction ns with
  | nil => rfl
  | cons n ns ih => rw [List.map_cons, toPys, ih]; rfl
theorem shaped_ints (ns : List Int) : PyData.canLayAll0 (ns.map PyData.int) = true ∧ PyData.depthAll (ns.map PyData.int) = 0 := by
  induction ns with
  | nil => exact ⟨rfl, rfl⟩
  | cons n ns ih => exact ⟨by rw [List.map_cons, PyData.canLayAll0, ih.1]; rfl, by rw [List.map_cons, PyData.depthAll, ih.2]; rfl⟩
theorem py_lstI (ns : List Int) (h : Hh) : pyOf (.lst (ns.map D.int)) h = some (.list (ns.map PyData.int)) := by
  unfold pyOf deref
  show (match toPy (.lst (ns.map D.int)) with | some p => if SeqAt.shaped p = true then some p else none | none => none) = _
  rw [toPy, toPys_ints]
  have : SeqAt.shaped (.list (ns.map PyData.int)) = true := by
    obtain ⟨a, b⟩ := shaped_ints ns
    unfold SeqAt.shaped
    rw [PyData.canLay0, a, PyData.depth, b]; rfl
  show (if SeqAt.shaped (.list (ns.map PyData.int)) = true then _ else _) = _
  rw [if_pos this]
theorem find_ints (k : Int) (ns : List Int) : ((ns.map PyData.int).findIdx? fun z => PyData.eqv z (.int k)) = ns.findIdx? fun n => decide (n = k) := by
  induction ns with
  | nil => rfl
  | cons n ns ih =>
    rw [List.map_cons, List.findIdx?_cons, List.findIdx?_cons, ih]
    have : PyData.eqv (.int n) (.int k) = decide (n = k) := deq
    rw [this]
theorem idx_ints (k : Int) (ns : List Int) (h : Hh) : idxOf (pysL (.lst (ns.map D.int)) h) (pyOf (.int k) h) = (ns.findIdx? fun n => decide (n = k)).map fun i => .int (i : Nat) := by
  unfold pysL
  rw [py_lstI]
  have : pyOf (.int k) h = some (.int k) := rfl
  rw [this]
  show ((ns.map PyData.int).findIdx? fun z => PyData.eqv z (.int k)).map _ = _
  rw [find_ints]
/-- the place of a guest among the waits -/
def placeOf (es : List En) (g : Nat) : Option Nat := es.findIdx? fun e => decide (e.g = g)
/-- one is let in -/
def letWs (ws : List Str) (es : List En) (g i : Nat) : List Str := ws.set g (match es[i]? with | some e => if e.w = ("write" : Str) then "writes" else "reads" | none => "reads")
def letEs (w : Str) (es : List En) (i : Nat) : List En := (es.take i).map (En.past w) ++ es.drop (i + 1)
theorem place_ints (es : List En) (g : Nat) : ((es.map fun e => (e.g : Int)).findIdx? fun n => decide (n = (g : Int))) = placeOf es g := by
  unfold placeOf
  induction es with
  | nil => rfl
  | cons e es ih =>
    rw [List.map_cons, List.findIdx?_cons, List.findIdx?_cons, ih]
    have : decide ((e.g : Int) = (g : Int)) = decide (e.g = g) := by
      by_cases h : e.g = g
      · rw [decide_eq_true h, decide_eq_true (by omega)]
      · rw [decide_eq_false h, decide_eq_false (by omega)]
    rw [this]
theorem any_map {α : Type} (p : α → Bool) (xs : List α) : (xs.map p).any id = xs.any p := by
  induction xs with
  | nil => rfl
  | cons x xs ih => rw [List.map_cons, List.any_cons, List.any_cons, ih]; rfl
end MR

/-! F26: d[k] = v; a + b as a new list. -/
namespace MR
open PySem PySem.Spec PyProof.Rows L2

/-- d[k] = v -/
def setDO : OpS := fun o i d h => match o with
  | .ref j => match h[j]? with
    | some (.dK kvs) => match keyD i with
      | some k => if kvs.length < 16777216 then some (h.set j (.dK (putG kvs k d))) else none
      | none => none
    | _ => none
  | _ => none
theorem rz_setD {G : Gm} : RzS G rSetD setDO := fun rho hh H o i d vo vi v hh' Q R qo qi qd e k => by
  unfold setDO at e
  split at e
  · rename_i j
    split at e
    · rename_i kvs ex
      split at e
      · rename_i key e2
        split at e
        · rename_i hl
          cases e
          rw [Den] at qo
          obtain ⟨a, e3, rfl⟩ := qo
          obtain ⟨fvs, e4, l, z⟩ := R.ob j a _ e3 ex
          have hl2 : fvs.length < sizeLine := by rw [← Paired.length z, sizeLine_eq]; exact hl
          have S : Step rho H rho (upd H a (.dK (putK fvs key v))) := .put (List.mem_of_getElem? e3)
          have z2 : KD G rho H (putG kvs key d) (putK fvs key v) := KD.put z key qd
          refine ⟨a, _, rfl, ?_, k _ S (R.put e3 ⟨_, upd_same, ?_, Paired.mapP z2 fun p q r => ⟨r.1, Den.step R S _ _ r.2⟩⟩)⟩
          · have := DPut.k (v := v) (k := key) e4 hl2
            rw [keyD_of e2 qi]
            exact this
          · have := length_putK fvs key v
            omega
        · cases e
      · cases e
    · cases e
  · cases e
/-- a + b, a new list -/
def catA (d e : D) (h : Hh) : Option (List D) := match seqL d h, seqL e h with
  | some xs, some ys => if xs.length + ys.length ≤ sizeLine then some (xs ++ ys) else none
  | _, _ => none
def aAdd (a b : ME) : MA := fun env h => (a env h).bind fun d h1 => (b env h1).bind fun e h2 => lift (catA d e h2) h2
theorem dl_add {X : Cx} {a b : Expr} {ma mb : ME} {pos : Pos} (ha : DE X a ma) (hb : DE X b mb) : DL X (.BinOp a .Add b pos) (aAdd ma mb) :=
  ⟨fun W tk => pe_weak (pe_op op_cat (ha.run W tk) (hb.run W tk)) fun σ H Q hq => by
    obtain ⟨rho, env, hh, R, E, p⟩ := hq
    refine ⟨rho, env, hh, R, E, ?_⟩
    unfold aAdd at p
    cases e1 : ma env hh with
    | stuck => rw [e1] at p; exact p
    | err z h1 => rw [e1] at p; exact p
    | ok d h1 =>
      rw [e1, bind_ok] at p
      intro rho1 H1 v1 S1 R1 q1
      refine ⟨rho1, env, h1, R1, E.step R S1, ?_⟩
      cases e2 : mb env h1 with
      | stuck => rw [e2] at p; exact p
      | err z h2 =>
        rw [e2] at p
        exact fun rho2 H2 c dd S2 R2 x => p rho2 H2 c dd (S1.trans S2) R2 x
      | ok e h2 =>
        rw [e2, bind_ok] at p
        intro rho2 H2 v2 S2 R2 q2
        have q1' := Den.step R1 S2 _ _ q1
        cases e3 : catA d e h2 with
        | none => rw [e3] at p; exact p.elim
        | some ds =>
          rw [e3] at p
          unfold catA at e3
          split at e3
          · rename_i xs ys f1 f2
            split at e3
            · rename_i hl
              cases e3
              obtain ⟨l1, vs, rfl, g1, k1, z1⟩ := seqL_of R2 q1' f1
              obtain ⟨l2, ws, rfl, g2, k2, z2⟩ := seqL_of R2 q2 f2
              have n1 := z1.length
              have n2 := z2.length
              refine ⟨l1, l2, vs, ws, rfl, rfl, g1, g2, by omega, fun pp hp => ?_⟩
              obtain ⟨a, b, c, dd⟩ := new_list (S1.trans S2) R2 (z1.append z2) hp
              exact p _ _ pp _ a b upd_same List.mem_cons_self c ((S1.trans S2).back hp) (by rw [List.length_append]; omega) dd
            · cases e3
          · cases e3⟩
/-! ### index of a tuple -/
def rIdxT (K : PySem.W.Frag) : V → List V → Hp → VK → Prop := fun x xs H Q => ∃ (a : Addr) (y : V) (d : PyData) (ds : List PyData) (j : Nat) (z : PyData), x = V.ref a ∧ xs = [y] ∧ (∃ vs, SqT K H a vs ∧ DpAll K H vs ds) ∧ Dp K H y d ∧
  SeqAt.shaped (.list ds) = true ∧ SeqAt.shaped d = true ∧ ds[j]? = some z ∧ PyData.eqv z d = true ∧ (∀ (m : Nat) (z' : PyData), m < j → ds[m]? = some z' → PyData.eqv z' d = false) ∧ Q (.int (j : Nat)) H
theorem mt_idxT {X : Cx} (hu : X.A.units + 65 < cLine) : MtR X "tuple.index" (rIdxT X.K) := by
  intro pins s σ H x xs v us Q I rx rxs h
  obtain ⟨a, y, d, ds, j, z, rfl, rfl, ⟨vs, hs, ha⟩, hy, sl, sd, hz, hzj, hno, q⟩ := h
  cases rx
  obtain ⟨u, rfl, ry⟩ := vals1 rxs
  obtain ⟨bs, r1⟩ := Dp.reads I d y u hy ry
  have hxs : PyData.canLayAll0 ds = true := SeqAt.canLay_of_shaped sl
  have hroom : X.A.units + 1 + min (PyData.depthAll ds) d.depth < cLine := room_in_shaped sd hu
  obtain ⟨its, rv, ⟨⟨cls, dd, data, sls⟩, ho, hc, n, hdt⟩, hlen⟩ := I.tuple hs
  simp only at hc hdt
  subst hc hdt
  obtain ⟨as, h4⟩ := Dp.readsAll I ds _ its ha rv
  have hn : its.length = ds.length := SeqAt.ReadsAll.length ds its as h4
  have hmap : its.map (SeqAt.readOf s.heap) = ds := SeqAt.readsAll_map ds its as hxs h4
  obtain ⟨hjd, _⟩ := List.getElem?_eq_some_iff.mp hz
  have hjl : j < its.length := by omega
  have hj : j < its.toArray.size := by simpa using hjl
  have at_ : ∀ (m : Nat) (hm : m < its.toArray.size) (z' : PyData), ds[m]? = some z' → SeqAt.readOf s.heap its.toArray[m] = z' := by
    intro m hm z' hz'
    have hml : m < its.length := by simpa using hm
    rw [← hmap, List.getElem?_map, List.getElem?_eq_getElem hml] at hz'
    have e1 : SeqAt.readOf s.heap its[m] = z' := Option.some.inj (show some (SeqAt.readOf s.heap its[m]) = some z' from hz')
    simpa using e1
  refine call_meets PySem.F.slot_tuple_index ⟨_, ho, rfl⟩ PySem.F.entry_tuple_index (PySem.F.args_tuple_index_2 _ _)
    (TI.tuple_indexAt a its.toArray n dd sls u (fun u => PyData.eqv (SeqAt.readOf s.heap u) d) j hj ?_ ?_) ⟨ho, SeqAt.items_eqAt (vs := its.toArray) (show ReadsAll s.heap its.toArray.toList ds as from h4) r1 hxs (SeqAt.canLay_of_shaped sd) hroom, ?_⟩
  · show PyData.eqv (SeqAt.readOf s.heap its.toArray[j]) d = true
    rw [at_ j hj z hz]
    exact hzj
  · intro m hm hmj
    have hmd : m < ds.length := by omega
    have hz' : ds[m]? = some ds[m] := List.getElem?_eq_getElem hmd
    show PyData.eqv (SeqAt.readOf s.heap its.toArray[m]) d = false
    rw [at_ m hm _ hz']
    exact hno m _ hmj hz'
  · exact ⟨.int (j : Nat), H, I.tok _, ⟨_, rfl⟩, q⟩
def indexT : OpR1 := fun d ds h => match ds with
  | [e] => idxOf (pysT d h) (pyOf e h)
  | _ => none
theorem rz_idxT {X : Cx} : RzR X "tuple" (rIdxT X.K) isTp indexT where
  ty := fun rho hh H d v R q h => tyT R q h
  run := fun rho hh H d ds v vs d' Q R q qs e k => by
    unfold indexT at e
    split at e
    · unfold idxOf at e
      split at e
      · rename_i ps p e1 e2
        obtain ⟨n, e3, rfl⟩ := Option.map_eq_some_iff.mp e
        obtain ⟨w, rfl, qw⟩ := dens_one qs
        obtain ⟨a, us, rfl, h1, h2, h3⟩ := pysT_of R q e1
        obtain ⟨h4, h5⟩ := pyOf_dp R qw e2
        obtain ⟨hn, hp, hno⟩ := List.findIdx?_eq_some_iff_getElem.mp e3
        refine ⟨a, w, p, ps, n, ps[n], rfl, rfl, ⟨us, h1, h2⟩, h4, h3, h5, List.getElem?_eq_getElem hn, hp, fun m z' hm hz => ?_, k _ H .refl R rfl⟩
        obtain ⟨hm2, hz2⟩ := List.getElem?_eq_some_iff.mp hz
        have := hno m hm
        rw [hz2] at this
        exact Bool.eq_false_iff.mpr this
      · cases e
    · cases e
end MR

/-! F27: a def taken from a dict of the module by a text, put into a name, called. -/
namespace MR
open PySem PySem.Spec PyProof.Rows L2
section
variable {X : Cx}
/-- what holds at each state holds -/
theorem ss_pick {st : List Stmt} {m : MS} (h : ∀ env hh, m env hh = .stuck ∨ ∃ m', DSs X st m' ∧ m env hh = m' env hh) : DSs X st m :=
  ⟨fun W tk => ⟨fun pins s σ H D I z => by
    obtain ⟨rho, env, hh, R, E, p⟩ := z
    rcases h env hh with e | ⟨m', hm, e⟩
    · rw [e] at p; exact p.elim
    · rw [e] at p
      exact (hm.run W tk).run pins s σ H D I ⟨rho, env, hh, R, E, p⟩⟩⟩
section
variable {CX : CXT} {k i : Nat} {f : Addr} {fd : FuncData} {ps : List Str} {sp : Sp} {E : L2.St → XK} {x : Str} {p pos : Pos} {e : Expr} {es : List Expr} {t : TA}
theorem pe_callLS (F : FnOk X.prog X.w X.K X.mg X.base CX k f fd ps sp) (hr : Room k X.A) (hN : X.N[i]? = some x) (hv : Vis X.env.scope x) (hk : PySem.W.keepIn X.K (.ref f) = true) (hb : Binds X.K fd ps []) (hx : ∀ σ, PassesAt CX X σ (E σ)) (ha : PA X (e :: es) t)
    (hdb : (x == ("__debug__" : Str)) = false := by decide) (hcd : (x == ("__classdict__" : Str)) = false := by decide)
    (he : starEach (e :: es) X.env = (false, eval e X.env) :: starEach es X.env := by rfl) (hpl : (backTo pos (starEach es X.env)).any (·.1) = false := by rfl) : PE X (.Call (.Name x p) (e :: es) [] pos) (fun σ H Q => σ[i]? = some (some (.ref f)) ∧ tCallS sp E t σ H Q) := by
  refine ⟨fun pins s σ H Q I h => ?_⟩
  obtain ⟨hs, ht⟩ := h
  refine wpAny_Call_Name_kw (thn ((pe_var (pos := p) hN hv hdb hcd).run pins s σ H (fun v H1 => v = .ref f ∧ H1 = H) I ⟨.ref f, hs, rfl, rfl⟩) fun u s1 ⟨v, H1, I1, r1, q1⟩ => ?_)
  obtain ⟨rfl, rfl⟩ := q1
  cases r1
  refine PySem.W.callWith_K (h₀ := X.base) I.ok.mod.kin hk (thn (ha.run pos pins s1 σ _ _ I1 ht) fun us s2 ⟨vs, H2, I2, r, q⟩ => ⟨I2.kIn, ?_⟩) he hpl
  exact run_fnS F hr hb (hx σ) I2 r q
end
variable {k i : Nat} {f : Addr} {fd : FuncData} {ps : List Str} {F : MF} {x : Str} {p pos : Pos} {e : Expr} {es : List Expr} {ms : MA}
def eCallL (i : Nat) (f : Addr) (F : MF) (ms : MA) : ME := fun env h => match env[i]? with
  | some (some (.glb (.ref g))) => if g = f then eCall F ms env h else .stuck
  | _ => .stuck
theorem de_callL {n : Nat} (Fn : FnD X.prog X.w X.K X.mg X.base k f fd ps F) (hr : Room k X.A) (hk : PySem.W.keepIn X.K (.ref f) = true) (hb : Binds X.K fd ps []) (hn : n = ps.length) (ha : DAn X (e :: es) n ms) (hN : X.N[i]? = some x := by rfl) (hv : Vis X.env.scope x := by first | exact Or.inl rfl | exact Or.inr (Or.inl rfl) | exact Or.inr (Or.inr rfl))
    (hdb : (x == ("__debug__" : Str)) = false := by decide) (hcd : (x == ("__classdict__" : Str)) = false := by decide) (he : starEach (e :: es) X.env = (false, eval e X.env) :: starEach es X.env := by rfl) (hpl : (backTo pos (starEach es X.env)).any (·.1) = false := by rfl) :
    DE X (.Call (.Name x p) (e :: es) [] pos) (eCallL i f F ms) :=
  ⟨fun W tk => pe_weak (pe_callLS (E := WE W) Fn hr hN hv hk hb (passAt tk) (ha.da.run W tk) hdb hcd he hpl) fun σ H Q h => by
    obtain ⟨rho, env, hh, R, E, p⟩ := h
    unfold eCallL at p
    split at p
    · rename_i g e1
      split at p
      · rename_i e2
        subst e2
        obtain ⟨v, e3, q⟩ := E.2 i _ e1
        have q : v = V.ref g := q
        subst q
        exact ⟨e3, call_of ⟨rho, env, hh, R, E, p⟩ fun vs H1 ⟨rho, ds, q, env, h0, h1, e⟩ => by rw [← q.length, ha.n _ _ _ _ e, hn]⟩
      · exact p.elim
    · exact p.elim⟩
def kdO (a : Addr) (z : Str) (v : V) : Op2 := fun d e _ => match d, e with
  | .glb u, .str y => if u = .ref a ∧ y = z then some (.glb v) else none
  | _, _ => none
theorem ix_one {a : Addr} {z : Str} {v : V} (hk : KDct X.K X.w a z v) : IxR X (fun x y H Q => x = .ref a ∧ y = .str z ∧ Q v H) :=
  fun value slice pins s σ H x y v' u Q I rx ry h hs => ix_kdict value slice pins s σ H x y v' u Q I rx ry ⟨a, z, v, h.1, h.2.1, hk, h.2.2⟩ hs
theorem rz_kd {G : Gm} {a : Addr} {z : Str} {v : V} : Rz2 G (fun x y H Q => x = .ref a ∧ y = .str z ∧ Q v H) (kdO a z v) := fun rho hh H d1 d2 v1 v2 d Q R q1 q2 e k => by
  unfold kdO at e
  split at e
  · rename_i u y
    split at e
    · rename_i hc
      cases e
      have q1 : v1 = u := q1
      have q2 : v2 = V.str y := q2
      obtain ⟨rfl, rfl⟩ := hc
      exact ⟨q1, q2, k v H .refl R rfl⟩
    · cases e
  · cases e
theorem de_kd {a : Addr} {z : Str} {v : V} {ea eb : Expr} {ma mb : ME} {pp : Pos} (hk : KDct X.K X.w a z v) (ha : DE X ea ma) (hb : DE X eb mb) (hs : PlainIx eb := by intro _ _; rfl) : DE X (.Subscript ea eb pp) (eOp2 (kdO a z v) ma mb) := de_ix (ix_one hk) rz_kd ha hb hs
def sFnRet (i : Nat) (tbl : List (Str × MF)) (mk : ME) (ms : MA) : MS := fun env h => if i < env.length then (match mk env h with
  | .ok (.str z) h1 => (match tbl.find? (fun p => decide (p.1 = z)) with
    | some q => (match eCall q.2 ms env h1 with
      | .ok d h2 => .rt d h2
      | _ => .stuck)
    | none => .stuck)
  | _ => .stuck) else .stuck
theorem ss_fnret {n : Nat} {tbl : List (Str × MF)} {a : Addr} {dn key call : Expr} {s1 : Stmt} {mk : ME} {pp p2 : Pos} (hms : ∀ env h v, ms (env.set i (some v)) h = ms env h) (hd : DE X dn (eC (.glb (.ref a)))) (hk : DE X key mk)
    (tb : ∀ q ∈ tbl, ∃ f, KDct X.K X.w a q.1 (.ref f) ∧ ∃ k fd ps, FnD X.prog X.w X.K X.mg X.base k f fd ps q.2 ∧ Room k X.A ∧ PySem.W.keepIn X.K (.ref f) = true ∧ Binds X.K fd ps [] ∧ n = ps.length)
    (hS : ∀ m, DE X (.Subscript dn key pp) m → DS X s1 (sAsg m (gName i)))
    (hL : ∀ k f fd ps F, FnD X.prog X.w X.K X.mg X.base k f fd ps F → Room k X.A → PySem.W.keepIn X.K (.ref f) = true → Binds X.K fd ps [] → n = ps.length → DE X call (eCallL i f F ms))
    (hs : PlainIx key := by intro _ _; rfl) : DSs X [s1, .Return (some call) p2] (sFnRet i tbl mk ms) := ss_pick fun env hh => by
  unfold sFnRet
  by_cases hi : i < env.length
  · rw [if_pos hi]
    cases e1 : mk env hh with
    | err x h1 => exact .inl rfl
    | stuck => exact .inl rfl
    | ok d h1 =>
      cases d with
      | str z =>
        simp only
        cases e2 : tbl.find? (fun p => decide (p.1 = z)) with
        | none => exact .inl rfl
        | some q =>
          simp only
          have hz : q.1 = z := by have := List.find?_some e2; simpa using this
          obtain ⟨f, hK, k, fd, ps, Fn, hr, hk1, hb, hn⟩ := tb q (List.mem_of_find?_eq_some e2)
          cases e3 : eCall q.2 ms env h1 with
          | err x h2 => exact .inl rfl
          | stuck => exact .inl rfl
          | ok d h2 =>
            right
            refine ⟨_, ss_cons (hS _ (de_kd (z := q.1) (v := .ref f) hK hd hk hs)) (ss_one (ds_ret (hL k f fd ps q.2 Fn hr hk1 hb hn))), ?_⟩
            have a1 : eOp2 (kdO a q.1 (.ref f)) (eC (.glb (.ref a))) mk env hh = .ok (.glb (.ref f)) h1 := by
              unfold eOp2
              show ((mk env hh).bind fun y h2 => lift (kdO a q.1 (.ref f) (.glb (.ref a)) y h2) h2) = _
              have a0 : kdO a q.1 (.ref f) (.glb (.ref a)) (.str z) h1 = some (.glb (.ref f)) := if_pos ⟨rfl, hz.symm⟩
              rw [e1, bind_ok, a0]; rfl
            have a2 : eCallL i f q.2 ms (env.set i (some (.glb (.ref f)))) h1 = .ok d h2 := by
              unfold eCallL
              rw [List.getElem?_set_self hi]
              show (if f = f then eCall q.2 ms (env.set i (some (.glb (.ref f)))) h1 else Res.stuck) = _
              rw [if_pos rfl, ← e3]
              unfold eCall
              rw [hms]
            unfold sSeq sAsg
            rw [a1]
            show RS.rt d h2 = sRet (eCallL i f q.2 ms) (env.set i (some (.glb (.ref f)))) h1
            unfold sRet
            rw [a2]; rfl
      | _ => exact .inl rfl
  · rw [if_neg hi]; exact .inl rfl
end
/-! ### what the module holds -/
def cnRef {P : Program} {w : World} {K : PySem.W.Frag} {h : Heap} {mg : Str → Option Value} (X : K.In h) (G : h.Ns mainGlobals mg) {x : Str} {a : Addr} (e : PySem.W.nsIn K mainGlobals x = some (some (.ref a))) : Cn P w K mg x (.glb (.ref a)) :=
  ⟨.ref a, .ref a, PySem.W.mg_of X G e, rfl, fun _ _ => rfl⟩
theorem kdct_of {w : World} {K : PySem.W.Frag} {a f : Addr} {x : Str} {es : Array DictEntry} {n : Nat} (l : K.lookup a = some ⟨.type "dict", none, .dict es n, #[]⟩) (k : PySem.W.KeysLit w.params es.toList) (e : PySem.W.nsIn K a x = some (some (.ref f))) : KDct K w a x (.ref f) :=
  ⟨es, n, .ref f, l, k, e, rfl⟩
end MR

/-! F28: own classes: attributes, methods, new instances; a try whose body raises nothing. -/
namespace MR
open PySem PySem.Spec PyProof.Rows L2

def putA {α : Type} (f : Str) (d : α) : List (Str × α) → List (Str × α)
  | [] => [(f, d)]
  | (g, y) :: r => if g = f then (g, d) :: r else (g, y) :: putA f d r
theorem putF_eq (f : Str) (v : V) : ∀ fs : List (Str × V), putF f v fs = putA f v fs
  | [] => rfl
  | (g, y) :: r => by
    unfold putF putA
    split
    · rfl
    · rw [putF_eq f v r]
theorem length_putA {α : Type} (f : Str) (d : α) : ∀ fs : List (Str × α), (putA f d fs).length ≤ fs.length + 1
  | [] => Nat.le_refl _
  | (g, y) :: r => by
    unfold putA
    split
    · exact Nat.le_succ _
    · have := length_putA f d r
      simp only [List.length_cons]; omega
section
variable {G : Gm} {rho : Rm} {H : Hp}
theorem Fields.put {f : Str} {d : D} {v : V} (q : Den G rho H d v) : ∀ {fs : List (Str × D)} {fvs : List (Str × V)}, Fields G rho H fs fvs → Fields G rho H (putA f d fs) (putF f v fvs)
  | _, _, .nil => .cons ⟨rfl, q⟩ .nil
  | _, _, .cons (a := (g, y)) (b := (g2, z)) r t => by
    obtain ⟨e, r2⟩ := r
    have e : g = g2 := e
    subst e
    unfold putA putF
    split
    · exact .cons ⟨rfl, q⟩ t
    · exact .cons ⟨rfl, r2⟩ (Fields.put q t)
theorem Fields.get {f : Str} {d : D} : ∀ {fs : List (Str × D)} {fvs : List (Str × V)}, Fields G rho H fs fvs → fs.lookup f = some d → ∃ v, fvs.lookup f = some v ∧ Den G rho H d v
  | _, _, .nil, e => by cases e
  | _, _, .cons (a := (g, y)) (b := (g2, z)) r t, e => by
    obtain ⟨e2, r2⟩ := r
    have e2 : g = g2 := e2
    subst e2
    rw [List.lookup_cons] at e ⊢
    cases h : f == g with
    | true => rw [h] at e; cases e; exact ⟨z, rfl, r2⟩
    | false => rw [h] at e; exact Fields.get t e
theorem Fields.no {f : Str} : ∀ {fs : List (Str × D)} {fvs : List (Str × V)}, Fields G rho H fs fvs → fs.lookup f = none → fvs.lookup f = none
  | _, _, .nil, _ => rfl
  | _, _, .cons (a := (g, y)) (b := (g2, z)) r t, e => by
    obtain ⟨e2, r2⟩ := r
    have e2 : g = g2 := e2
    subst e2
    rw [List.lookup_cons] at e ⊢
    cases h : f == g with
    | true => rw [h] at e; cases e
    | false => rw [h] at e; exact Fields.no t e
theorem Fields.length {fs : List (Str × D)} {fvs : List (Str × V)} (h : Fields G rho H fs fvs) : fs.length = fvs.length := by
  induction h with
  | nil => rfl
  | cons _ _ ih => simp [ih]
end

/-- an own class -/
structure Kd (K : PySem.W.Frag) (mg : Str → Option Value) (x : Str) where
  C : Addr
  cl : Cls K C
  a : PySem.W.nsIn K mainGlobals x = some (some (.ref C))
  g : mg x = some (.ref C)
  mks : PySem.W.makesIn K C = true
  kp : PySem.W.keepIn K (.ref C) = true
/-- a method of it -/
structure Md (K : PySem.W.Frag) (C : Addr) (m qual : Str) (st : Stmt) (ps : List Str) where
  f : Addr
  fd : FuncData
  F : Fun K m qual st f fd
  me : Meth K C m f
  b : Binds K fd ps []
theorem mkNo {K : PySem.W.Frag} {h : Heap} (X : K.In h) {C : Addr} {f : Str} (a : PySem.W.findIn K (.ref C) f = some none) : NoAttr K C f := a
def mkMd {K : PySem.W.Frag} {h : Heap} (X : K.In h) {C : Addr} {m qual : Str} {st : Stmt} {ps : List Str} {f : Addr} {oc : Value} {od an : Option Addr} {osl : Array (Option Value)} {kV doc pm cdv ct : Value}
    (a : PySem.W.findIn K (.ref C) m = some (some (.ref f))) (i : PySem.W.isFn K (.ref f) = true) (l : K.lookup f = some ⟨oc, od, .func (PySem.W.fnOf m qual (defArgs st) (defBody st) (defScope st) .none kV doc pm an cdv ct), osl⟩) (c : PySem.W.codeIn K cdv qual = true) (k : PySem.W.keepIn K (.ref f) = true)
    (hb : ∀ (kV doc pm : Value) (an : Option Addr) (cdv ct : Value) (us : List Value), us.length = ps.length → bindArgs (PySem.W.fnOf m qual (defArgs st) (defBody st) (defScope st) .none kV doc pm an cdv ct) ⟨us, []⟩ = pure (ps.zip us)) : Md K C m qual st ps :=
  ⟨f, _, fun_mk l c k, ⟨a, i, k⟩, (fun_mk l c k).binds hb⟩
def mkKd {K : PySem.W.Frag} {h : Heap} {mg : Str → Option Value} (X : K.In h) (G : h.Ns mainGlobals mg) {x : Str} {C : Addr} (a : PySem.W.nsIn K mainGlobals x = some (some (.ref C)))
    (pg : PySem.W.plainGet K C Str.empty = true) (hd : PySem.W.hasDictIn K C = true) (po : PySem.W.plainOver K C = true) (sa : PySem.W.findIn K (.ref C) "__setattr__" = some (some (.builtin "object.__setattr__"))) (mk : PySem.W.makesIn K C = true) (kc : PySem.W.keepIn K (.ref C) = true) : Kd K mg x :=
  ⟨C, ⟨pg, hd, po, sa⟩, a, PySem.W.mg_of X G a, mk, kc⟩
theorem Md.init {K : PySem.W.Frag} {mg : Str → Option Value} {x qual : Str} {st : Stmt} {ps : List Str} (T : Kd K mg x) (M : Md K T.C "__init__" qual st ps) : Mk K T.C M.f := ⟨T.mks, M.me.at_, M.me.fn, T.kp⟩

/-! ### e.f -/
def fldO (x f : Str) : D → Hh → Option D := fun d h => match d with
  | .ref i => match h[i]? with
    | some (.ins y fs) => if y = x then fs.lookup f else none
    | _ => none
  | _ => none
def eFld (x f : Str) (m : ME) : ME := fun env h => (m env h).bind fun d h1 => lift (fldO x f d h1) h1
section
variable {X : Cx} {x f m : Str} {e o value : Expr} {es : List Expr} {mo mv : ME} {ms : MA} {pos pos' p apos : Pos} {k : Nat} {g : Addr} {fd : FuncData} {ps : List Str} {F : MF}
theorem ins_at {G : Gm} {rho : Rm} {H : Hp} {hh : Hh} {mg : Str → Option Value} (T : Kd G.K mg x) (R : Rep G rho hh H) {i : Nat} {a : Addr} {fs : List (Str × D)} (ha : rho.at_[i]? = some a) (hi : hh[i]? = some (.ins x fs)) :
    ∃ dx fvs, H a = some (.ins T.C dx fvs) ∧ H dx = some (.own a) ∧ Fields G rho H fs fvs := by
  obtain ⟨C, dx, fvs, n, e, o, q⟩ := R.ob i a _ ha hi
  rw [T.a] at n
  cases n
  exact ⟨dx, fvs, e, o, q⟩
theorem fldO_some {d dd : D} {h : Hh} (e : fldO x f d h = some dd) : ∃ i fs, d = .ref i ∧ h[i]? = some (.ins x fs) ∧ fs.lookup f = some dd := by
  cases d with
  | ref i =>
    have e : (match h[i]? with | some (.ins y fs) => if y = x then fs.lookup f else none | _ => none) = some dd := e
    split at e
    · rename_i y fs hi
      split at e
      · rename_i hy
        subst hy
        exact ⟨i, fs, rfl, hi, by assumption⟩
      · cases e
    · cases e
  | _ => cases e
theorem de_fld (T : Kd X.K X.mg x) (n : NoAttr X.K T.C f) (he : DE X e mo) (hb : attributeBase e f X.env (eval e X.env) = eval e X.env := by rfl) : DE X (.Attribute e f pos) (eFld x f mo) :=
  ⟨fun W tk => pe_weak (pe_fld (he.run W tk) hb) fun σ H Q h => tE_of h fun rho env hh H1 d v R E q p => by
    cases o : fldO x f d hh with
    | none => rw [o] at p; exact p.elim
    | some dd =>
      rw [o] at p
      obtain ⟨i, fs, rfl, hi, hl⟩ := fldO_some o
      rw [Den] at q
      obtain ⟨a, ea, rfl⟩ := q
      obtain ⟨dx, fvs, e1, _, q2⟩ := ins_at (mg := X.mg) T R ea hi
      obtain ⟨u, e2, q3⟩ := q2.get hl
      exact ⟨a, T.C, dx, fvs, u, rfl, e1, T.cl, n, e2, PostE.val (a := dd) (b := u) (Rl := Den _) p R q3⟩⟩
/-! ### x.f = e, x a name of the def -/
def fldSet (x f : Str) (j : Option (Option D)) (y : D) (h : Hh) : Option Hh := match j with
  | some (some (.ref i)) => match h[i]? with
    | some (.ins z fs) => if z = x ∧ fs.length < 1000 then some (h.set i (.ins x (putA f y fs))) else none
    | _ => none
  | _ => none
def sFld (x f : Str) (i : Nat) (mv : ME) : MS := fun env h => (mv env h).st env fun y h1 => match fldSet x f env[i]? y h1 with
  | some h2 => .nx env h2
  | none => .stuck
theorem fldSet_some {j : Option (Option D)} {y : D} {h h' : Hh} (e : fldSet x f j y h = some h') : ∃ i fs, j = some (some (.ref i)) ∧ h[i]? = some (.ins x fs) ∧ fs.length < 1000 ∧ h' = h.set i (.ins x (putA f y fs)) := by
  unfold fldSet at e
  split at e
  · rename_i i
    split at e
    · rename_i z fs hi
      split at e
      · rename_i hc
        obtain ⟨rfl, hl⟩ := hc
        cases e
        exact ⟨i, fs, rfl, hi, hl, rfl⟩
      · cases e
    · cases e
  · cases e
theorem ds_fld {n : Str} {i : Nat} {npos : Pos} (T : Kd X.K X.mg x) (na : NoAttr X.K T.C f) (hv : DE X value mv) (hN : X.N[i]? = some n := by rfl) (hvis : Vis X.env.scope n := by first | exact Or.inl rfl | exact Or.inr (Or.inl rfl) | exact Or.inr (Or.inr rfl)) (hd : (n == ("__debug__" : Str)) = false := by decide)
    (hcd : (n == ("__classdict__" : Str)) = false := by decide) (hs : swapsWith value (some (.Attribute (.Name n npos) f pos')) pos.line X.env = pure false := by rfl) : DS X (.Assign [.Attribute (.Name n npos) f pos'] value pos) (sFld x f i mv) :=
  ⟨fun W tk => ps_weak (ps_fld (pe_var (i := i) hN hvis hd hcd) (hv.run W tk) hs) fun De σ H h => by
    refine st_of (f := fun env y h1 => match fldSet x f env[i]? y h1 with
      | some h2 => .nx env h2
      | none => .stuck) h fun rho env hh H1 d v R E q p => ?_
    cases o : fldSet x f env[i]? d hh with
    | none => simp only [o] at p; exact p.elim
    | some hh' =>
      simp only [o] at p
      obtain ⟨j, fs, ej, hj, hl, rfl⟩ := fldSet_some o
      obtain ⟨u, e1, q1⟩ := E.2 i _ ej
      rw [Den] at q1
      obtain ⟨a, ea, rfl⟩ := q1
      obtain ⟨dx, fvs, e2, eo, q2⟩ := ins_at (mg := X.mg) T R ea hj
      refine ⟨_, e1, a, T.C, dx, fvs, rfl, e2, T.cl, na, by rw [← q2.length]; exact hl, ?_⟩
      have ma : a ∈ rho.at_ := List.mem_of_getElem? ea
      have S : Step rho H1 rho (upd H1 a (.ins T.C dx (putF f v fvs))) := .put ma
      have nd : dx ≠ a := fun z => by rw [z, e2] at eo; cases eo
      have ob : ObD (Cx.gm X) rho (upd H1 a (.ins T.C dx (putF f v fvs))) a (.ins x (putA f d fs)) :=
        ⟨T.C, dx, _, T.a, upd_same, by rw [upd_ne nd]; exact eo, (Fields.put q q2).step R S⟩
      exact p rho _ σ S (R.put ea ob) (E.step R S)⟩
/-! ### x.m(..) -/
def isIns (x m : Str) (d : D) (h : Hh) : Bool := match d with
  | .ref i => match h[i]? with
    | some (.ins y fs) => decide (y = x) && (fs.lookup m).isNone
    | _ => false
  | _ => false
def eMtd (x m : Str) (F : MF) (mo : ME) (ms : MA) : ME := fun env h => (mo env h).bind fun o h1 => if isIns x m o h1 = true then (ms env h1).bind fun ds h2 => F (o :: ds) h2 else .stuck
theorem isIns_of {G : Gm} {rho : Rm} {H : Hp} {hh : Hh} {mg : Str → Option Value} (T : Kd G.K mg x) (R : Rep G rho hh H) {d : D} {v : V} (q : Den G rho H d v) (h : isIns x m d hh = true) : ∃ a dx fvs, v = .ref a ∧ H a = some (.ins T.C dx fvs) ∧ fvs.lookup m = none := by
  cases d with
  | ref i =>
    have h : (match hh[i]? with | some (O.ins y fs) => decide (y = x) && (fs.lookup m).isNone | _ => false) = true := h
    split at h
    · rename_i y fs hi
      rw [Bool.and_eq_true] at h
      have e := of_decide_eq_true h.1
      subst e
      rw [Den] at q
      obtain ⟨a, ea, rfl⟩ := q
      obtain ⟨dx, fvs, e1, _, q2⟩ := ins_at (mg := mg) T R ea hi
      exact ⟨a, dx, fvs, rfl, e1, q2.no (Option.isNone_iff_eq_none.mp h.2)⟩
    · cases h
  | _ => cases h
def tMethS (C : Addr) (m : Str) (sp : Sp) (E : L2.St → XK) (ta : TE) (t : TA) : TE := fun σ H Q => ta σ H fun x H1 => ∃ a dx fs, x = .ref a ∧ H1 a = some (.ins C dx fs) ∧ fs.lookup m = none ∧ t σ H1 fun vs H2 => sp (x :: vs) H2 Q (E σ)
theorem pe_methX {CX : CXT} {C : Addr} {sp : Sp} {E : L2.St → XK} {ta : TE} {t : TA} {pl : Sem Bool} (he : PE X o ta) (c : Cls X.K C) (hm : Meth X.K C m g) (F : FnOk X.prog X.w X.K X.mg X.base CX k g fd ps sp) (hr : Room k X.A) (hb : Binds X.K fd ps []) (hx : ∀ σ, PassesAt CX X σ (E σ)) (ha : PA X (e :: es) t)
    (hst : starEach (e :: es) X.env = (false, eval e X.env) :: starEach es X.env := by rfl) (hpl : (backTo pos (starEach es X.env)).any (·.1) = false := by rfl)
    (ht : eval (.Call (.Attribute o m apos) (e :: es) [] pos) X.env = (do
      let ov ← eval o X.env
      standAt apos.atName
      let (f, first) ← holding [ov] (getMethod ov m pl)
      callWith pos f first (backTo pos (starEach (e :: es) X.env)) (backToKw pos (keywordEach [] X.env))) := by rfl) :
    PE X (.Call (.Attribute o m apos) (e :: es) [] pos) (tMethS C m sp E ta t) := by
  refine ⟨fun pins s σ H Q I h => ?_⟩
  refine PySem.W.methodCall_KW (pl := pl) (thn (he.run pins s σ H _ I h) fun u s1 ⟨x, H1, I1, rx, a, dx, fs, ex, ea, l, q⟩ => ?_) ht
  subst ex
  obtain rfl : u = Value.ref a := rx
  refine getmeth_ok I1 ea c hm l ?_
  refine PySem.W.callWith_K (first := [.ref a]) (h₀ := X.base) I.ok.mod.kin hm.kp (thn (ha.run pos pins s1 σ H1 _ I1 q) fun us s2 ⟨vs, H2, I2, r, q2⟩ => ⟨I2.kIn, ?_⟩) hst hpl
  exact run_fnS (us := .ref a :: us) (vs := .ref a :: vs) F hr hb (hx σ) I2 (.cons rfl r) q2
theorem pe_methX0 {CX : CXT} {C : Addr} {sp : Sp} {E : L2.St → XK} {ta : TE} {pl : Sem Bool} (he : PE X o ta) (c : Cls X.K C) (hm : Meth X.K C m g) (F : FnOk X.prog X.w X.K X.mg X.base CX k g fd ps sp) (hr : Room k X.A) (hb : Binds X.K fd ps []) (hx : ∀ σ, PassesAt CX X σ (E σ))
    (ht : eval (.Call (.Attribute o m apos) [] [] pos) X.env = (do
      let ov ← eval o X.env
      standAt apos.atName
      let (f, first) ← holding [ov] (getMethod ov m pl)
      callWith pos f first (backTo pos (starEach [] X.env)) (backToKw pos (keywordEach [] X.env))) := by rfl) :
    PE X (.Call (.Attribute o m apos) [] [] pos) (tMethS C m sp E ta tNil) := by
  refine ⟨fun pins s σ H Q I h => ?_⟩
  refine PySem.W.methodCall_KW (pl := pl) (thn (he.run pins s σ H _ I h) fun u s1 ⟨x, H1, I1, rx, a, dx, fs, ex, ea, l, q⟩ => ?_) ht
  subst ex
  obtain rfl : u = Value.ref a := rx
  refine getmeth_ok I1 ea c hm l ?_
  exact PySem.W.callWith_K0 (first := [.ref a]) I1.kIn hm.kp (run_fnS (us := [.ref a]) (vs := [.ref a]) F hr hb (hx σ) I1 (.cons rfl .nil) q)
theorem mtd_of {W : WX} {σ : L2.St} {H : Hp} {Q : VK} (T : Kd X.K X.mg x) (h : TD (Cx.gm X) W (eMtd x m F mo ms) σ H Q) (hl : ∀ ds env h0 h1, ms env h0 = .ok ds h1 → ds.length + 1 = ps.length) :
    tMethS T.C m (spD (Cx.gm X) ps.length F) (WE W) (TD (Cx.gm X) W mo) (TDa (Cx.gm X) W ms) σ H Q := by
  have h := At.seq (m := mo) (f := fun env o h1 => if isIns x m o h1 = true then (ms env h1).bind fun ds h2 => F (o :: ds) h2 else .stuck) h
  obtain ⟨rho, env, hh, R, E, p⟩ := h
  refine ⟨rho, env, hh, R, E, ?_⟩
  cases e : mo env hh with
  | ok od hh1 =>
    rw [e] at p
    intro rho1 H1 ov S1 R1 q1
    obtain ⟨rho2, env2, hh2, d, R2, E2, q2, p2⟩ := p rho1 H1 ov S1 R1 q1
    by_cases c : isIns x m d hh2 = true
    · rw [if_pos c] at p2
      obtain ⟨a, dx, fvs, ea, eb, el⟩ := isIns_of (mg := X.mg) T R2 q2 c
      refine ⟨a, dx, fvs, ea, eb, el, rho2, env2, hh2, R2, E2, ?_⟩
      cases e2 : ms env2 hh2 with
      | ok ds hh3 =>
        rw [e2, bind_ok] at p2
        intro rho3 H3 vs S3 R3 q3
        refine ⟨?_, rho3, hh3, d :: ds, R3, ?_, p2.start S3⟩
        · show vs.length + 1 = _
          rw [← q3.length, hl _ _ _ _ e2]
        · exact ⟨ov, vs, rfl, Den.step R2 S3 _ _ q2, q3⟩
      | err y hh3 => rw [e2, bind_err] at p2; exact p2
      | stuck => rw [e2, bind_stuck] at p2; exact p2.elim
    · rw [if_neg c] at p2; exact p2.elim
  | err y hh1 => rw [e] at p; exact p
  | stuck => rw [e] at p; exact p
theorem de_mtd {n : Nat} {pl : Sem Bool} {f : Addr} (T : Kd X.K X.mg x) (hm : Meth X.K T.C m f) (Fn : FnD X.prog X.w X.K X.mg X.base k f fd ps F) (hr : Room k X.A) (hb : Binds X.K fd ps []) (ho : DE X o mo) (ha : DAn X (e :: es) n ms) (hn : n + 1 = ps.length := by rfl)
    (hst : starEach (e :: es) X.env = (false, eval e X.env) :: starEach es X.env := by rfl) (hpl : (backTo pos (starEach es X.env)).any (·.1) = false := by rfl)
    (ht : eval (.Call (.Attribute o m apos) (e :: es) [] pos) X.env = (do
      let ov ← eval o X.env
      standAt apos.atName
      let (f, first) ← holding [ov] (getMethod ov m pl)
      callWith pos f first (backTo pos (starEach (e :: es) X.env)) (backToKw pos (keywordEach [] X.env))) := by rfl) :
    DE X (.Call (.Attribute o m apos) (e :: es) [] pos) (eMtd x m F mo ms) :=
  ⟨fun W tk => pe_weak (pe_methX (E := WE W) (ho.run W tk) T.cl hm Fn hr hb (passAt tk) (ha.da.run W tk) hst hpl ht) fun σ H Q h => mtd_of T h fun ds env h0 h1 e => by rw [ha.n _ _ _ _ e, hn]⟩
theorem de_mtd0 {pl : Sem Bool} {f : Addr} (T : Kd X.K X.mg x) (hm : Meth X.K T.C m f) (Fn : FnD X.prog X.w X.K X.mg X.base k f fd ps F) (hr : Room k X.A) (hb : Binds X.K fd ps []) (ho : DE X o mo) (hn : ps.length = 1 := by rfl)
    (ht : eval (.Call (.Attribute o m apos) [] [] pos) X.env = (do
      let ov ← eval o X.env
      standAt apos.atName
      let (f, first) ← holding [ov] (getMethod ov m pl)
      callWith pos f first (backTo pos (starEach [] X.env)) (backToKw pos (keywordEach [] X.env))) := by rfl) :
    DE X (.Call (.Attribute o m apos) [] [] pos) (eMtd x m F mo aNil) :=
  ⟨fun W tk => pe_weak (pe_methX0 (E := WE W) (ho.run W tk) T.cl hm Fn hr hb (passAt tk) ht) fun σ H Q h => by
    have := mtd_of (W := W) T h (ps := ps) (fun ds env h0 h1 e => by cases e; exact hn.symm)
    obtain ⟨rho, env, hh, R, E, p⟩ := this
    refine ⟨rho, env, hh, R, E, ?_⟩
    cases e : mo env hh with
    | ok od hh1 =>
      rw [e] at p
      intro rho1 H1 ov S1 R1 q1
      obtain ⟨a, dx, fs, h1, h2, h3, rho2, env2, hh2, R2, E2, p2⟩ := p rho1 H1 ov S1 R1 q1
      exact ⟨a, dx, fs, h1, h2, h3, p2 rho2 H1 [] .refl R2 rfl⟩
    | err y hh1 => rw [e] at p; exact p
    | stuck => rw [e] at p; exact p⟩
/-! ### C(..) -/
def eMake (x : Str) (F : MF) (ms : MA) : ME := fun env h => (ms env h).bind fun ds h1 => (F (.ref h1.length :: ds) (h1 ++ [.ins x []])).bind fun d h2 => match d with
  | .non => .ok (.ref h1.length) h2
  | _ => .stuck
theorem run_makeS {CX : CXT} {C : Addr} {sp : Sp} {E : L2.St → XK} {pins : List (Addr × Obj)} {σ : L2.St} {H : Hp} {s : Shared} {Q : VK} {us : List Value} {vs : List V} (M : Mk X.K C g) (F : FnOk X.prog X.w X.K X.mg X.base CX k g fd ps sp) (hr : Room (k + 1) X.A) (hb : Binds X.K fd ps [])
    (hx : PassesAt CX X σ (E σ)) (I : Inv X pins σ H s) (r : Vals vs us)
    (h : ∀ x dx, H x = none → H dx = none → dx ≠ x → sp (.ref x :: vs) (upd (upd H dx (.own x)) x (.ins C dx [])) (fun v H2 => v = .non ∧ Q (.ref x) H2) (E σ)) :
    wpAny (model X.prog X.w) X.A (call (.ref C) us) (EP X pins σ Q) X.xe s := by
  have hq := h (s.heap.objs.size + 1) s.heap.objs.size (I.hok.fresh (Nat.le_succ _)) (I.hok.fresh (Nat.le_refl _)) (Nat.ne_of_lt (Nat.lt_succ_self _))
  have I2 := Inv.made (C := C) I
  have r2 : Vals (V.ref (s.heap.objs.size + 1) :: vs) (Value.ref (s.heap.objs.size + 1) :: us) := .cons rfl r
  have hl : (Value.ref (s.heap.objs.size + 1) :: us).length = ps.length := by
    have e := r2.length
    rw [F.len _ _ _ _ hq] at e
    exact e.symm
  have b := hb _ (Value.ref (s.heap.objs.size + 1) :: us) I2.kIn (by rw [List.append_nil]; exact hl)
  rw [List.append_nil] at b
  refine wpAny_call (make_map (f := g) I.kIn M.makes M.init (beq_iff_eq.mp M.fn) (codeAny_mono (F.run _ X.stack _ _ ⟨Value.ref (s.heap.objs.size + 1) :: us, []⟩ (Value.ref (s.heap.objs.size + 1) :: us) _ _ (E σ) (hr.make C us [])
    (I2.env0.make C us []) b r2 hq) fun r s' hq' => ?_))
  cases r with
  | error e => exact hx pins _ _ e s' I2 hq'
  | ok fl =>
    cases fl with
    | ret u =>
      obtain ⟨v, H', I3, rv, ev, q3⟩ := I2.after hq'
      subst ev
      exact ⟨rv, ⟨V.ref (s.heap.objs.size + 1), H', I3, rfl, q3⟩⟩
    | next => exact False.elim hq'
    | brk => exact False.elim hq'
    | cont => exact False.elim hq'
def tMakeS (C : Addr) (sp : Sp) (E : L2.St → XK) (t : TA) : TE := fun σ H Q => t σ H fun vs H1 => ∀ x dx, H1 x = none → H1 dx = none → dx ≠ x →
  sp (.ref x :: vs) (upd (upd H1 dx (.own x)) x (.ins C dx [])) (fun v H2 => v = .non ∧ Q (.ref x) H2) (E σ)
theorem pe_makeX {CX : CXT} {C : Addr} {sp : Sp} {E : L2.St → XK} {t : TA} (M : Mk X.K C g) (F : FnOk X.prog X.w X.K X.mg X.base CX k g fd ps sp) (hr : Room (k + 1) X.A) (hg : Gl X x) (hm : X.mg x = some (.ref C)) (hb : Binds X.K fd ps []) (hx : ∀ σ, PassesAt CX X σ (E σ))
    (ha : PA X (e :: es) t) (hdb : (x == ("__debug__" : Str)) = false := by decide) (he : starEach (e :: es) X.env = (false, eval e X.env) :: starEach es X.env := by rfl) (hpl : (backTo pos (starEach es X.env)).any (·.1) = false := by rfl) :
    PE X (.Call (.Name x p) (e :: es) [] pos) (tMakeS C sp E t) := by
  refine ⟨fun pins s σ H Q I h => ?_⟩
  refine wpAny_Call_Name_kw (ld_glob I hg hm ?_ hdb)
  refine PySem.W.callWith_K (h₀ := X.base) I.ok.mod.kin M.kp (thn (ha.run pos pins s σ H _ I h) fun us s1 ⟨vs, H1, I1, r, q⟩ => ⟨I1.kIn, ?_⟩) he hpl
  exact run_makeS M F hr hb (hx σ) I1 r q
theorem pe_makeX0 {CX : CXT} {C : Addr} {sp : Sp} {E : L2.St → XK} (M : Mk X.K C g) (F : FnOk X.prog X.w X.K X.mg X.base CX k g fd ps sp) (hr : Room (k + 1) X.A) (hg : Gl X x) (hm : X.mg x = some (.ref C)) (hb : Binds X.K fd ps []) (hx : ∀ σ, PassesAt CX X σ (E σ))
    (hdb : (x == ("__debug__" : Str)) = false := by decide) : PE X (.Call (.Name x p) [] [] pos) (tMakeS C sp E tNil) := by
  refine ⟨fun pins s σ H Q I h => ?_⟩
  refine wpAny_Call_Name_kw (ld_glob I hg hm ?_ hdb)
  exact PySem.W.callWith_K0 I.kIn M.kp (run_makeS (us := []) M F hr hb (hx σ) I .nil h)
theorem make_sp {W : WX} {σ : L2.St} {H1 : Hp} {Q : VK} {rho1 : Rm} {hh1 : Hh} {ds : List D} {vs : List V} (T : Kd X.K X.mg x) (hl : ds.length + 1 = ps.length) (R1 : Rep (Cx.gm X) rho1 hh1 H1) (q : Dens (Cx.gm X) rho1 H1 ds vs)
    (p : PostE (Cx.gm X) (Den (Cx.gm X)) (wAt W σ) rho1 H1 ((F (.ref hh1.length :: ds) (hh1 ++ [.ins x []])).bind fun d h2 => match d with
      | .non => .ok (.ref hh1.length) h2
      | _ => .stuck) Q) :
    ∀ a dx, H1 a = none → H1 dx = none → dx ≠ a → spD (Cx.gm X) ps.length F (.ref a :: vs) (upd (upd H1 dx (.own a)) a (.ins T.C dx [])) (fun v H2 => v = .non ∧ Q (.ref a) H2) (WE W σ) := fun a dx na nd ne => by
  have S1 : Step rho1 H1 rho1 (upd H1 dx (.own a)) := .laid nd
  have R2 := R1.laid (o := .own a) nd
  have na' : upd H1 dx (HO.own a) a = none := by rw [upd_ne (Ne.symm ne)]; exact na
  have S2 : Step rho1 (upd H1 dx (.own a)) (rho1.add a) (upd (upd H1 dx (.own a)) a (.ins T.C dx [])) := .laidN na'
  have R3 : Rep (Cx.gm X) (rho1.add a) (hh1 ++ [.ins x []]) (upd (upd H1 dx (.own a)) a (.ins T.C dx [])) := R2.laidN na' ⟨T.C, dx, [], T.a, upd_same, by rw [upd_ne ne, upd_same], .nil⟩
  have S := S1.trans S2
  have ea : (rho1.add a).at_[hh1.length]? = some a := by
    show (rho1.at_ ++ [a])[hh1.length]? = some a
    rw [← R1.len]; simp
  refine ⟨?_, rho1.add a, _, .ref hh1.length :: ds, R3, ⟨.ref a, vs, rfl, ⟨a, ea, rfl⟩, Dens.step R1 S _ _ q⟩, ?_⟩
  · show vs.length + 1 = _
    rw [← q.length, hl]
  · cases e : F (.ref hh1.length :: ds) (hh1 ++ [.ins x []]) with
    | ok d hh2 =>
      rw [e, bind_ok] at p
      intro rho2 H2 v S3 R4 qv
      cases d with
      | non =>
        refine ⟨qv, ?_⟩
        exact p rho2 H2 (.ref a) (S.trans S3) R4 ⟨a, S3.get ea, rfl⟩
      | _ => exact p.elim
    | err y hh2 =>
      rw [e, bind_err] at p
      exact PostE.start (Rl := Den (Cx.gm X)) (Q := Q) (r := .err y hh2) p S
    | stuck => rw [e, bind_stuck] at p; exact p.elim
theorem de_make {n : Nat} {qual : Str} {st : Stmt} (T : Kd X.K X.mg x) (M : Md X.K T.C "__init__" qual st ps) (Fn : FnD X.prog X.w X.K X.mg X.base k M.f M.fd ps F) (hr : Room (k + 1) X.A) (hg : Gl X x) (ha : DAn X (e :: es) n ms) (hn : n + 1 = ps.length := by rfl)
    (hdb : (x == ("__debug__" : Str)) = false := by decide) (he : starEach (e :: es) X.env = (false, eval e X.env) :: starEach es X.env := by rfl) (hpl : (backTo pos (starEach es X.env)).any (·.1) = false := by rfl) :
    DE X (.Call (.Name x p) (e :: es) [] pos) (eMake x F ms) :=
  ⟨fun W tk => pe_weak (pe_makeX (E := WE W) (Md.init T M) Fn hr hg T.g M.b (passAt tk) (ha.da.run W tk) hdb he hpl) fun σ H Q h => by
    obtain ⟨rho, env, hh, R, E, p⟩ := h
    refine ⟨rho, env, hh, R, E, ?_⟩
    unfold eMake at p
    cases e : ms env hh with
    | ok ds hh1 =>
      rw [e, bind_ok] at p
      intro rho1 H1 vs S R1 q
      exact make_sp T (by rw [ha.n _ _ _ _ e, hn]) R1 q (p.start S)
    | err y hh1 => rw [e, bind_err] at p; exact p
    | stuck => rw [e, bind_stuck] at p; exact p⟩
theorem de_make0 {qual : Str} {st : Stmt} (T : Kd X.K X.mg x) (M : Md X.K T.C "__init__" qual st ps) (Fn : FnD X.prog X.w X.K X.mg X.base k M.f M.fd ps F) (hr : Room (k + 1) X.A) (hg : Gl X x) (hn : 1 = ps.length := by rfl)
    (hdb : (x == ("__debug__" : Str)) = false := by decide) : DE X (.Call (.Name x p) [] [] pos) (eMake x F aNil) :=
  ⟨fun W tk => pe_weak (pe_makeX0 (E := WE W) (Md.init T M) Fn hr hg T.g M.b (passAt tk) hdb) fun σ H Q h => by
    obtain ⟨rho, env, hh, R, E, p⟩ := h
    exact make_sp (ds := []) T hn R rfl p⟩
/-! ### try: a body that raises nothing -/
def sThru (m : MS) : MS := fun env h => match m env h with
  | .er _ _ _ => .stuck
  | r => r
theorem ds_thru {body : List Stmt} {h₀ : ExceptHandler} {hs : List ExceptHandler} {mb : MS} (hb : DSs X.nox body mb) : DS X (.Try body (h₀ :: hs) [] [] pos) (sThru mb) :=
  ⟨fun W tk => ps_weak (ps_try_thru0 (hb.run WF takes0)) fun De σ H ⟨rho, env, hh, R, E, p⟩ => ⟨rho, env, hh, R, E, by
    unfold sThru at p
    cases e : mb env hh with
    | er y env' h' => rw [e] at p; exact p.elim
    | nx env' h' => rw [e] at p; exact p
    | rt d h' => rw [e] at p; exact p
    | bk env' h' => rw [e] at p; exact p
    | ct env' h' => rw [e] at p; exact p
    | stuck => rw [e] at p; exact p.elim⟩⟩
end
end MR

/-! F29: len(set(xs)): xs numbers below 64, or one text at most. -/
namespace MR
open PySem PySem.Spec PyProof.Rows L2

/-- how many unlike ones -/
def setN (ns : List Int) : Nat := (firstMet (fun i => ns.getD i 0) ns.length).length
def lenSetO (d : D) (h : Hh) : Option D := (seqL d h).bind fun ds => match intsOf ds with
  | some ns => if ns.length < 64 then some (.int (setN ns)) else none
  | none => match ds with
    | [.str _] => some (.int 1)
    | _ => none
def eLenSet (m : ME) : ME := fun env h => (m env h).bind fun d h1 => lift (lenSetO d h1) h1
section
variable {X : Cx} {a : Expr} {ta : TE} {m : ME} {p p2 q pos : Pos}
def tSetN (K : PySem.W.Frag) (ta : TE) : TE := fun σ H Q => ta σ H fun x H1 => ∃ l n, x = .ref l ∧ ((∃ ns : List Int, SqL K H1 l (ns.map V.int) ∧ ns.length < 64 ∧ n = setN ns) ∨ ∃ t : Str, SqL K H1 l [V.str t] ∧ n = 1) ∧ Q (.int (n : Nat)) H1
theorem pe_setN (calm : X.calm = true) (gl : Gl X "len") (gn : X.mg "len" = none) (gs : Gl X "set") (gsn : X.mg "set" = none) (arg : PE X a ta)
    (sa : starEach [a] X.env = (false, eval a X.env) :: starEach [] X.env) : PE X (.Call (.Name "len" p) [.Call (.Name "set" p2) [a] [] q] [] pos) (tSetN X.K ta) :=
  ⟨fun pins st σ H Q inv hyp => by
    refine Call_ (ld_blt inv gl gn boot_len ?_)
    apply PyProof.Rows.callWith_builtin1 _ rfl rfl
    apply PyProof.Rows.args_cons _ rfl
    refine Call_ (ld_blt inv gs gsn boot_set ?_)
    apply PyProof.Rows.callWith_type1 _ sa rfl
    apply PyProof.Rows.args_cons _ sa
    apply thn (arg.run pins st σ H _ inv hyp)
    rintro v st1 ⟨x, H1, J, rv, l, n, rfl, alt, goal⟩
    apply PyProof.Rows.args_nil
    cases rv
    have last : ∀ (k : Str ⊕ Unit) (hp : Heap) (tk : Nat), (∃ o es ep t, hp.get? st1.heap.objs.size = some o ∧ o.ExactSet ∧ o.data = .set es ep t ∧ t.fits es.size = true ∧ es.size = n) → n < 100000 →
        (∀ b o, b < st1.heap.objs.size → st1.heap.get? b = some o → hp.get? b = some o) →
        wpAny (model X.prog X.w) X.A (spliced (backTo pos (starEach [] X.env))) (fun vs s₂ => wpAny (model X.prog X.w) X.A (call (.builtin "len") (Value.ref st1.heap.objs.size :: vs)) (EP X pins σ Q) X.xe s₂) X.xe { st1 with heap := hp, toks := tk } := fun _ hp tk ⟨o, es, ep, t, e1, e2, e3, e4, e5⟩ small keep => by
      apply PyProof.Rows.args_nil
      have J2 : Inv X pins σ H1 { st1 with heap := hp, toks := tk } := J.kept fun b ob e => keep b ob (Heap.lt_size e) e
      exact call_len_set e1 e2 e3 e4 (by rw [e5]; omega) ⟨.int n, H1, J2.tok _, ⟨_, by rw [e5]⟩, goal⟩
    rcases alt with ⟨ns, at_, small, rfl⟩ | ⟨t, at_, rfl⟩
    · obtain ⟨its, r, pl, _⟩ := J.list at_
      have len : its.toArray.size = ns.length := by rw [List.size_toArray, ← r.length, List.length_map]
      have le := firstMet_length_le (fun i => ns.getD i 0) ns.length
      apply call_set_list (J.ok.hd calm) pl.isList (ns := ns) (by simpa using r.ints) (by unfold scanBound; omega)
      intro hp tk made keep
      rw [len] at made
      obtain ⟨o, es, ep, t, e1, e2, e3, _, _, _, e4, e5⟩ := made
      exact last (.inr ()) hp tk ⟨o, es, ep, t, e1, e2, e3, e4, e5⟩ (by unfold setN; omega) keep
    · obtain ⟨its, r, pl, _⟩ := J.list at_
      have len : its.toArray.size = 1 := by rw [List.size_toArray, ← r.length]; rfl
      apply SS.call_set_listS (J.ok.hd calm) pl.isList (xs := [t]) (by simpa using strsAre_of (ys := [t]) r) (Nat.le_refl 1)
      intro hp tk made keep
      rw [len] at made
      obtain ⟨o, es, ep, t, e1, e2, e3, _, _, _, e4, e5⟩ := made
      exact last (.inr ()) hp tk ⟨o, es, ep, t, e1, e2, e3, e4, e5⟩ (by omega) keep⟩
theorem de_lenSet (calm : X.calm = true) (gl : Gl X "len") (gn : X.mg "len" = none) (gs : Gl X "set") (gsn : X.mg "set" = none) (ha : DE X a m)
    (sa : starEach [a] X.env = (false, eval a X.env) :: starEach [] X.env := by rfl) : DE X (.Call (.Name "len" p) [.Call (.Name "set" p2) [a] [] q] [] pos) (eLenSet m) :=
  ⟨fun W tk => pe_weak (pe_setN calm gl gn gs gsn (ha.run W tk) sa) fun σ H Q h => by
    refine tE_of (f := fun env d h1 => lift (lenSetO d h1) h1) h fun rho env hh H1 d v R E qd p => ?_
    obtain ⟨z, ez, p⟩ := lift_post p
    obtain ⟨ds, e1, e2⟩ := Option.bind_eq_some_iff.mp ez
    obtain ⟨l, us, rfl, hs, _, qz⟩ := seqL_of R qd e1
    split at e2
    · rename_i ns ei
      split at e2
      · rename_i hl
        cases e2
        have := intsOf_of qz ei
        subst this
        exact ⟨l, _, rfl, .inl ⟨ns, SqL.of hs, hl, rfl⟩, p.val R rfl⟩
      · cases e2
    · split at e2
      · rename_i t _
        cases e2
        obtain ⟨v, rfl, hv⟩ := dens_one qz
        have hv : v = .str t := hv
        subst hv
        exact ⟨l, 1, rfl, .inr ⟨t, SqL.of hs, rfl⟩, p.val R rfl⟩
      · cases e2⟩
end
end MR

/-! F30: sorted(xs), xs numbers below 64. -/
namespace MR
open PySem PySem.Spec PyProof.Rows L2

def sortI (ns : List Int) : List Int := ns.mergeSort fun a b => decide (a ≤ b)
theorem sortI_perm (ns : List Int) : (sortI ns).Perm ns := List.mergeSort_perm _ _
theorem sortI_le (ns : List Int) : (sortI ns).Pairwise (· ≤ ·) := by
  have := List.pairwise_mergeSort (le := fun a b : Int => decide (a ≤ b)) (fun a b c h1 h2 => by simp only [decide_eq_true_eq] at *; omega) (fun a b => by simp only [Bool.or_eq_true, decide_eq_true_eq]; omega) ns
  exact this.imp fun h => of_decide_eq_true h
theorem sorted_one : ∀ {a b : List Int}, a.Perm b → a.Pairwise (· ≤ ·) → b.Pairwise (· ≤ ·) → a = b
  | [], b, p, _, _ => (List.nil_perm.mp p).symm
  | x :: a, [], p, _, _ => by have := p.length_eq; simp at this
  | x :: a, y :: b, p, h1, h2 => by
    rw [List.pairwise_cons] at h1 h2
    have e : x = y := by
      have m1 : x ∈ y :: b := p.mem_iff.mp List.mem_cons_self
      have m2 : y ∈ x :: a := p.mem_iff.mpr List.mem_cons_self
      rcases List.mem_cons.mp m1 with e | m1
      · exact e
      · rcases List.mem_cons.mp m2 with e | m2
        · exact e.symm
        · have := h1.1 y m2; have := h2.1 x m1; omega
    subst e
    rw [sorted_one ((List.perm_cons x).mp p) h1.2 h2.2]
def sortO : OpN := fun ds h => match ds with
  | [d] => ((seqL d h).bind intsOf).bind fun ns => if ns.length < 64 then some (.lst ((sortI ns).map D.int)) else none
  | _ => none
theorem dens_sints {G : Gm} {rho : Rm} {H : Hp} : ∀ ns : List Int, Dens G rho H (ns.map D.int) (ns.map V.int)
  | [] => by rw [List.map_nil, Dens]; rfl
  | n :: ns => by
    rw [List.map_cons, List.map_cons, Dens]
    exact ⟨_, _, rfl, rfl, dens_sints ns⟩
theorem rz_sorted {G : Gm} : RzN G (rSorted G.K) sortO := fun rho hh H ds vs d Q R q e k => by
  unfold sortO at e
  split at e
  · obtain ⟨ns, e1, e4⟩ := Option.bind_eq_some_iff.mp e
    obtain ⟨xs, e2, e3⟩ := Option.bind_eq_some_iff.mp e1
    obtain ⟨v, rfl, qv⟩ := dens_one q
    obtain ⟨a, us, rfl, hs, l, z⟩ := seqL_of R qv e2
    have := intsOf_of z e3
    subst this
    split at e4
    · rename_i h64
      cases e4
      refine ⟨a, ns, rfl, SqL.of hs, h64, fun ns' p hp ho hn => ?_⟩
      have : ns' = sortI ns := sorted_one (hp.trans (sortI_perm ns).symm) ho (sortI_le ns)
      subst this
      have le : ((sortI ns).map V.int).length ≤ sizeLine := by
        rw [List.length_map, (sortI_perm ns).length_eq]
        have : (64 : Nat) ≤ sizeLine := by decide
        omega
      exact k _ _ (.laid hn) (R.laid hn) (den_lst_new R (dens_sints _) le hn)
    · cases e4
  · cases e
end MR

/-! F31: texts: str(n), f-strings, join, text * 0/1, a dict of texts of the module. -/
namespace MR
open PySem PySem.Spec PyProof.Rows L2

def str1O : OpN := fun ds _ => match ds with
  | [.int i] => if i.natAbs.log2 < 1920 then some (.str (toString i)) else none
  | [.non] => some (.str "None")
  | _ => none
def rStrA : List V → Hp → VK → Prop := fun xs H Q => (∃ i, xs = [V.int i] ∧ i.natAbs.log2 < 1920 ∧ Q (.str (toString i)) H) ∨ (xs = [V.non] ∧ Q (.str "None") H)
theorem call_strN {X : Cx} : CallR X (.type "str") (fun xs H Q => xs = [V.non] ∧ Q (.str "None") H) := by
  intro pins st σ H xs us Q inv r h
  obtain ⟨rfl, goal⟩ := h
  obtain ⟨u, rfl, ru⟩ := vals1 r
  have ru : u = Value.none := ru
  subst ru
  exact P.str_of_none ⟨.str "None", H, inv.tok _, ⟨_, rfl⟩, goal⟩
theorem call_strA {X : Cx} : CallR X (.type "str") rStrA := call_str_int.or call_strN
theorem rz_str1 {G : Gm} : RzN G rStrA str1O := fun rho hh H ds vs d Q R q e k => by
  unfold str1O at e
  split at e
  · rename_i i
    split at e
    · rename_i hl
      cases e
      obtain ⟨v, rfl, h⟩ := dens_one q
      exact .inl ⟨i, by rw [show v = .int i from h], hl, k _ H .refl R rfl⟩
    · cases e
  · cases e
    obtain ⟨v, rfl, h⟩ := dens_one q
    exact .inr ⟨by rw [show v = .non from h], k _ H .refl R rfl⟩
  · cases e
/-! ### text * 0, text * 1 -/
def mulC : Op2 := fun a b h => match a, b with
  | .str x, .int k => if 0 ≤ k ∧ k ≤ 1 then some (.str (if k = 1 then x else Str.empty)) else none
  | a, b => mulB a b h
def rMulS : R2 := fun x y H Q => ∃ i k, x = .str i ∧ y = .int k ∧ (0 ≤ k ∧ k ≤ 1) ∧ Q (.str (if k = 1 then i else Str.empty)) H
def rMulC (K : PySem.W.Frag) : R2 := fun x y H Q => rMulB K x y H Q ∨ rMulS x y H Q
theorem op_mulS {X : Cx} : OpR X (binaryOp .Mult) rMulS := by
  intro pins s σ H x y v u Q inv rx ry hyp
  obtain ⟨i, k, rfl, rfl, hk, goal⟩ := hyp
  obtain ⟨t, rfl⟩ := rx
  obtain ⟨t2, rfl⟩ := ry
  have small : ¬ k < 1 → (k == 1 || i.length == 0) = true := fun h => by
    have : k = 1 := by omega
    subst this; rfl
  refine SB.mul (x := i) (n := k) ⟨?_, fun a b => absurd (small a) (by rw [b]; decide), fun a b => absurd (small a) (by rw [b]; decide)⟩ fun t' tk => ?_
  · rw [decide_eq_false (by omega), decide_eq_false (by omega)]; rfl
  · have e : Txt.mul i k = if k = 1 then i else Str.empty := by
      unfold Txt.mul
      by_cases h : k < 1
      · rw [if_pos h, if_neg (by omega)]
      · rw [if_neg h, if_pos (small h), if_pos (by omega)]
    exact ⟨.str (if k = 1 then i else Str.empty), H, inv.tok _, ⟨t', by rw [e]⟩, goal⟩
theorem op_mulC {X : Cx} : OpR X (binaryOp .Mult) (rMulC X.K) := op_mulB.or op_mulS
theorem rz_mulC {G : Gm} : Rz2 G (rMulC G.K) mulC := fun rho hh H d1 d2 v1 v2 d Q R q1 q2 e k => by
  unfold mulC at e
  split at e
  · rename_i x n
    split at e
    · rename_i hl
      cases e
      exact .inr ⟨x, n, q1, q2, hl, k _ H .refl R rfl⟩
    · cases e
  · exact .inl (rz_mulB rho hh H d1 d2 v1 v2 d Q R q1 q2 e k)
@[simp] theorem ev_mulCI (i j : Int) (h : Hh) : mulC (.int i) (.int j) h = mulB (.int i) (.int j) h := rfl
/-! ### f-strings -/
def fmtD : D → Option D
  | .str y => if y.length ≤ sizeLine then some (.str y) else none
  | .int i => if i.natAbs.log2 < 1920 then some (.str (toString i)) else none
  | _ => none
def eFmt (m : ME) : ME := fun env h => (m env h).bind fun d h1 => lift (fmtD d) h1
def eJs : List ME → Str → ME
  | [], acc => fun _ h => .ok (.str acc) h
  | m :: ms, acc => fun env h => (m env h).bind fun d h1 => match d with
    | .str y => if (acc ++ y).length ≤ sizeLine then eJs ms (acc ++ y) env h1 else .stuck
    | _ => .stuck
def eJoined (ms : List ME) : ME := eJs ms Str.empty
section
variable {X : Cx}
theorem de_fmt {e : Expr} {m : ME} {pos : Pos} (he : DE X e m) : DE X (.FormattedValue e (-1) none pos) (eFmt m) :=
  ⟨fun W tk => pe_weak (pe_fmt (he.run W tk)) fun σ H Q h => by
    refine tE_of (f := fun env d h1 => lift (fmtD d) h1) h fun rho env hh H1 d v R E qd p => ?_
    obtain ⟨z, ez, p⟩ := lift_post p
    unfold fmtD at ez
    split at ez
    · rename_i y
      split at ez
      · rename_i hl
        cases ez
        exact .inl ⟨y, qd, hl, p.val R rfl⟩
      · cases ez
    · rename_i i
      split at ez
      · rename_i hl
        cases ez
        exact .inr ⟨i, qd, hl, p.val R rfl⟩
      · cases ez
    · cases ez⟩
inductive DJ (X : Cx) : List Expr → List ME → Prop where
  | nil : DJ X [] []
  | cons {e : Expr} {m : ME} {es : List Expr} {ms : List ME} (h : DE X e m) (r : DJ X es ms) : DJ X (e :: es) (m :: ms)
theorem DJ.pj {W : WX} (tk : Takes X W) : ∀ {es : List Expr} {ms : List ME}, DJ X es ms → PJ X es (ms.map fun m => TD (Cx.gm X) W m)
  | _, _, .nil => .nil
  | _, _, .cons h r => .cons (h.run W tk) (DJ.pj tk r)
theorem js_of {W : WX} {σ : L2.St} {Q : VK} : ∀ (ms : List ME) (acc : Str) (H : Hp), TD (Cx.gm X) W (eJs ms acc) σ H Q → tJs (ms.map fun m => TD (Cx.gm X) W m) acc σ H fun out H1 => Q (.str out) H1
  | [], acc, H, h => by
    obtain ⟨rho, env, hh, R, E, p⟩ := h
    have p : PostE (Cx.gm X) (Den (Cx.gm X)) (wAt W σ) rho H (.ok (.str acc) hh) Q := p
    exact p.val R rfl
  | m :: ms, acc, H, h => by
    refine tE_of (f := fun env d h1 => match d with
      | .str y => if (acc ++ y).length ≤ sizeLine then eJs ms (acc ++ y) env h1 else .stuck
      | _ => .stuck) h fun rho env hh H1 d v R E qd p => ?_
    cases d with
    | str y =>
      simp only at p
      split at p
      · rename_i hl
        exact ⟨y, qd, hl, js_of ms (acc ++ y) H1 ⟨rho, env, hh, R, E, p⟩⟩
      · exact p.elim
    | _ => exact p.elim
theorem de_joined {v1 v2 : Expr} {rest : List Expr} {ms : List ME} {pos : Pos} (h : DJ X (v1 :: v2 :: rest) ms) : DE X (.JoinedStr (v1 :: v2 :: rest) pos) (eJoined ms) :=
  ⟨fun W tk => pe_weak (pe_joined (h.pj tk)) fun σ H Q q => js_of ms Str.empty H q⟩
end
/-! ### sep.join(xs) -/
def strsOf : List D → Option (List Str)
  | [] => some []
  | .str x :: r => (strsOf r).map (x :: ·)
  | _ :: _ => none
theorem strsOf_of {G : Gm} {rho : Rm} {H : Hp} : ∀ {ds : List D} {vs : List V} {ns : List Str}, Dens G rho H ds vs → strsOf ds = some ns → vs = ns.map V.str
  | [], vs, ns, q, e => by
    rw [Dens] at q; subst q
    cases e; rfl
  | d :: ds, vs, ns, q, e => by
    rw [Dens] at q
    obtain ⟨v, r, rfl, a, b⟩ := q
    unfold strsOf at e
    split at e
    · rename_i z; cases z
    · rename_i i r' z
      cases z
      obtain ⟨ms, e1, rfl⟩ := Option.map_eq_some_iff.mp e
      rw [strsOf_of b e1, show v = .str i from a]; rfl
    · cases e
/-- what stands in a list or a tuple -/
def seqD (d : D) (h : Hh) : Option (List D) := match d with
  | .tup ds => some ds
  | d => seqL d h
def joinO (a : Str) (x : D) (h : Hh) : Option D := ((seqD x h).bind strsOf).bind fun ys => if (ys.map (·.length)).sum + ys.length * a.length ≤ 16777216 then some (.str (Txt.join a ys)) else none
def eJoin (ms mx : ME) : ME := fun env h => (ms env h).bind fun a h1 => match a with
  | .str s => (mx env h1).bind fun x h2 => lift (joinO s x h2) h2
  | _ => .stuck
section
variable {X : Cx} {o e : Expr} {ms mx : ME} {apos pos : Pos}
theorem de_join (ho : DE X o ms) (he : DE X e mx) (hs : starEach [e] X.env = [(false, eval e X.env)] := by rfl) (hbase : attributeBase o "join" X.env (eval o X.env) = eval o X.env := by rfl) (hline : (apos.endLine == pos.line) = true := by rfl) :
    DE X (.Call (.Attribute o "join" apos) [e] [] pos) (eJoin ms mx) :=
  ⟨fun W tk => pe_weak (pe_join (ho.run W tk) (he.run W tk) hs hbase hline) fun σ H Q h => by
    refine tE_of (f := fun env a h1 => match a with
      | .str s => (mx env h1).bind fun x h2 => lift (joinO s x h2) h2
      | _ => .stuck) h fun rho env hh H1 d v R E qd p => ?_
    cases d with
    | str s =>
      simp only at p
      have qd : v = V.str s := qd
      subst qd
      refine ⟨⟨s, rfl⟩, ?_⟩
      refine tE2_of (d1 := .str s) (f := fun env _ x h2 => lift (joinO s x h2) h2) ⟨rho, env, hh, R, E, rfl, p⟩ fun rho env hh H2 x u R E _ qx p => ?_
      obtain ⟨z, ez, p⟩ := lift_post p
      obtain ⟨ys, e1, e4⟩ := Option.bind_eq_some_iff.mp ez
      obtain ⟨ds, e2, e3⟩ := Option.bind_eq_some_iff.mp e1
      split at e4
      · rename_i hl
        cases e4
        have fin : Q (.str (Txt.join s ys)) H2 := p.val R rfl
        unfold seqD at e2
        split at e2
        · cases e2
          rw [Den] at qx
          obtain ⟨a, ws, rfl, h1, l, zz⟩ := qx
          have := strsOf_of zz e3
          subst this
          exact ⟨s, a, ys, rfl, rfl, .inr h1.t, hl, fin⟩
        · obtain ⟨a, us, rfl, hs, l, zz⟩ := seqL_of R qx e2
          have := strsOf_of zz e3
          subst this
          exact ⟨s, a, ys, rfl, rfl, .inl (SqL.of hs), hl, fin⟩
      · cases e4
    | _ => exact p.elim⟩
end
/-! ### a dict of texts of the module, asked for one -/
def kdtO (a : Addr) (tbl : List (Str × Str)) : Op2 := fun d e _ => match d, e with
  | .glb u, .str y => if u = .ref a then (tbl.find? fun q => decide (q.1 = y)).map fun q => .str q.2 else none
  | _, _ => none
def eVerb (tbl : List (Str × Str)) (mk : ME) : ME := fun env h => (mk env h).bind fun e h1 => match e with
  | .str y => lift ((tbl.find? fun q => decide (q.1 = y)).map fun q => D.str q.2) h1
  | _ => .stuck
theorem rz_kdt {G : Gm} {w : World} {a : Addr} {tbl : List (Str × Str)} (hk : ∀ q ∈ tbl, KDct G.K w a q.1 (.str q.2)) : Rz2 G (L2.rIxD G.K w) (kdtO a tbl) := fun rho hh H d1 d2 v1 v2 d Q R q1 q2 e k => by
  unfold kdtO at e
  split at e
  · rename_i u y
    split at e
    · rename_i hc
      obtain ⟨q, e1, e2⟩ := Option.map_eq_some_iff.mp e
      cases e2
      have q1 : v1 = u := q1
      have q2 : v2 = V.str y := q2
      have hq := List.find?_some e1
      have hq : q.1 = y := by simpa using hq
      refine ⟨a, y, .str q.2, q1.trans hc, q2, ?_, k _ H .refl R rfl⟩
      rw [← hq]
      exact hk q (List.mem_of_find?_eq_some e1)
    · cases e
  · cases e
theorem de_verb {X : Cx} {a : Addr} {tbl : List (Str × Str)} {ea eb : Expr} {mb : ME} {pp : Pos} (hk : ∀ q ∈ tbl, KDct X.K X.w a q.1 (.str q.2)) (ha : DE X ea (eC (.glb (.ref a)))) (hb : DE X eb mb) (hs : PlainIx eb := by intro _ _; rfl) : DE X (.Subscript ea eb pp) (eVerb tbl mb) := by
  have h := de_ix (X := X) (pos := pp) ix_kdict (rz_kdt (G := Cx.gm X) hk) ha hb hs
  have e : eOp2 (kdtO a tbl) (eC (.glb (.ref a))) mb = eVerb tbl mb := by
    funext env hh
    unfold eOp2 eVerb
    show ((mb env hh).bind fun y h2 => lift (kdtO a tbl (.glb (.ref a)) y h2) h2) = _
    have : (fun y h2 => lift (kdtO a tbl (.glb (.ref a)) y h2) h2) = fun (e : D) h1 => match e with
      | .str y => lift ((tbl.find? fun q => decide (q.1 = y)).map fun q => D.str q.2) h1
      | _ => .stuck := by
      funext y h2
      cases y with
      | str z => exact congrArg (fun o => lift o h2) (if_pos rfl)
      | _ => rfl
    rw [this]
  rw [e] at h
  exact h
theorem kdct_strOf {w : World} {K : PySem.W.Frag} {a : Addr} {x y : Str} {t : Tok} {es : Array DictEntry} {n : Nat} (l : K.lookup a = some ⟨.type "dict", none, .dict es n, #[]⟩) (k : PySem.W.KeysLit w.params es.toList) (e : PySem.W.nsIn K a x = some (some (.str y t))) : KDct K w a x (.str y) :=
  ⟨es, n, .str y t, l, k, e, ⟨t, rfl⟩⟩
end MR

/-! Q1: mirrors read as plain typed functions: slots, states, expressions. -/
namespace MR
open PySem PySem.Spec PyProof.Rows L2

/-- what a slot holds: a value, a thing of the def's own, a thing handed in that stands at p -/
inductive Sl where
  | v (d : D)
  | own (o : O)
  | bor (p : Nat) (o : O)
  /-- a thing that stands at p, held by another thing: no name of the def -/
  | hid (p : Nat) (o : O)
abbrev SEnv := List (Option Sl)
structure Fr where
  h0 : Hh
  B : List Nat
def Hs (s : SEnv) (i : Nat) (o : O) : Prop := s[i]? = some (some (Sl.own o)) ∨ ∃ p, s[i]? = some (some (Sl.bor p o))
structure Sat (F : Fr) (s : SEnv) (env : DEnv) (h : Hh) : Prop where
  len : env.length = s.length
  le : F.h0.length ≤ h.length
  keep : ∀ j : Nat, j < F.h0.length → j ∉ F.B → h[j]? = F.h0[j]?
  val : ∀ (i : Nat) (d : D), s[i]? = some (some (Sl.v d)) → env[i]? = some (some d)
  cell : ∀ (i : Nat) (o : O), Hs s i o → ∃ p : Nat, env[i]? = some (some (D.ref p)) ∧ h[p]? = some o
  own : ∀ (i : Nat) (o : O) (p : Nat), s[i]? = some (some (Sl.own o)) → env[i]? = some (some (D.ref p)) → F.h0.length ≤ p
  bor : ∀ (i p : Nat) (o : O), s[i]? = some (some (Sl.bor p o)) → env[i]? = some (some (D.ref p)) ∧ p < F.h0.length ∧ p ∈ F.B
  sep : ∀ (i j : Nat) (o o' : O) (p : Nat), i ≠ j → Hs s i o → Hs s j o' → env[i]? = some (some (D.ref p)) → env[j]? = some (some (D.ref p)) → False
  hid : ∀ (i p : Nat) (o : O), s[i]? = some (some (Sl.hid p o)) → h[p]? = some o
  hsep : ∀ (i j p : Nat) (o o' : O), i ≠ j → s[i]? = some (some (Sl.hid p o)) → s[j]? = some (some (Sl.hid p o')) → False
  hcs : ∀ (i j p : Nat) (o o' : O), Hs s i o → env[i]? = some (some (D.ref p)) → s[j]? = some (some (Sl.hid p o')) → False
def chS (s : SEnv) (i : Nat) (o' : O) : SEnv := match s[i]? with
  | some (some (Sl.own _)) => s.set i (some (.own o'))
  | some (some (Sl.bor p _)) => s.set i (some (.bor p o'))
  | _ => s
section
variable {F : Fr} {s s' s1 s2 : SEnv} {env env' env1 : DEnv} {h h' : Hh} {i j p : Nat} {o o' : O} {d : D}
theorem Sat.app (S : Sat F s env h) (g : Hh) : Sat F s env (h ++ g) where
  len := S.len
  le := by have := S.le; simp; omega
  keep := fun j a b => by rw [List.getElem?_append_left (by have := S.le; omega)]; exact S.keep j a b
  val := S.val
  cell := fun i o x => by
    obtain ⟨p, e, q⟩ := S.cell i o x
    exact ⟨p, e, by rw [List.getElem?_append_left (List.getElem?_eq_some_iff.mp q).1]; exact q⟩
  own := S.own
  bor := S.bor
  sep := S.sep
  hid := fun i p o e => by
    have a := S.hid i p o e
    rw [List.getElem?_append_left (List.getElem?_eq_some_iff.mp a).1]; exact a
  hsep := S.hsep
  hcs := S.hcs
theorem hs_set_v {i j : Nat} {x : Option Sl} {o : O} (h : Hs (s.set i x) j o) (n : i ≠ j) : Hs s j o := by
  unfold Hs at h ⊢
  rw [List.getElem?_set_ne n] at h
  exact h
theorem set_get {α : Type} {l : List α} {i : Nat} {x y : α} (h : (l.set i x)[i]? = some y) : y = x ∧ i < l.length := by
  by_cases hl : i < l.length
  · rw [List.getElem?_set_self hl] at h; exact ⟨(Option.some.inj h).symm, hl⟩
  · rw [List.getElem?_eq_none (by rw [List.length_set]; omega)] at h; cases h
theorem hs_set_plain {i j : Nat} {x : Option Sl} {o : O} (hx : x = none ∨ ∃ d, x = some (.v d)) (h : Hs (s.set i x) j o) : i ≠ j := by
  intro e
  subst e
  rcases h with h | ⟨p, h⟩
  · have := (set_get h).1
    rcases hx with hx | ⟨d, hx⟩ <;> rw [hx] at this <;> cases this
  · have := (set_get h).1
    rcases hx with hx | ⟨d, hx⟩ <;> rw [hx] at this <;> cases this
theorem hid_set {i j p : Nat} {x : Option Sl} {o : O} (hx : ∀ q u, x ≠ some (.hid q u)) (h : (s.set i x)[j]? = some (some (Sl.hid p o))) : i ≠ j ∧ s[j]? = some (some (Sl.hid p o)) := by
  by_cases n : i = j
  · subst n
    exact absurd (set_get h).1.symm (hx p o)
  · rw [List.getElem?_set_ne n] at h; exact ⟨n, h⟩
theorem Sat.setV (S : Sat F s env h) (i : Nat) (d : D) : Sat F (s.set i (some (Sl.v d))) (env.set i (some d)) h where
  len := by simp [S.len]
  le := S.le
  keep := S.keep
  val := fun j d' e => by
    by_cases hj : i = j
    · subst hj
      obtain ⟨e1, hl⟩ := set_get e
      cases e1
      rw [List.getElem?_set_self (by rw [S.len]; exact hl)]
    · rw [List.getElem?_set_ne hj] at e ⊢
      exact S.val j d' e
  cell := fun j o x => by
    have n := hs_set_plain (.inr ⟨d, rfl⟩) x
    obtain ⟨p, e, q⟩ := S.cell j o (hs_set_v x n)
    exact ⟨p, by rw [List.getElem?_set_ne n]; exact e, q⟩
  own := fun j o p e q => by
    have n := hs_set_plain (.inr ⟨d, rfl⟩) (Or.inl e : Hs _ j o)
    rw [List.getElem?_set_ne n] at e q
    exact S.own j o p e q
  bor := fun j p o e => by
    have n := hs_set_plain (.inr ⟨d, rfl⟩) (Or.inr ⟨p, e⟩ : Hs _ j o)
    rw [List.getElem?_set_ne n] at e ⊢
    exact S.bor j p o e
  sep := fun j k o o' p n a b e q => by
    have n1 := hs_set_plain (.inr ⟨d, rfl⟩) a
    have n2 := hs_set_plain (.inr ⟨d, rfl⟩) b
    rw [List.getElem?_set_ne n1] at e
    rw [List.getElem?_set_ne n2] at q
    exact S.sep j k o o' p n (hs_set_v a n1) (hs_set_v b n2) e q
  hid := fun j p o e => S.hid j p o (hid_set (fun _ _ z => by cases z) e).2
  hsep := fun j k p o o' n a b => S.hsep j k p o o' n (hid_set (fun _ _ z => by cases z) a).2 (hid_set (fun _ _ z => by cases z) b).2
  hcs := fun j k p o o' a e b => by
    have n1 := hs_set_plain (.inr ⟨d, rfl⟩) a
    rw [List.getElem?_set_ne n1] at e
    exact S.hcs j k p o o' (hs_set_v a n1) e (hid_set (fun _ _ z => by cases z) b).2
theorem Sat.setN (S : Sat F s env h) (i : Nat) : Sat F (s.set i none) (env.set i none) h where
  len := by simp [S.len]
  le := S.le
  keep := S.keep
  val := fun j d' e => by
    by_cases hj : i = j
    · subst hj
      obtain ⟨e1, hl⟩ := set_get e
      cases e1
    · rw [List.getElem?_set_ne hj] at e ⊢
      exact S.val j d' e
  cell := fun j o x => by
    have n := hs_set_plain (.inl rfl) x
    obtain ⟨p, e, q⟩ := S.cell j o (hs_set_v x n)
    exact ⟨p, by rw [List.getElem?_set_ne n]; exact e, q⟩
  own := fun j o p e q => by
    have n := hs_set_plain (.inl rfl) (Or.inl e : Hs _ j o)
    rw [List.getElem?_set_ne n] at e q
    exact S.own j o p e q
  bor := fun j p o e => by
    have n := hs_set_plain (.inl rfl) (Or.inr ⟨p, e⟩ : Hs _ j o)
    rw [List.getElem?_set_ne n] at e ⊢
    exact S.bor j p o e
  sep := fun j k o o' p n a b e q => by
    have n1 := hs_set_plain (.inl rfl) a
    have n2 := hs_set_plain (.inl rfl) b
    rw [List.getElem?_set_ne n1] at e
    rw [List.getElem?_set_ne n2] at q
    exact S.sep j k o o' p n (hs_set_v a n1) (hs_set_v b n2) e q
  hid := fun j p o e => S.hid j p o (hid_set (fun _ _ z => by cases z) e).2
  hsep := fun j k p o o' n a b => S.hsep j k p o o' n (hid_set (fun _ _ z => by cases z) a).2 (hid_set (fun _ _ z => by cases z) b).2
  hcs := fun j k p o o' a e b => by
    have n1 := hs_set_plain (.inl rfl) a
    rw [List.getElem?_set_ne n1] at e
    exact S.hcs j k p o o' (hs_set_v a n1) e (hid_set (fun _ _ z => by cases z) b).2
/-- a new thing is laid for a name -/
theorem Sat.setO (S : Sat F s env h) (i : Nat) (o : O) : Sat F (s.set i (some (Sl.own o))) (env.set i (some (D.ref h.length))) (h ++ [o]) := by
  have S' := S.app [o]
  have low : ∀ j o' p, Hs s j o' → env[j]? = some (some (D.ref p)) → p < h.length := fun j o' p x e => by
    obtain ⟨q, e1, e2⟩ := S.cell j o' x
    rw [e] at e1
    cases e1
    exact (List.getElem?_eq_some_iff.mp e2).1
  have self : ∀ j o', Hs (s.set i (some (Sl.own o))) j o' → i = j → o' = o ∧ (env.set i (some (D.ref h.length)))[j]? = some (some (D.ref h.length)) := fun j o' x e => by
    subst e
    rcases x with x | ⟨p, x⟩
    · obtain ⟨e1, hl⟩ := set_get x
      cases e1
      exact ⟨rfl, List.getElem?_set_self (by rw [S.len]; exact hl)⟩
    · have := (set_get x).1; cases this
  exact {
  len := by simp [S.len]
  le := S'.le
  keep := S'.keep
  val := fun j d' e => by
    by_cases hj : i = j
    · subst hj
      have := (set_get e).1; cases this
    · rw [List.getElem?_set_ne hj] at e ⊢
      exact S.val j d' e
  cell := fun j o' x => by
    by_cases hj : i = j
    · obtain ⟨rfl, e⟩ := self j o' x hj
      exact ⟨h.length, e, by simp⟩
    · obtain ⟨p, e, q⟩ := S'.cell j o' (hs_set_v x hj)
      exact ⟨p, by rw [List.getElem?_set_ne hj]; exact e, q⟩
  own := fun j o' p e q => by
    by_cases hj : i = j
    · obtain ⟨rfl, e1⟩ := self j o' (.inl e) hj
      rw [e1] at q
      cases q
      exact S.le
    · rw [List.getElem?_set_ne hj] at e q
      exact S.own j o' p e q
  bor := fun j p o' e => by
    by_cases hj : i = j
    · subst hj
      have := (set_get e).1; cases this
    · rw [List.getElem?_set_ne hj] at e ⊢
      exact S.bor j p o' e
  sep := fun j k a b p n x y e q => by
    by_cases hj : i = j
    · obtain ⟨_, e1⟩ := self j a x hj
      rw [e1] at e
      cases e
      have hk : i ≠ k := fun z => n (hj.symm.trans z)
      rw [List.getElem?_set_ne hk] at q
      exact absurd (low k b _ (hs_set_v y hk) q) (Nat.lt_irrefl _)
    · by_cases hk : i = k
      · obtain ⟨_, e1⟩ := self k b y hk
        rw [e1] at q
        cases q
        rw [List.getElem?_set_ne hj] at e
        exact absurd (low j a _ (hs_set_v x hj) e) (Nat.lt_irrefl _)
      · rw [List.getElem?_set_ne hj] at e
        rw [List.getElem?_set_ne hk] at q
        exact S.sep j k a b p n (hs_set_v x hj) (hs_set_v y hk) e q
  hid := fun j p o' e => S'.hid j p o' (hid_set (fun _ _ z => by cases z) e).2
  hsep := fun j k p a b n x y => S.hsep j k p a b n (hid_set (fun _ _ z => by cases z) x).2 (hid_set (fun _ _ z => by cases z) y).2
  hcs := fun j k p a b x e y => by
    have y' := (hid_set (fun _ _ z => by cases z) y).2
    by_cases hj : i = j
    · obtain ⟨_, e1⟩ := self j a x hj
      rw [e1] at e
      cases e
      have := (List.getElem?_eq_some_iff.mp (S.hid k _ b y')).1
      exact absurd this (Nat.lt_irrefl _)
    · rw [List.getElem?_set_ne hj] at e
      exact S.hcs j k p a b (hs_set_v x hj) e y' }
theorem chS_own (h : s[i]? = some (some (Sl.own o))) : chS s i o' = s.set i (some (.own o')) := by unfold chS; rw [h]
theorem chS_bor (h : s[i]? = some (some (Sl.bor p o))) : chS s i o' = s.set i (some (.bor p o')) := by unfold chS; rw [h]
/-- a thing is changed -/
theorem Sat.change (S : Sat F s env h) (x : Hs s i o) (e : env[i]? = some (some (D.ref p))) (o' : O) : Sat F (chS s i o') env (h.set p o') := by
  have hp : p < h.length := by
    obtain ⟨q, e1, e2⟩ := S.cell i o x
    rw [e] at e1; cases e1
    exact (List.getElem?_eq_some_iff.mp e2).1
  have hi : i < s.length := by
    rcases x with x | ⟨_, x⟩ <;> exact (List.getElem?_eq_some_iff.mp x).1
  obtain ⟨c, hc, hcc⟩ : ∃ c, chS s i o' = s.set i (some c) ∧ (c = .own o' ∧ s[i]? = some (some (Sl.own o)) ∨ ∃ q, c = .bor q o' ∧ s[i]? = some (some (Sl.bor q o))) := by
    rcases x with x | ⟨q, x⟩
    · exact ⟨_, chS_own x, .inl ⟨rfl, x⟩⟩
    · exact ⟨_, chS_bor x, .inr ⟨q, rfl, x⟩⟩
  rw [hc]
  have self : ∀ j a, Hs (s.set i (some c)) j a → i = j → a = o' := fun j a y z => by
    subst z
    rcases y with y | ⟨q, y⟩
    · have e1 := (set_get y).1
      rcases hcc with ⟨hcc, _⟩ | ⟨q, hcc, _⟩
      · rw [hcc] at e1; cases e1; rfl
      · rw [hcc] at e1; cases e1
    · have e1 := (set_get y).1
      rcases hcc with ⟨hcc, _⟩ | ⟨q, hcc, _⟩
      · rw [hcc] at e1; cases e1
      · rw [hcc] at e1; cases e1; rfl
  have back : ∀ j a, Hs (s.set i (some c)) j a → ∃ a', Hs s j a' := fun j a y => by
    by_cases hj : i = j
    · subst hj; exact ⟨o, x⟩
    · exact ⟨a, hs_set_v y hj⟩
  exact {
  len := by rw [S.len, List.length_set]
  le := by rw [List.length_set]; exact S.le
  keep := fun j a b => by
    have hj : p ≠ j := by
      rcases hcc with ⟨_, z⟩ | ⟨q, _, z⟩
      · have := S.own i o p z e; omega
      · obtain ⟨z1, z2, z3⟩ := S.bor i q o z
        rw [e] at z1
        cases z1
        intro z4
        subst z4
        exact b z3
    rw [List.getElem?_set_ne hj]
    exact S.keep j a b
  val := fun j d' e' => by
    by_cases hj : i = j
    · subst hj
      have e1 := (set_get e').1
      rcases hcc with ⟨hcc, _⟩ | ⟨q, hcc, _⟩ <;> rw [hcc] at e1 <;> cases e1
    · rw [List.getElem?_set_ne hj] at e'
      exact S.val j d' e'
  cell := fun j a y => by
    by_cases hj : i = j
    · have ea := self j a y hj
      subst hj
      subst ea
      exact ⟨p, e, List.getElem?_set_self hp⟩
    · obtain ⟨q, e1, e2⟩ := S.cell j a (hs_set_v y hj)
      refine ⟨q, e1, ?_⟩
      rw [List.getElem?_set_ne]
      · exact e2
      · intro z
        subst z
        exact S.sep i j o a p hj x (hs_set_v y hj) e e1
  own := fun j a q y z => by
    by_cases hj : i = j
    · subst hj
      rw [e] at z
      cases z
      have e1 := (set_get y).1
      rcases hcc with ⟨hcc, w⟩ | ⟨q, hcc, _⟩
      · exact S.own i o p w e
      · rw [hcc] at e1; cases e1
    · rw [List.getElem?_set_ne hj] at y
      exact S.own j a q y z
  bor := fun j q a y => by
    by_cases hj : i = j
    · subst hj
      have e1 := (set_get y).1
      rcases hcc with ⟨hcc, w⟩ | ⟨q', hcc, w⟩
      · rw [hcc] at e1; cases e1
      · rw [hcc] at e1; cases e1
        exact S.bor i q o w
    · rw [List.getElem?_set_ne hj] at y
      exact S.bor j q a y
  sep := fun j k a b q n y z e1 e2 => by
    obtain ⟨a', y'⟩ := back j a y
    obtain ⟨b', z'⟩ := back k b z
    exact S.sep j k a' b' q n y' z' e1 e2
  hid := fun j q a y => by
    have y' := (hid_set (fun _ _ w => by rcases hcc with ⟨w2, _⟩ | ⟨_, w2, _⟩ <;> rw [w2] at w <;> cases w) y).2
    have b := S.hid j q a y'
    rw [List.getElem?_set_ne (fun w => by subst w; exact S.hcs i j p o a x e y')]; exact b
  hsep := fun j k q a b n y z => by
    have y' := (hid_set (fun _ _ w => by rcases hcc with ⟨w2, _⟩ | ⟨_, w2, _⟩ <;> rw [w2] at w <;> cases w) y).2
    have z' := (hid_set (fun _ _ w => by rcases hcc with ⟨w2, _⟩ | ⟨_, w2, _⟩ <;> rw [w2] at w <;> cases w) z).2
    exact S.hsep j k q a b n y' z'
  hcs := fun j k q a b y e1 z => by
    obtain ⟨a', y'⟩ := back j a y
    have z' := (hid_set (fun _ _ w => by rcases hcc with ⟨w2, _⟩ | ⟨_, w2, _⟩ <;> rw [w2] at w <;> cases w) z).2
    exact S.hcs j k q a' b y' e1 z' }

/-- less is known -/
inductive Weak : SEnv → SEnv → Prop where
  | nil : Weak [] []
  | same {x : Option Sl} {a b : SEnv} : Weak a b → Weak (x :: a) (x :: b)
  | drop {x : Option Sl} {a b : SEnv} : Weak a b → Weak (x :: a) (none :: b)
theorem Weak.refl : ∀ s : SEnv, Weak s s
  | [] => .nil
  | _ :: s => .same (Weak.refl s)
theorem Weak.len : ∀ {a b : SEnv}, Weak a b → a.length = b.length
  | _, _, .nil => rfl
  | _, _, .same w => by simp [w.len]
  | _, _, .drop w => by simp [w.len]
theorem Weak.get : ∀ {a b : SEnv}, Weak a b → ∀ {i : Nat} {c : Sl}, b[i]? = some (some c) → a[i]? = some (some c)
  | _, _, .nil, i, c, h => by simp at h
  | _, _, .same w, 0, c, h => h
  | _, _, .same w, i + 1, c, h => by
    simp only [List.getElem?_cons_succ] at h ⊢
    exact w.get h
  | _, _, .drop w, 0, c, h => by simp at h
  | _, _, .drop w, i + 1, c, h => by
    simp only [List.getElem?_cons_succ] at h ⊢
    exact w.get h
theorem Weak.hs (w : Weak s s') (x : Hs s' i o) : Hs s i o := by
  rcases x with x | ⟨p, x⟩
  · exact .inl (w.get x)
  · exact .inr ⟨p, w.get x⟩
theorem Sat.weak (S : Sat F s env h) (w : Weak s s') : Sat F s' env h where
  len := by rw [S.len, w.len]
  le := S.le
  keep := S.keep
  val := fun i d e => S.val i d (w.get e)
  cell := fun i o x => S.cell i o (w.hs x)
  own := fun i o p e q => S.own i o p (w.get e) q
  bor := fun i p o e => S.bor i p o (w.get e)
  sep := fun i j o o' p n x y e q => S.sep i j o o' p n (w.hs x) (w.hs y) e q
  hid := fun i p o e => S.hid i p o (w.get e)
  hsep := fun i j p o o' n x y => S.hsep i j p o o' n (w.get x) (w.get y)
  hcs := fun i j p o o' x e y => S.hcs i j p o o' (w.hs x) e (w.get y)
/-- back from a comprehension -/
theorem Sat.back (S : Sat F s env h) (S1 : Sat F s1 env1 h') (hl : s'.length = s.length) (hv : ∀ (i : Nat) (d : D), s'[i]? = some (some (Sl.v d)) → s[i]? = some (some (Sl.v d)))
    (ho : ∀ (i : Nat) (c : Sl), s'[i]? = some (some c) → (∀ d, c ≠ Sl.v d) → s1[i]? = some (some c) ∧ env1[i]? = env[i]?) : Sat F s' env h' where
  len := by rw [S.len, hl]
  le := S1.le
  keep := S1.keep
  val := fun i d e => S.val i d (hv i d e)
  cell := fun i o x => by
    rcases x with x | ⟨p, x⟩
    · obtain ⟨a, b⟩ := ho i _ x (fun d z => nomatch z)
      obtain ⟨q, e1, e2⟩ := S1.cell i o (.inl a)
      exact ⟨q, by rw [← b]; exact e1, e2⟩
    · obtain ⟨a, b⟩ := ho i _ x (fun d z => nomatch z)
      obtain ⟨q, e1, e2⟩ := S1.cell i o (.inr ⟨p, a⟩)
      exact ⟨q, by rw [← b]; exact e1, e2⟩
  own := fun i o p x q => by
    obtain ⟨a, b⟩ := ho i _ x (fun d z => nomatch z)
    exact S1.own i o p a (by rw [b]; exact q)
  bor := fun i p o x => by
    obtain ⟨a, b⟩ := ho i _ x (fun d z => nomatch z)
    rw [← b]
    exact S1.bor i p o a
  sep := fun i j o o' p n x y e q => by
    have f : ∀ k a, Hs s' k a → Hs s1 k a ∧ env1[k]? = env[k]? := fun k a z => by
      rcases z with z | ⟨r, z⟩
      · obtain ⟨u, w⟩ := ho k _ z (fun d z => nomatch z); exact ⟨.inl u, w⟩
      · obtain ⟨u, w⟩ := ho k _ z (fun d z => nomatch z); exact ⟨.inr ⟨r, u⟩, w⟩
    obtain ⟨x1, x2⟩ := f i o x
    obtain ⟨y1, y2⟩ := f j o' y
    exact S1.sep i j o o' p n x1 y1 (by rw [x2]; exact e) (by rw [y2]; exact q)
  hid := fun i p o x => S1.hid i p o (ho i _ x (fun d z => nomatch z)).1
  hsep := fun i j p o o' n x y => S1.hsep i j p o o' n (ho i _ x (fun d z => nomatch z)).1 (ho j _ y (fun d z => nomatch z)).1
  hcs := fun i j p o o' x e y => by
    have g : Hs s1 i o ∧ env1[i]? = env[i]? := by
      rcases x with z | ⟨r, z⟩
      · obtain ⟨u, w⟩ := ho i _ z (fun d z => nomatch z); exact ⟨.inl u, w⟩
      · obtain ⟨u, w⟩ := ho i _ z (fun d z => nomatch z); exact ⟨.inr ⟨r, u⟩, w⟩
    exact S1.hcs i j p o o' g.1 (by rw [g.2]; exact e) (ho j _ y (fun d z => nomatch z)).1
end

/-! ### expressions -/
def QX (F : Fr) (s : SEnv) (m : ME) (d : D) (s' : SEnv) : Prop := ∀ env h, Sat F s env h → ∃ h', m env h = .ok d h' ∧ Sat F s' env h'
def QT (F : Fr) (s : SEnv) (m : MT) (b : Bool) (s' : SEnv) : Prop := ∀ env h, Sat F s env h → ∃ h', m env h = .ok b h' ∧ Sat F s' env h'
def QA (F : Fr) (s : SEnv) (m : MA) (ds : List D) (s' : SEnv) : Prop := ∀ env h, Sat F s env h → ∃ h', m env h = .ok ds h' ∧ Sat F s' env h'
def QI (F : Fr) (s : SEnv) (m : MI) (ds : List D) (s' : SEnv) : Prop := ∀ env h, Sat F s env h → ∃ h', m env h = .ok ⟨ds, none⟩ h' ∧ Sat F s' env h'
/-- the thing in a slot is walked -/
def QIo (F : Fr) (s : SEnv) (m : MI) (i : Nat) (ds es : List D) : Prop := ∀ env h, Sat F s env h → ∃ h' p, env[i]? = some (some (D.ref p)) ∧ m env h = .ok ⟨ds, some (p, es)⟩ h' ∧ Sat F s env h'
def QB (T : Tg) (d : D) (s s' : SEnv) : Prop := ∀ F env h, Sat F s env h → ∃ env', bindT T d env = some env' ∧ Sat F s' env' h
section
variable {F : Fr} {s s' s1 s2 s3 : SEnv} {A B : ME} {d d1 d2 d3 : D} {i : Nat} {o : O}
theorem q_slot (i : Nat) (e : s[i]? = some (some (Sl.v d)) := by rfl) : QX F s (eSlot i) d s := fun env h S => ⟨h, by
  unfold eSlot
  rw [S.val i d e], S⟩
theorem q_c : QX F s (eC d) d s := fun env h S => ⟨h, rfl, S⟩
theorem q_op2 {f : Op2} (hA : QX F s A d1 s1) (hB : QX F s1 B d2 s2) (ho : ∀ h, f d1 d2 h = some d3) : QX F s (eOp2 f A B) d3 s2 := fun env h S => by
  obtain ⟨h1, e1, S1⟩ := hA env h S
  obtain ⟨h2, e2, S2⟩ := hB env h1 S1
  refine ⟨h2, ?_, S2⟩
  unfold eOp2
  rw [e1, bind_ok, e2, bind_ok, ho]
  rfl
/-- the thing in a slot first -/
theorem q_op2L {f : Op2} (hx : Hs s1 i o) (hB : QX F s B d2 s1) (hs : Hs s i o ∨ ∃ o', Hs s i o') (ho : ∀ h p, h[p]? = some o → f (.ref p) d2 h = some d3) : QX F s (eOp2 f (eSlot i) B) d3 s1 := fun env h S => by
  obtain ⟨o', hs⟩ : ∃ o', Hs s i o' := by rcases hs with hs | hs; exact ⟨o, hs⟩; exact hs
  obtain ⟨p, e, _⟩ := S.cell i o' hs
  obtain ⟨h1, e1, S1⟩ := hB env h S
  obtain ⟨p', e2, e3⟩ := S1.cell i o hx
  rw [e] at e2
  cases e2
  refine ⟨h1, ?_, S1⟩
  unfold eOp2 eSlot
  rw [e]
  show (B env h).bind _ = _
  rw [e1, bind_ok, ho h1 p e3]
  rfl
theorem q_op2R {f : Op2} (hA : QX F s A d1 s1) (hx : Hs s1 i o) (ho : ∀ h p, h[p]? = some o → f d1 (.ref p) h = some d3) : QX F s (eOp2 f A (eSlot i)) d3 s1 := fun env h S => by
  obtain ⟨h1, e1, S1⟩ := hA env h S
  obtain ⟨p, e2, e3⟩ := S1.cell i o hx
  refine ⟨h1, ?_, S1⟩
  unfold eOp2 eSlot
  rw [e1, bind_ok, e2]
  show lift (f d1 (.ref p) h1) h1 = _
  rw [ho h1 p e3]
  rfl
theorem qa_nil : QA F s aNil [] s := fun env h S => ⟨h, rfl, S⟩
theorem qa_cons {ms : MA} {ds : List D} (hA : QX F s A d s1) (hB : QA F s1 ms ds s2) : QA F s (aCons A ms) (d :: ds) s2 := fun env h S => by
  obtain ⟨h1, e1, S1⟩ := hA env h S
  obtain ⟨h2, e2, S2⟩ := hB env h1 S1
  exact ⟨h2, by unfold aCons; rw [e1, bind_ok, e2, bind_ok], S2⟩
theorem q_opN {f : OpN} {ms : MA} {ds : List D} (hA : QA F s ms ds s1) (ho : ∀ h, f ds h = some d) : QX F s (eOpN f ms) d s1 := fun env h S => by
  obtain ⟨h1, e1, S1⟩ := hA env h S
  exact ⟨h1, by unfold eOpN; rw [e1, bind_ok, ho]; rfl, S1⟩
/-- a function of the thing in a slot -/
theorem q_opN1 {f : OpN} (hx : Hs s i o) (ho : ∀ h p, h[p]? = some o → f [.ref p] h = some d) : QX F s (eOpN f (aCons (eSlot i) aNil)) d s := fun env h S => by
  obtain ⟨p, e2, e3⟩ := S.cell i o hx
  refine ⟨h, ?_, S⟩
  unfold eOpN aCons eSlot aNil
  rw [e2]
  show lift (f [.ref p] h) h = _
  rw [ho h p e3]
  rfl
theorem q_tup {ms : MA} {ds : List D} (hA : QA F s ms ds s1) : QX F s (eTup ms) (.tup ds) s1 := fun env h S => by
  obtain ⟨h1, e1, S1⟩ := hA env h S
  exact ⟨h1, by unfold eTup; rw [e1, bind_ok], S1⟩
theorem q_frz {ms : MA} {ds : List D} (hA : QA F s ms ds s1) : QX F s (eFrz ms) (.lst ds) s1 := fun env h S => by
  obtain ⟨h1, e1, S1⟩ := hA env h S
  exact ⟨h1, by unfold eFrz; rw [e1, bind_ok], S1⟩
/-- tests -/
theorem qt_e {b : Bool} (hA : QX F s A (.bl b) s1) : QT F s (tE A) b s1 := fun env h S => by
  obtain ⟨h1, e1, S1⟩ := hA env h S
  exact ⟨h1, by unfold tE; rw [e1, bind_ok]; rfl, S1⟩
variable {a b : MT} {p q : Bool}
theorem qt_and (ha : QT F s a p s1) (hb : p = true → QT F s1 b q s1) : QT F s (tAnd a b) (p && q) s1 := fun env h S => by
  obtain ⟨h1, e1, S1⟩ := ha env h S
  cases p with
  | true =>
    obtain ⟨h2, e2, S2⟩ := hb rfl env h1 S1
    exact ⟨h2, by unfold tAnd; rw [e1, bind_ok, if_pos rfl, e2]; rfl, S2⟩
  | false => exact ⟨h1, by unfold tAnd; rw [e1, bind_ok]; rfl, S1⟩
theorem qt_or (ha : QT F s a p s1) (hb : p = false → QT F s1 b q s1) : QT F s (tOr a b) (p || q) s1 := fun env h S => by
  obtain ⟨h1, e1, S1⟩ := ha env h S
  cases p with
  | false =>
    obtain ⟨h2, e2, S2⟩ := hb rfl env h1 S1
    exact ⟨h2, by unfold tOr; rw [e1, bind_ok, if_neg (by decide), e2]; rfl, S2⟩
  | true => exact ⟨h1, by unfold tOr; rw [e1, bind_ok]; rfl, S1⟩
theorem qt_andX {L : Type} {E : L → SEnv} {l1 l2 : L} (ha : QT F s a p (E l1)) (hb : p = true → QT F (E l1) b q (E l2)) : QT F s (tAnd a b) (p && q) (E (if p = true then l2 else l1)) := fun env h S => by
  obtain ⟨h1, e1, S1⟩ := ha env h S
  cases p with
  | true =>
    obtain ⟨h2, e2, S2⟩ := hb rfl env h1 S1
    exact ⟨h2, by unfold tAnd; rw [e1, bind_ok, if_pos rfl, e2]; rfl, S2⟩
  | false => exact ⟨h1, by unfold tAnd; rw [e1, bind_ok]; rfl, S1⟩
theorem qt_orX {L : Type} {E : L → SEnv} {l1 l2 : L} (ha : QT F s a p (E l1)) (hb : p = false → QT F (E l1) b q (E l2)) : QT F s (tOr a b) (p || q) (E (if p = true then l1 else l2)) := fun env h S => by
  obtain ⟨h1, e1, S1⟩ := ha env h S
  cases p with
  | false =>
    obtain ⟨h2, e2, S2⟩ := hb rfl env h1 S1
    exact ⟨h2, by unfold tOr; rw [e1, bind_ok, if_neg (by decide), e2]; rfl, S2⟩
  | true => exact ⟨h1, by unfold tOr; rw [e1, bind_ok]; rfl, S1⟩
theorem qt_not (ha : QT F s a p s1) : QT F s (tNot a) (!p) s1 := fun env h S => by
  obtain ⟨h1, e1, S1⟩ := ha env h S
  exact ⟨h1, by unfold tNot; rw [e1, bind_ok], S1⟩
theorem q_and (hA : QX F s A (.bl p) s1) (hB : p = true → QX F s1 B (.bl q) s1) : QX F s (eAnd A B) (.bl (p && q)) s1 := fun env h S => by
  obtain ⟨h1, e1, S1⟩ := hA env h S
  cases p with
  | true =>
    obtain ⟨h2, e2, S2⟩ := hB rfl env h1 S1
    exact ⟨h2, by unfold eAnd; rw [e1, bind_ok]; show B env h1 = _; rw [e2]; rfl, S2⟩
  | false => exact ⟨h1, by unfold eAnd; rw [e1, bind_ok]; rfl, S1⟩
theorem q_or (hA : QX F s A (.bl p) s1) (hB : p = false → QX F s1 B (.bl q) s1) : QX F s (eOr A B) (.bl (p || q)) s1 := fun env h S => by
  obtain ⟨h1, e1, S1⟩ := hA env h S
  cases p with
  | false =>
    obtain ⟨h2, e2, S2⟩ := hB rfl env h1 S1
    exact ⟨h2, by unfold eOr; rw [e1, bind_ok]; show B env h1 = _; rw [e2]; rfl, S2⟩
  | true => exact ⟨h1, by unfold eOr; rw [e1, bind_ok]; rfl, S1⟩
theorem q_not (hA : QX F s A (.bl p) s1) : QX F s (eNot A) (.bl (!p)) s1 := fun env h S => by
  obtain ⟨h1, e1, S1⟩ := hA env h S
  exact ⟨h1, by unfold eNot; rw [e1, bind_ok]; rfl, S1⟩
theorem q_eif {α : Type} {e : α → D} {x y : α} (ha : QT F s a p s1) (hA : p = true → QX F s1 A (e x) s1) (hB : p = false → QX F s1 B (e y) s1) : QX F s (eIf a A B) (e (if p = true then x else y)) s1 := fun env h S => by
  obtain ⟨h1, e1, S1⟩ := ha env h S
  cases p with
  | true =>
    obtain ⟨h2, e2, S2⟩ := hA rfl env h1 S1
    exact ⟨h2, by unfold eIf; rw [e1, bind_ok, if_pos rfl, e2]; rfl, S2⟩
  | false =>
    obtain ⟨h2, e2, S2⟩ := hB rfl env h1 S1
    exact ⟨h2, by unfold eIf; rw [e1, bind_ok, if_neg (by decide), e2]; rfl, S2⟩
theorem q_eifX {α L : Type} {e : α → D} {E : L → SEnv} {x y : α} {la lb : L} (ha : QT F s a p s1) (hA : p = true → QX F s1 A (e x) (E la)) (hB : p = false → QX F s1 B (e y) (E lb)) : QX F s (eIf a A B) (e (if p = true then x else y)) (E (if p = true then la else lb)) := fun env h S => by
  obtain ⟨h1, e1, S1⟩ := ha env h S
  cases p with
  | true =>
    obtain ⟨h2, e2, S2⟩ := hA rfl env h1 S1
    exact ⟨h2, by unfold eIf; rw [e1, bind_ok, if_pos rfl, e2]; rfl, S2⟩
  | false =>
    obtain ⟨h2, e2, S2⟩ := hB rfl env h1 S1
    exact ⟨h2, by unfold eIf; rw [e1, bind_ok, if_neg (by decide), e2]; rfl, S2⟩
theorem q_neg {k : Int} (hA : QX F s A (.int k) s1) : QX F s (eNeg A) (.int (-k)) s1 := fun env h S => by
  obtain ⟨h1, e1, S1⟩ := hA env h S
  exact ⟨h1, by unfold eNeg; rw [e1, bind_ok]; rfl, S1⟩
variable {C : ME}
theorem q_chain {f g : Op2} (hA : QX F s A d1 s1) (hB : QX F s1 B d2 s2) (hC : p = true → QX F s2 C d3 s2) (ho : ∀ h, f d1 d2 h = some (.bl p)) (ho2 : ∀ h, g d2 d3 h = some (.bl q)) : QX F s (eChain f g A B C) (.bl (p && q)) s2 := fun env h S => by
  obtain ⟨h1, e1, S1⟩ := hA env h S
  obtain ⟨h2, e2, S2⟩ := hB env h1 S1
  cases p with
  | true =>
    obtain ⟨h3, e3, S3⟩ := hC rfl env h2 S2
    refine ⟨h3, ?_, S3⟩
    unfold eChain
    rw [e1, bind_ok, e2, bind_ok, ho]
    show (C env h2).bind _ = _
    rw [e3, bind_ok, ho2]
    rfl
  | false =>
    refine ⟨h2, ?_, S2⟩
    unfold eChain
    rw [e1, bind_ok, e2, bind_ok, ho]
    rfl
/-- an end of a slice -/
def QO (F : Fr) (s : SEnv) (m : MO) (k : Option Int) (s' : SEnv) : Prop := ∀ env h, Sat F s env h → ∃ h', m env h = .ok k h' ∧ Sat F s' env h'
theorem qo_none : QO F s oNone none s := fun env h S => ⟨h, rfl, S⟩
theorem qo_some {k : Int} (hA : QX F s A (.int k) s1) : QO F s (oSome A) (some k) s1 := fun env h S => by
  obtain ⟨h1, e1, S1⟩ := hA env h S
  exact ⟨h1, by unfold oSome; rw [e1, bind_ok]; rfl, S1⟩
theorem q_slice {lo hi : MO} {k l : Option Int} (hA : QX F s A d1 s1) (hl : QO F s1 lo k s2) (hh : QO F s2 hi l s3) (ho : ∀ h, sliceO d1 k l h = some d2) : QX F s (eSlice A lo hi) d2 s3 := fun env h S => by
  obtain ⟨h1, e1, S1⟩ := hA env h S
  obtain ⟨h2, e2, S2⟩ := hl env h1 S1
  obtain ⟨h3, e3, S3⟩ := hh env h2 S2
  exact ⟨h3, by unfold eSlice; rw [e1, bind_ok, e2, bind_ok, e3, bind_ok, ho]; rfl, S3⟩
theorem q_rev {d' : D} (hA : QX F s A d s1) (ho : ∀ h, revO d h = some d') : QX F s (eRev A) d' s1 := fun env h S => by
  obtain ⟨h1, e1, S1⟩ := hA env h S
  exact ⟨h1, by unfold eRev; rw [e1, bind_ok, ho]; rfl, S1⟩
/-- a method that tells something -/
theorem q_methR {ok : D → Hh → Bool} {f : OpR1} {ms : MA} {ds : List D} {d' : D} (hA : QX F s A d s1) (hB : QA F s1 ms ds s2) (hk : ∀ h, ok d h = true) (ho : ∀ h, f d ds h = some d') : QX F s (eMethR ok f A ms) d' s2 := fun env h S => by
  obtain ⟨h1, e1, S1⟩ := hA env h S
  obtain ⟨h2, e2, S2⟩ := hB env h1 S1
  exact ⟨h2, by unfold eMethR; rw [e1, bind_ok, if_pos (hk _), e2, bind_ok, ho]; rfl, S2⟩
theorem q_meth2T {ok ok' : D → Hh → Bool} {f f' : OpR1} {ms : MA} {ds : List D} {d' : D} (hA : QX F s A d s1) (hB : QA F s1 ms ds s2) (hk : ∀ h, ok d h = false) (hk' : ∀ h, ok' d h = true) (ho : ∀ h, f' d ds h = some d') : QX F s (eMeth2 ok ok' f f' A ms) d' s2 := fun env h S => by
  obtain ⟨h1, e1, S1⟩ := hA env h S
  obtain ⟨h2, e2, S2⟩ := hB env h1 S1
  exact ⟨h2, by unfold eMeth2; rw [e1, bind_ok, if_neg (by rw [hk]; decide), if_pos (hk' _), e2, bind_ok, ho]; rfl, S2⟩
theorem q_meth2L {ok ok' : D → Hh → Bool} {f f' : OpR1} {ms : MA} {ds : List D} {d' : D} (hA : QX F s A d s1) (hB : QA F s1 ms ds s2) (hk : ∀ h, ok d h = true) (ho : ∀ h, f d ds h = some d') : QX F s (eMeth2 ok ok' f f' A ms) d' s2 := fun env h S => by
  obtain ⟨h1, e1, S1⟩ := hA env h S
  obtain ⟨h2, e2, S2⟩ := hB env h1 S1
  exact ⟨h2, by unfold eMeth2; rw [e1, bind_ok, if_pos (hk _), e2, bind_ok, ho]; rfl, S2⟩
/-- a method that changes the thing in a slot -/
theorem q_methS {ok : D → Hh → Bool} {f : OpM} {ms : MA} {ds : List D} {o' : O} (hB : QA F s ms ds s1) (hx0 : ∃ o0, Hs s i o0) (hx : Hs s1 i o) (hk : ∀ h p o, h[p]? = some o → Hs s i o → ok (.ref p) h = true)
    (ho : ∀ h p, h[p]? = some o → f (.ref p) ds h = some (d, h.set p o')) : QX F s (eMeth ok f (eSlot i) ms) d (chS s1 i o') := fun env h S => by
  obtain ⟨o0, hx0⟩ := hx0
  obtain ⟨p, e, e0⟩ := S.cell i o0 hx0
  obtain ⟨h1, e1, S1⟩ := hB env h S
  obtain ⟨p', e2, e3⟩ := S1.cell i o hx
  rw [e] at e2
  cases e2
  refine ⟨h1.set p o', ?_, S1.change hx e o'⟩
  unfold eMeth eSlot
  rw [e]
  show (if ok (.ref p) h = true then _ else _) = _
  rw [if_pos (hk h p o0 e0 hx0), e1, bind_ok, ho h1 p e3]
  rfl
/-- a call of a def that leaves all as it was -/
theorem q_call {G : MF} {ms : MA} {ds : List D} (hA : QA F s ms ds s1) (ho : ∀ h, G ds h = .ok d h) : QX F s (eCall G ms) d s1 := fun env h S => by
  obtain ⟨h1, e1, S1⟩ := hA env h S
  exact ⟨h1, by unfold eCall; rw [e1, bind_ok, ho], S1⟩
/-- a call that changes the thing in a slot, handed in first -/
theorem q_callB {G : MF} {ms : MA} {ds : List D} {o' : O} (hB : QA F s ms ds s) (hx : Hs s i o) (ho : ∀ h p, h[p]? = some o → G (.ref p :: ds) h = .ok d (h.set p o')) : QX F s (eCall G (aCons (eSlot i) ms)) d (chS s i o') := fun env h S => by
  obtain ⟨h1, e1, S1⟩ := hB env h S
  obtain ⟨p, e2, e3⟩ := S1.cell i o hx
  refine ⟨h1.set p o', ?_, S1.change hx e2 o'⟩
  unfold eCall aCons eSlot
  rw [e2]
  show (((ms env h).bind fun xs h2 => Res.ok (D.ref p :: xs) h2).bind fun ds h1 => G ds h1) = _
  rw [e1, bind_ok, bind_ok, ho h1 p e3]
end
end MR

/-! Q2: words, encoders, equality. -/
namespace MR
open PySem PySem.Spec PyProof.Rows L2

/-- the words of this program -/
inductive Wd where
  | rows | readers | writers | turns | passes | out | reads | rising | writes | raised | read | write | up | down | leave | stop | tick | steps | in_ | waits | no | ends | starves | within | never | alike | parts
  deriving DecidableEq, Inhabited
def Wd.val : Wd → Str
  | .rows => "rows" | .readers => "readers" | .writers => "writers" | .turns => "turns" | .passes => "passes" | .out => "out" | .reads => "reads" | .rising => "rising" | .writes => "writes" | .raised => "raised"
  | .read => "read" | .write => "write" | .up => "up" | .down => "down" | .leave => "leave" | .stop => "stop" | .tick => "tick" | .steps => "steps" | .in_ => "in" | .waits => "waits" | .no => "no" | .ends => "ends"
  | .starves => "starves" | .within => "within" | .never => "never" | .alike => "alike" | .parts => "parts"
def Wd.all : List Wd := [.rows, .readers, .writers, .turns, .passes, .out, .reads, .rising, .writes, .raised, .read, .write, .up, .down, .leave, .stop, .tick, .steps, .in_, .waits, .no, .ends, .starves, .within, .never, .alike, .parts]
def Wd.of (x : Str) : Option Wd := Wd.all.find? fun w => decide (w.val = x)
theorem Wd.of_val (w : Wd) : Wd.of w.val = some w := by cases w <;> decide +kernel
theorem Wd.val_inj {a b : Wd} (h : a.val = b.val) : a = b := by
  have := Wd.of_val a
  rw [h, Wd.of_val b] at this
  exact (Option.some.inj this).symm
theorem Wd.ok (w : Wd) : PyData.strOk w.val = true := by cases w <;> decide +kernel

def eN : Unit → D := fun _ => .non
def eW : Wd → D := fun w => .str w.val
section
variable {α β γ δ : Type}
def eO (e : α → D) : Option α → D := fun o => match o with | none => .non | some a => e a
def eS (e : α → D) : List α → D := fun l => .tup (l.map e)
def eL (e : α → D) : List α → D := fun l => .lst (l.map e)
def oL (e : α → D) : List α → O := fun l => .lst (l.map e)
def eT1 (a : α → D) : α → D := fun p => .tup [a p]
def eT2 (a : α → D) (b : β → D) : α × β → D := fun p => .tup [a p.1, b p.2]
def eT3 (a : α → D) (b : β → D) (c : γ → D) : α × β × γ → D := fun p => .tup [a p.1, b p.2.1, c p.2.2]
def eT4 (a : α → D) (b : β → D) (c : γ → D) (d : δ → D) : α × β × γ × δ → D := fun p => .tup [a p.1, b p.2.1, c p.2.2.1, d p.2.2.2]
def eW2 (a : α → D) (b : β → D) : α × β → D := fun p => .wtp [a p.1, b p.2]
end
/-- a deed -/
inductive Deed where
  | ask (w : Wd) (g : Int) (l : Option Int)
  | mov (w : Wd) (g : Int)
  | tick
  deriving DecidableEq, Inhabited
def eDd : Deed → D
  | .ask w g l => .tup [eW w, .int g, eO D.int l]
  | .mov w g => .tup [eW w, .int g]
  | .tick => .tup [eW .tick]
def Deed.word : Deed → Wd
  | .ask w _ _ => w
  | .mov w _ => w
  | .tick => .tick
def Deed.guest : Deed → Int
  | .ask _ g _ => g
  | .mov _ g => g
  | .tick => 0
def Deed.left : Deed → Option Int
  | .ask _ _ l => l
  | _ => none
def Deed.isAsk : Deed → Bool
  | .ask _ _ _ => true
  | _ => false
def Deed.isTick : Deed → Bool
  | .tick => true
  | _ => false
def Deed.size : Deed → Int
  | .ask _ _ _ => 3
  | .mov _ _ => 2
  | .tick => 1

/-- an encoder without refs -/
class NR {α : Type} (e : α → D) : Prop where
  nr : ∀ a n, bel n (e a) = true
/-- never None -/
class NN {α : Type} (e : α → D) : Prop where
  nn : ∀ a h neg, isNO neg (e a) .non h = some (.bl neg)
/-- an encoder whose things are compared by value -/
class PyE {α : Type} [DecidableEq α] (e : α → D) where
  n : Nat
  py : α → PyData
  to : ∀ a, toPy (e a) = some (py a)
  lay : ∀ a, (py a).canLay0 = true
  dep : ∀ a, (py a).depth ≤ n
  eqv : ∀ a b, PyData.eqv (py a) (py b) = decide (a = b)
  nz : ∀ a, PyData.eqv PyData.none (py a) = false ∧ PyData.eqv (py a) PyData.none = false
section
variable {α β γ δ : Type}
theorem bels_map {e : α → D} [NR e] (n : Nat) : ∀ l : List α, bels n (l.map e) = true
  | [] => rfl
  | x :: xs => by rw [List.map_cons, bels, NR.nr x n, bels_map n xs]; rfl
instance : NR eN := ⟨fun _ _ => rfl⟩
instance : NR D.int := ⟨fun _ _ => rfl⟩
instance : NR D.bl := ⟨fun _ _ => rfl⟩
instance : NR D.str := ⟨fun _ _ => rfl⟩
instance : NR eW := ⟨fun _ _ => rfl⟩
instance {e : α → D} [NR e] : NR (eO e) := ⟨fun a n => by cases a with | none => rfl | some a => exact NR.nr a n⟩
instance {e : α → D} [NR e] : NR (eS e) := ⟨fun a n => by show bels n _ = true; exact bels_map n a⟩
instance {e : α → D} [NR e] : NR (eL e) := ⟨fun a n => by show bels n _ = true; exact bels_map n a⟩
instance {a : α → D} [NR a] : NR (eT1 a) := ⟨fun p n => by show bels n [_] = true; simp [bels, NR.nr (e := a)]⟩
instance {a : α → D} {b : β → D} [NR a] [NR b] : NR (eT2 a b) := ⟨fun p n => by show bels n [_, _] = true; simp [bels, NR.nr (e := a), NR.nr (e := b)]⟩
instance {a : α → D} {b : β → D} {c : γ → D} [NR a] [NR b] [NR c] : NR (eT3 a b c) := ⟨fun p n => by show bels n [_, _, _] = true; simp [bels, NR.nr (e := a), NR.nr (e := b), NR.nr (e := c)]⟩
instance {a : α → D} {b : β → D} {c : γ → D} {d : δ → D} [NR a] [NR b] [NR c] [NR d] : NR (eT4 a b c d) := ⟨fun p n => by show bels n [_, _, _, _] = true; simp [bels, NR.nr (e := a), NR.nr (e := b), NR.nr (e := c), NR.nr (e := d)]⟩
instance : NR eDd := ⟨fun a n => by
  cases a with
  | ask w g l => show bels n [_, _, _] = true; simp [bels, NR.nr (e := eW), NR.nr (e := eO D.int), bel]
  | mov w g => show bels n [_, _] = true; simp [bels, NR.nr (e := eW), bel]
  | tick => rfl⟩
instance : NN D.int := ⟨fun _ _ _ => rfl⟩
instance : NN D.bl := ⟨fun _ _ _ => rfl⟩
instance : NN D.str := ⟨fun _ _ _ => rfl⟩
instance : NN eW := ⟨fun _ _ _ => rfl⟩
instance {e : α → D} : NN (eS e) := ⟨fun _ _ _ => rfl⟩
instance {e : α → D} : NN (eL e) := ⟨fun _ _ _ => rfl⟩
instance {a : α → D} : NN (eT1 a) := ⟨fun _ _ _ => rfl⟩
instance {a : α → D} {b : β → D} : NN (eT2 a b) := ⟨fun _ _ _ => rfl⟩
instance {a : α → D} {b : β → D} {c : γ → D} : NN (eT3 a b c) := ⟨fun _ _ _ => rfl⟩
instance {a : α → D} {b : β → D} {c : γ → D} {d : δ → D} : NN (eT4 a b c d) := ⟨fun _ _ _ => rfl⟩
instance : NN eDd := ⟨fun a _ _ => by cases a <;> rfl⟩
instance pyE_int : PyE D.int := ⟨0, PyData.int, fun _ => rfl, fun _ => rfl, fun _ => Nat.le_refl _, fun a b => by show (a == b) = _; exact deq, fun a => ⟨rfl, rfl⟩⟩
instance pyE_bl : PyE D.bl := ⟨0, PyData.bool, fun _ => rfl, fun _ => rfl, fun _ => Nat.le_refl _, fun a b => by cases a <;> cases b <;> rfl, fun a => ⟨rfl, rfl⟩⟩
instance pyE_w : PyE eW := ⟨0, fun w => PyData.str w.val, fun _ => rfl, fun w => w.ok, fun _ => Nat.le_refl _, fun a b => by
  show (a.val == b.val) = _
  rw [deq]
  by_cases h : a = b
  · subst h; simp
  · rw [decide_eq_false h, decide_eq_false fun z => h (Wd.val_inj z)], fun a => ⟨rfl, rfl⟩⟩
/-- None or a thing -/
def pyOpt (f : α → PyData) : Option α → PyData
  | none => .none
  | some a => f a
/-- an encoder that may give None -/
class PyEO {α : Type} [DecidableEq α] (e : α → D) where
  n : Nat
  py : α → PyData
  to : ∀ a, toPy (e a) = some (py a)
  lay : ∀ a, (py a).canLay0 = true
  dep : ∀ a, (py a).depth ≤ n
  eqv : ∀ a b, PyData.eqv (py a) (py b) = decide (a = b)
variable [DecidableEq α] [DecidableEq β] [DecidableEq γ] [DecidableEq δ]
instance pyEO_of {e : α → D} [i : PyE e] : PyEO e := ⟨i.n, i.py, i.to, i.lay, i.dep, i.eqv⟩
instance pyEO_opt {e : α → D} [i : PyE e] : PyEO (eO e) := ⟨i.n, pyOpt i.py, fun a => by cases a with | none => rfl | some a => exact i.to a, fun a => by cases a with | none => rfl | some a => exact i.lay a,
  fun a => by cases a with | none => exact Nat.zero_le _ | some a => exact i.dep a, fun a b => by
  cases a with
  | none => cases b with
    | none => rfl
    | some b => exact (i.nz b).1
  | some a => cases b with
    | none => exact (i.nz a).2
    | some b =>
      show PyData.eqv (i.py a) (i.py b) = _
      rw [i.eqv]
      by_cases h : a = b
      · subst h; simp
      · rw [decide_eq_false h, decide_eq_false fun z => h (Option.some.inj z)]⟩
theorem toPys_map {e : α → D} [i : PyEO e] : ∀ l : List α, toPys (l.map e) = some (l.map i.py)
  | [] => rfl
  | x :: xs => by rw [List.map_cons, toPys, i.to x, toPys_map xs]; rfl
theorem lay_map {e : α → D} [i : PyEO e] : ∀ l : List α, PyData.canLayAll0 (l.map i.py) = true
  | [] => rfl
  | x :: xs => by rw [List.map_cons, PyData.canLayAll0, i.lay x, lay_map xs]; rfl
theorem dep_map {e : α → D} [i : PyEO e] : ∀ l : List α, PyData.depthAll (l.map i.py) ≤ i.n + 1
  | [] => by rw [List.map_nil, PyData.depthAll]; omega
  | x :: xs => by rw [List.map_cons, PyData.depthAll]; have := i.dep x; have := dep_map (e := e) xs; omega
theorem eqv_map {e : α → D} [i : PyEO e] : ∀ l m : List α, PyData.eqvAll (l.map i.py) (m.map i.py) = decide (l = m)
  | [], [] => rfl
  | [], y :: ys => rfl
  | x :: xs, [] => rfl
  | x :: xs, y :: ys => by
    rw [List.map_cons, List.map_cons, PyData.eqvAll, i.eqv x y, eqv_map xs ys]
    by_cases h1 : x = y
    · subst h1
      by_cases h2 : xs = ys
      · subst h2; simp
      · simp [h2]
    · simp [h1]
instance pyE_seq {e : α → D} [i : PyEO e] : PyE (eS e) := ⟨i.n + 2, fun l => .tuple (l.map i.py), fun l => by show (toPys (l.map e)).map PyData.tuple = _; rw [toPys_map]; rfl, fun l => by rw [PyData.canLay0]; exact lay_map l,
  fun l => by rw [PyData.depth]; have := dep_map (e := e) l; omega, fun l m => by rw [PyData.eqv]; exact eqv_map l m, fun l => ⟨rfl, rfl⟩⟩
instance pyE_lst {e : α → D} [i : PyEO e] : PyE (eL e) := ⟨i.n + 2, fun l => .list (l.map i.py), fun l => by show (toPys (l.map e)).map PyData.list = _; rw [toPys_map]; rfl, fun l => by rw [PyData.canLay0]; exact lay_map l,
  fun l => by rw [PyData.depth]; have := dep_map (e := e) l; omega, fun l m => by rw [PyData.eqv]; exact eqv_map l m, fun l => ⟨rfl, rfl⟩⟩
theorem dec_and {p q r : Prop} [Decidable p] [Decidable q] [Decidable r] (h : r ↔ p ∧ q) : (decide p && decide q) = decide r := by
  by_cases hp : p <;> by_cases hq : q <;> simp [hp, hq, h]
instance pyE_t1 {a : α → D} [i : PyEO a] : PyE (eT1 a) := ⟨i.n + 1, fun p => .tuple [i.py p], fun p => by show (toPys [_]).map _ = _; simp [toPys, i.to], fun p => by simp [PyData.canLay0, PyData.canLayAll0, i.lay],
  fun p => by simp only [PyData.depth, PyData.depthAll]; have := i.dep p; omega, fun p q => by simp [PyData.eqv, PyData.eqvAll, i.eqv], fun l => ⟨rfl, rfl⟩⟩
instance pyE_t2 {a : α → D} {b : β → D} [i : PyEO a] [j : PyEO b] : PyE (eT2 a b) := ⟨i.n + j.n + 1, fun p => .tuple [i.py p.1, j.py p.2], fun p => by show (toPys [_, _]).map _ = _; simp [toPys, i.to, j.to], fun p => by simp [PyData.canLay0, PyData.canLayAll0, i.lay, j.lay],
  fun p => by simp only [PyData.depth, PyData.depthAll]; have := i.dep p.1; have := j.dep p.2; omega, fun p q => by
    obtain ⟨p1, p2⟩ := p; obtain ⟨q1, q2⟩ := q
    simp only [PyData.eqv, PyData.eqvAll, i.eqv, j.eqv, Bool.and_true]
    exact dec_and (by rw [Prod.mk.injEq]), fun l => ⟨rfl, rfl⟩⟩
instance pyE_t3 {a : α → D} {b : β → D} {c : γ → D} [i : PyEO a] [j : PyEO b] [k : PyEO c] : PyE (eT3 a b c) := ⟨i.n + j.n + k.n + 1, fun p => .tuple [i.py p.1, j.py p.2.1, k.py p.2.2], fun p => by show (toPys [_, _, _]).map _ = _; simp [toPys, i.to, j.to, k.to], fun p => by simp [PyData.canLay0, PyData.canLayAll0, i.lay, j.lay, k.lay],
  fun p => by simp only [PyData.depth, PyData.depthAll]; have := i.dep p.1; have := j.dep p.2.1; have := k.dep p.2.2; omega, fun p q => by
    obtain ⟨p1, p2, p3⟩ := p; obtain ⟨q1, q2, q3⟩ := q
    simp only [PyData.eqv, PyData.eqvAll, i.eqv, j.eqv, k.eqv, Bool.and_true]
    rw [dec_and (p := p2 = q2) (q := p3 = q3) (r := p2 = q2 ∧ p3 = q3) Iff.rfl]
    exact dec_and (by rw [Prod.mk.injEq, Prod.mk.injEq]), fun l => ⟨rfl, rfl⟩⟩
instance pyE_t4 {a : α → D} {b : β → D} {c : γ → D} {d : δ → D} [i : PyEO a] [j : PyEO b] [k : PyEO c] [l : PyEO d] : PyE (eT4 a b c d) := ⟨i.n + j.n + k.n + l.n + 1, fun p => .tuple [i.py p.1, j.py p.2.1, k.py p.2.2.1, l.py p.2.2.2], fun p => by show (toPys [_, _, _, _]).map _ = _; simp [toPys, i.to, j.to, k.to, l.to], fun p => by simp [PyData.canLay0, PyData.canLayAll0, i.lay, j.lay, k.lay, l.lay],
  fun p => by simp only [PyData.depth, PyData.depthAll]; have := i.dep p.1; have := j.dep p.2.1; have := k.dep p.2.2.1; have := l.dep p.2.2.2; omega, fun p q => by
    obtain ⟨p1, p2, p3, p4⟩ := p; obtain ⟨q1, q2, q3, q4⟩ := q
    simp only [PyData.eqv, PyData.eqvAll, i.eqv, j.eqv, k.eqv, l.eqv, Bool.and_true]
    rw [dec_and (p := p3 = q3) (q := p4 = q4) (r := p3 = q3 ∧ p4 = q4) Iff.rfl, dec_and (p := p2 = q2) (q := p3 = q3 ∧ p4 = q4) (r := p2 = q2 ∧ p3 = q3 ∧ p4 = q4) Iff.rfl]
    exact dec_and (by rw [Prod.mk.injEq, Prod.mk.injEq, Prod.mk.injEq]), fun l => ⟨rfl, rfl⟩⟩
def Deed.py : Deed → PyData
  | .ask w g l => .tuple [.str w.val, .int g, pyOpt PyData.int l]
  | .mov w g => .tuple [.str w.val, .int g]
  | .tick => .tuple [.str Wd.tick.val]
instance pyE_deed : PyE eDd := ⟨2, Deed.py, fun d => by
    cases d with
    | ask w g l => cases l <;> rfl
    | mov w g => rfl
    | tick => rfl, fun d => by
    cases d with
    | ask w g l => cases l <;> simp [Deed.py, PyData.canLay0, PyData.canLayAll0, pyOpt, w.ok]
    | mov w g => simp [Deed.py, PyData.canLay0, PyData.canLayAll0, w.ok]
    | tick => simp [Deed.py, PyData.canLay0, PyData.canLayAll0, Wd.ok], fun d => by
    cases d with
    | ask w g l => cases l <;> simp [Deed.py, PyData.depth, PyData.depthAll, pyOpt]
    | mov w g => simp [Deed.py, PyData.depth, PyData.depthAll]
    | tick => simp [Deed.py, PyData.depth, PyData.depthAll], fun a b => by
    have eW' : ∀ v w : Wd, PyData.eqv (.str v.val) (.str w.val) = decide (v = w) := fun v w => pyE_w.eqv v w
    have eI : ∀ v w : Int, PyData.eqv (.int v) (.int w) = decide (v = w) := fun v w => pyE_int.eqv v w
    have eP : ∀ v w : Option Int, PyData.eqv (pyOpt PyData.int v) (pyOpt PyData.int w) = decide (v = w) := fun v w => (pyEO_opt (e := D.int)).eqv v w
    cases a with
    | ask w g l =>
      cases b with
      | ask w' g' l' =>
        simp only [Deed.py, PyData.eqv, PyData.eqvAll, eW', eI, eP, Bool.and_true]
        have eW'' : ∀ v w : Wd, (v.val == w.val) = decide (v = w) := eW'
        have eI' : ∀ v w : Int, (v == w) = decide (v = w) := eI
        simp [eW'', eI']
      | mov w' g' => simp [Deed.py, PyData.eqv, PyData.eqvAll]
      | tick => simp [Deed.py, PyData.eqv, PyData.eqvAll]
    | mov w g =>
      cases b with
      | ask w' g' l' => simp [Deed.py, PyData.eqv, PyData.eqvAll]
      | mov w' g' =>
        have eW'' : ∀ v w : Wd, (v.val == w.val) = decide (v = w) := eW'
        simp [Deed.py, PyData.eqv, PyData.eqvAll, eW'']
        have eI' : ∀ v w : Int, (v == w) = decide (v = w) := eI
        simp [eI']
      | tick => simp [Deed.py, PyData.eqv, PyData.eqvAll]
    | tick =>
      cases b with
      | ask w' g' l' => simp [Deed.py, PyData.eqv, PyData.eqvAll]
      | mov w' g' => simp [Deed.py, PyData.eqv, PyData.eqvAll]
      | tick => simp [Deed.py, PyData.eqv, PyData.eqvAll], fun d => by cases d <;> exact ⟨rfl, rfl⟩⟩

/-! ### operators on what is encoded -/
theorem shaped_of (e : α → D) [i : PyEO e] (hn : i.n ≤ 64) (x : α) : SeqAt.shaped (i.py x) = true := by
  unfold SeqAt.shaped
  rw [i.lay, decide_eq_true (by have := i.dep x; omega)]; rfl
theorem py_of (e : α → D) [i : PyEO e] (hn : i.n ≤ 64) (x : α) (h : Hh) : pyOf (e x) h = some (i.py x) := by
  have ed : deref (e x) h = e x := by
    have := i.to x
    cases he : e x with
    | ref j => rw [he, toPy] at this; cases this
    | _ => rfl
  unfold pyOf
  rw [ed, i.to]
  show (if SeqAt.shaped (i.py x) = true then some (i.py x) else none) = _
  rw [if_pos (shaped_of e hn x)]
theorem py_own (e : α → D) [i : PyEO e] (hn : i.n ≤ 60) (l : List α) {h : Hh} {p : Nat} (hp : h[p]? = some (oL e l)) : pyOf (.ref p) h = some (.list (l.map i.py)) := by
  have ed : deref (.ref p) h = .lst (l.map e) := by
    show (match h[p]? with | some (O.lst ds) => D.lst ds | _ => .ref p) = _
    rw [hp]; rfl
  unfold pyOf
  rw [ed, toPy, toPys_map]
  have : SeqAt.shaped (.list (l.map i.py)) = true := by
    unfold SeqAt.shaped
    rw [PyData.canLay0, lay_map, PyData.depth, decide_eq_true (by have := dep_map (e := e) l; omega)]; rfl
  show (if SeqAt.shaped (.list (l.map i.py)) = true then _ else _) = _
  rw [if_pos this]
theorem o_eq (e : α → D) [i : PyEO e] (x y : α) (hn : i.n ≤ 64 := by decide) (h : Hh) : eqO (e x) (e y) h = some (.bl (decide (x = y))) := by
  unfold eqO
  rw [py_of e hn, py_of e hn]
  show some (D.bl (PyData.eqv _ _)) = _
  rw [i.eqv]
theorem o_ne (e : α → D) [i : PyEO e] (x y : α) (hn : i.n ≤ 64 := by decide) (h : Hh) : neO (e x) (e y) h = some (.bl (!decide (x = y))) := by
  unfold neO
  rw [py_of e hn, py_of e hn]
  show some (D.bl (!PyData.eqv _ _)) = _
  rw [i.eqv]
theorem any_mem (e : α → D) [i : PyEO e] (x : α) : ∀ l : List α, ((l.map i.py).any fun z => PyData.eqv z (i.py x)) = decide (x ∈ l)
  | [] => rfl
  | y :: ys => by
    rw [List.map_cons, List.any_cons, any_mem e x ys, i.eqv]
    by_cases h : y = x
    · subst h; simp
    · simp [h, Ne.symm h]
theorem dec_eq {p : Prop} (a b : Decidable p) : @decide p a = @decide p b := by cases a <;> cases b <;> first | rfl | contradiction
theorem o_inS (e : α → D) [i : PyEO e] (x : α) (l : List α) {dd : Decidable (x ∈ l)} (hn : i.n ≤ 60 := by decide) (h : Hh) : inO false (e x) (eS e l) h = some (.bl (@decide (x ∈ l) dd)) := by
  unfold inO
  rw [py_of e (by omega), py_of (eS e) (i := pyEO_of) (by show i.n + 2 ≤ 64; omega)]
  show some (D.bl ((l.map i.py).any fun z => PyData.eqv z (i.py x))) = _
  rw [any_mem]
  exact congrArg (fun b => some (D.bl b)) (dec_eq _ _)
theorem o_ninS (e : α → D) [i : PyEO e] (x : α) (l : List α) {dd : Decidable (x ∈ l)} (hn : i.n ≤ 60 := by decide) (h : Hh) : inO true (e x) (eS e l) h = some (.bl (!@decide (x ∈ l) dd)) := by
  unfold inO
  rw [py_of e (by omega), py_of (eS e) (i := pyEO_of) (by show i.n + 2 ≤ 64; omega)]
  show some (D.bl (!((l.map i.py).any fun z => PyData.eqv z (i.py x)))) = _
  rw [any_mem]
  exact congrArg (fun b => some (D.bl (!b))) (dec_eq _ _)
theorem o_inL (e : α → D) [i : PyEO e] (x : α) (l : List α) {dd : Decidable (x ∈ l)} (hn : i.n ≤ 60 := by decide) (h : Hh) : inO false (e x) (eL e l) h = some (.bl (@decide (x ∈ l) dd)) := by
  unfold inO
  rw [py_of e (by omega), py_of (eL e) (i := pyEO_of) (by show i.n + 2 ≤ 64; omega)]
  show some (D.bl ((l.map i.py).any fun z => PyData.eqv z (i.py x))) = _
  rw [any_mem]
  exact congrArg (fun b => some (D.bl b)) (dec_eq _ _)
theorem o_ninL (e : α → D) [i : PyEO e] (x : α) (l : List α) {dd : Decidable (x ∈ l)} (hn : i.n ≤ 60 := by decide) (h : Hh) : inO true (e x) (eL e l) h = some (.bl (!@decide (x ∈ l) dd)) := by
  unfold inO
  rw [py_of e (by omega), py_of (eL e) (i := pyEO_of) (by show i.n + 2 ≤ 64; omega)]
  show some (D.bl (!((l.map i.py).any fun z => PyData.eqv z (i.py x)))) = _
  rw [any_mem]
  exact congrArg (fun b => some (D.bl (!b))) (dec_eq _ _)
theorem o_inO (e : α → D) [i : PyEO e] (x : α) (l : List α) {dd : Decidable (x ∈ l)} (hn : i.n ≤ 60 := by decide) (h : Hh) (p : Nat) (hp : h[p]? = some (oL e l)) : inO false (e x) (.ref p) h = some (.bl (@decide (x ∈ l) dd)) := by
  unfold inO
  rw [py_of e (by omega), py_own e hn l hp]
  show some (D.bl ((l.map i.py).any fun z => PyData.eqv z (i.py x))) = _
  rw [any_mem]
  exact congrArg (fun b => some (D.bl b)) (dec_eq _ _)
theorem o_ninO (e : α → D) [i : PyEO e] (x : α) (l : List α) {dd : Decidable (x ∈ l)} (hn : i.n ≤ 60 := by decide) (h : Hh) (p : Nat) (hp : h[p]? = some (oL e l)) : inO true (e x) (.ref p) h = some (.bl (!@decide (x ∈ l) dd)) := by
  unfold inO
  rw [py_of e (by omega), py_own e hn l hp]
  show some (D.bl (!((l.map i.py).any fun z => PyData.eqv z (i.py x)))) = _
  rw [any_mem]
  exact congrArg (fun b => some (D.bl (!b))) (dec_eq _ _)
theorem o_eqO (e : α → D) [i : PyEO e] (l m : List α) (hn : i.n ≤ 60 := by decide) (h : Hh) (p : Nat) (hp : h[p]? = some (oL e l)) : eqO (.ref p) (eL e m) h = some (.bl (decide (l = m))) := by
  unfold eqO
  rw [py_own e hn l hp, py_of (eL e) (i := pyEO_of) (by show i.n + 2 ≤ 64; omega)]
  show some (D.bl (PyData.eqv (.list _) (.list _))) = _
  rw [PyData.eqv, eqv_map]
theorem o_neO (e : α → D) [i : PyEO e] (l m : List α) (hn : i.n ≤ 60 := by decide) (h : Hh) (p : Nat) (hp : h[p]? = some (oL e l)) : neO (.ref p) (eL e m) h = some (.bl (!decide (l = m))) := by
  unfold neO
  rw [py_own e hn l hp, py_of (eL e) (i := pyEO_of) (by show i.n + 2 ≤ 64; omega)]
  show some (D.bl (!PyData.eqv (.list _) (.list _))) = _
  rw [PyData.eqv, eqv_map]
theorem cnt_mem (e : α → D) [i : PyEO e] {bb : BEq α} [lb : LawfulBEq α] (x : α) : ∀ l : List α, ((l.map i.py).countP fun z => PyData.eqv z (i.py x)) = l.count x
  | [] => rfl
  | y :: ys => by
    rw [List.map_cons, List.countP_cons, cnt_mem e x ys, i.eqv, List.count_cons]
    by_cases h : y = x
    · subst h; simp
    · simp [h]
theorem o_cntT (e : α → D) [i : PyEO e] {bb : BEq α} [lb : LawfulBEq α] (x : α) (l : List α) (hn : i.n ≤ 60 := by decide) (h : Hh) : countT (eS e l) [e x] h = some (.int (l.count x)) := by
  show cntOf (pysT (eS e l) h) (pyOf (e x) h) = _
  unfold pysT
  rw [py_of e (by omega), py_of (eS e) (i := pyEO_of) (by show i.n + 2 ≤ 64; omega)]
  show some (D.int ((l.map i.py).countP fun z => PyData.eqv z (i.py x) : Nat)) = _
  rw [cnt_mem]
theorem o_cntL (e : α → D) [i : PyEO e] {bb : BEq α} [lb : LawfulBEq α] (x : α) (l : List α) (hn : i.n ≤ 60 := by decide) (h : Hh) : countL (eL e l) [e x] h = some (.int (l.count x)) := by
  show cntOf (pysL (eL e l) h) (pyOf (e x) h) = _
  unfold pysL
  rw [py_of e (by omega), py_of (eL e) (i := pyEO_of) (by show i.n + 2 ≤ 64; omega)]
  show some (D.int ((l.map i.py).countP fun z => PyData.eqv z (i.py x) : Nat)) = _
  rw [cnt_mem]
theorem find_mem (e : α → D) [i : PyEO e] {bb : BEq α} [lb : LawfulBEq α] (x : α) : ∀ l : List α, x ∈ l → ((l.map i.py).findIdx? fun z => PyData.eqv z (i.py x)) = some (l.idxOf x)
  | [], h => by cases h
  | y :: ys, h => by
    rw [List.map_cons, List.findIdx?_cons, i.eqv, List.idxOf_cons]
    by_cases e1 : y = x
    · subst e1; simp
    · have hm : x ∈ ys := by
        rcases List.mem_cons.mp h with z | z
        · exact absurd z.symm e1
        · exact z
      have : (y == x) = false := by simp [e1]
      rw [find_mem e x ys hm]; simp [e1, this]
theorem o_idxL (e : α → D) [i : PyEO e] {bb : BEq α} [lb : LawfulBEq α] (x : α) (l : List α) (hm : x ∈ l) (hn : i.n ≤ 60 := by decide) (h : Hh) : indexL (eL e l) [e x] h = some (.int (l.idxOf x)) := by
  show idxOf (pysL (eL e l) h) (pyOf (e x) h) = _
  unfold pysL
  rw [py_of e (by omega), py_of (eL e) (i := pyEO_of) (by show i.n + 2 ≤ 64; omega)]
  show ((l.map i.py).findIdx? fun z => PyData.eqv z (i.py x)).map _ = _
  rw [find_mem e x l hm]
  rfl
theorem o_idxT (e : α → D) [i : PyEO e] {bb : BEq α} [lb : LawfulBEq α] (x : α) (l : List α) (hm : x ∈ l) (hn : i.n ≤ 60 := by decide) (h : Hh) : indexT (eS e l) [e x] h = some (.int (l.idxOf x)) := by
  show idxOf (pysT (eS e l) h) (pyOf (e x) h) = _
  unfold pysT
  rw [py_of e (by omega), py_of (eS e) (i := pyEO_of) (by show i.n + 2 ≤ 64; omega)]
  show ((l.map i.py).findIdx? fun z => PyData.eqv z (i.py x)).map _ = _
  rw [find_mem e x l hm]
  rfl
end
end MR

/-! Q3: sequences, walks, comprehensions. -/
namespace MR
open PySem PySem.Spec PyProof.Rows L2

section
variable {α β γ δ : Type}
/-- an index that is there -/
def inR (l : List α) (i : Int) : Prop := -(l.length : Int) ≤ i ∧ i < l.length
instance (l : List α) (i : Int) : Decidable (inR l i) := inferInstanceAs (Decidable (_ ∧ _))
def atZ [Inhabited α] (l : List α) (i : Int) : α := ((if 0 ≤ i then l[i.toNat]? else l[(i + l.length).toNat]?) : Option α).getD default
theorem atI_at [Inhabited α] (l : List α) (i : Int) (hi : inR l i) : atI l i = some (atZ l i) := by
  unfold inR at hi
  unfold atZ
  by_cases h : 0 ≤ i
  · rw [ev_atIp l i h, if_pos h, List.getElem?_eq_getElem (by omega)]; rfl
  · rw [ev_atIm l i (by omega), if_neg h, if_pos hi.1, List.getElem?_eq_getElem (by omega)]; rfl
theorem atI_map [Inhabited α] (e : α → D) (l : List α) (i : Int) (hi : inR l i) : atI (l.map e) i = some (e (atZ l i)) := by
  have h2 : atI (l.map e) i = (atI l i).map e := by
    unfold atI ixN
    simp only [List.length_map]
    split
    · split <;> simp
    · split <;> simp
  rw [h2, atI_at l i hi]; rfl
theorem o_ixS [Inhabited α] (e : α → D) (l : List α) (i : Int) (hi : inR l i) (h : Hh) : ixA (eS e l) (.int i) h = some (e (atZ l i)) := by
  show ixA (.tup (l.map e)) (.int i) h = _
  rw [ev_ixT]; exact atI_map e l i hi
theorem o_ixL [Inhabited α] (e : α → D) (l : List α) (i : Int) (hi : inR l i) (h : Hh) : ixA (eL e l) (.int i) h = some (e (atZ l i)) := by
  show ixA (.lst (l.map e)) (.int i) h = _
  rw [ev_ixL]; exact atI_map e l i hi
theorem o_ixO [Inhabited α] (e : α → D) (l : List α) (i : Int) (hi : inR l i) (h : Hh) (p : Nat) (hp : h[p]? = some (oL e l)) : ixA (.ref p) (.int i) h = some (e (atZ l i)) := by
  rw [ev_ixR, hp]
  exact atI_map e l i hi
theorem o_ixScr (l : List Int) (i : Int) (hi : inR l i) (h : Hh) : ixA (.scr l) (.int i) h = some (.int (atZ l i)) := by
  rw [ev_ixScr]; exact atI_map D.int l i hi
theorem o_lenS (e : α → D) (l : List α) (h : Hh) : lenO [eS e l] h = some (.int l.length) := by
  show some (D.int ((l.map e).length : Nat)) = _
  rw [List.length_map]
theorem o_lenL (e : α → D) (l : List α) (h : Hh) : lenO [eL e l] h = some (.int l.length) := by
  show some (D.int ((l.map e).length : Nat)) = _
  rw [List.length_map]
theorem o_lenO (e : α → D) (l : List α) (h : Hh) (p : Nat) (hp : h[p]? = some (oL e l)) : lenO [.ref p] h = some (.int l.length) := by
  rw [ev_lenR, hp]
  show some (D.int ((l.map e).length : Nat)) = _
  rw [List.length_map]
theorem o_lenScr (l : List Int) (h : Hh) : lenO [.scr l] h = some (.int l.length) := rfl
theorem o_lenD (d : Deed) (h : Hh) : lenO [eDd d] h = some (.int d.size) := by cases d <;> rfl
theorem o_addS (e : α → D) (l m : List α) (hl : l.length + m.length ≤ 16777216) (h : Hh) : addO (eS e l) (eS e m) h = some (eS e (l ++ m)) := by
  show (if (l.map e).length + (m.map e).length ≤ sizeLine then some (D.tup (l.map e ++ m.map e)) else none) = _
  rw [List.length_map, List.length_map, if_pos (by rw [sizeLine_eq]; exact hl), ← List.map_append]; rfl
theorem o_addL (e : α → D) (l m : List α) (hl : l.length + m.length ≤ 16777216) (h : Hh) : addO (eL e l) (eL e m) h = some (eL e (l ++ m)) := by
  show (if (l.map e).length + (m.map e).length ≤ sizeLine then some (D.lst (l.map e ++ m.map e)) else none) = _
  rw [List.length_map, List.length_map, if_pos (by rw [sizeLine_eq]; exact hl), ← List.map_append]; rfl
theorem o_addOL (e : α → D) (l m : List α) (hl : l.length + m.length ≤ 16777216) (h : Hh) (p : Nat) (hp : h[p]? = some (oL e l)) : addO (.ref p) (eL e m) h = some (eL e (l ++ m)) := by
  show (match seqL (.ref p) h, seqL (.lst (m.map e)) h with
    | some xs, some ys => if xs.length + ys.length ≤ sizeLine then some (D.lst (xs ++ ys)) else none
    | _, _ => none) = _
  have : seqL (.ref p) h = some (l.map e) := by rw [ev_seqLR, hp]; rfl
  rw [this]
  show (if (l.map e).length + (m.map e).length ≤ sizeLine then some (D.lst (l.map e ++ m.map e)) else none) = _
  rw [List.length_map, List.length_map, if_pos (by rw [sizeLine_eq]; exact hl), ← List.map_append]; rfl
theorem o_tupL (e : α → D) (l : List α) (h : Hh) : tupleO [eL e l] h = some (eS e l) := rfl
theorem o_tupS (e : α → D) (l : List α) (h : Hh) : tupleO [eS e l] h = some (eS e l) := rfl
theorem o_tupO (e : α → D) (l : List α) (h : Hh) (p : Nat) (hp : h[p]? = some (oL e l)) : tupleO [.ref p] h = some (eS e l) := by
  rw [ev_tupleR, hp]; rfl
theorem o_all (p : α → Bool) (l : List α) (h : Hh) : allO [eL D.bl (l.map p)] h = some (.bl (l.all p)) := by
  show ((some (((l.map p).map D.bl))).bind fun xs => (truths xs).map fun bs => D.bl (bs.all id)) = _
  have : (l.map p).map D.bl = l.map fun x => D.bl (p x) := by rw [List.map_map]; rfl
  rw [this]
  show ((truths (l.map fun x => D.bl (p x))).map fun bs => D.bl (bs.all id)) = _
  rw [truths_map, Option.map_some, all_map]
theorem o_any (p : α → Bool) (l : List α) (h : Hh) : anyO [eL D.bl (l.map p)] h = some (.bl (l.any p)) := by
  show ((some (((l.map p).map D.bl))).bind fun xs => (truths xs).map fun bs => D.bl (bs.any id)) = _
  have : (l.map p).map D.bl = l.map fun x => D.bl (p x) := by rw [List.map_map]; rfl
  rw [this]
  show ((truths (l.map fun x => D.bl (p x))).map fun bs => D.bl (bs.any id)) = _
  rw [truths_map, Option.map_some, any_map]
theorem intsOf_map (l : List Int) : intsOf (l.map D.int) = some l := by
  induction l with
  | nil => rfl
  | cons x xs ih => rw [List.map_cons, intsOf, ih]; rfl
theorem o_sum (l : List Int) (h : Hh) : sumLO [eL D.int l] h = some (.int l.sum) := by
  show (intsOf (l.map D.int)).map (fun ns => D.int ns.sum) = _
  rw [intsOf_map]; rfl
/-- the greatest -/
def maxL (l : List Int) : Int := match l with | [] => 0 | n :: r => maxI r n
theorem o_max (l : List Int) (hl : l ≠ []) (h : Hh) : maxLO [eL D.int l] h = some (.int (maxL l)) := by
  show maxOf (intsOf (l.map D.int)) = _
  rw [intsOf_map]
  cases l with
  | nil => exact absurd rfl hl
  | cons n r => rfl
theorem o_isN {e : α → D} [NN e] (x : Option α) (h : Hh) : isNO false (eO e x) .non h = some (.bl x.isNone) := by
  cases x with
  | none => rfl
  | some a => exact NN.nn a h false
theorem o_notN {e : α → D} [NN e] (x : Option α) (h : Hh) : isNO true (eO e x) .non h = some (.bl x.isSome) := by
  cases x with
  | none => rfl
  | some a => exact NN.nn a h true
theorem cut_map (e : α → D) (l : List α) (lo hi : Option Int) : cutG (l.map e) lo hi = (cutG l lo hi).map e := by
  unfold cutG
  rw [List.length_map, ← List.map_drop, ← List.map_take]
theorem o_slS (e : α → D) (l : List α) (lo hi : Option Int) (h : Hh) : sliceO (eS e l) lo hi h = some (eS e (cutG l lo hi)) := by
  show some (D.tup (cutG (l.map e) lo hi)) = _
  rw [cut_map]; rfl
theorem o_slL (e : α → D) (l : List α) (lo hi : Option Int) (h : Hh) : sliceO (eL e l) lo hi h = some (eL e (cutG l lo hi)) := by
  show some (D.lst (cutG (l.map e) lo hi)) = _
  rw [cut_map]; rfl
theorem rep_map (e : α → D) (l : List α) (k : Int) : repG (l.map e) k = (repG l k).map e := by
  unfold repG
  rw [List.map_flatten, List.map_replicate]
theorem o_mulS (e : α → D) (l : List α) (k : Int) (hk : -1000 ≤ k ∧ k ≤ 1000 ∧ l.length ≤ 1000) (h : Hh) : mulB (eS e l) (.int k) h = some (eS e (repG l k)) := by
  show mulB (.tup (l.map e)) (.int k) h = _
  rw [ev_mulBT, List.length_map, if_pos hk, rep_map]; rfl
theorem o_mulI (i j : Int) (hs : ((-18446744073709551616 < i ∧ i < 18446744073709551616) ∨ (-18446744073709551616 < j ∧ j < 18446744073709551616)) ∨ i.natAbs.log2 + j.natAbs.log2 < 1000000) (h : Hh) : mulB (.int i) (.int j) h = some (.int (i * j)) := if_pos hs
theorem o_mod (i j : Int) (hj : 0 < j) (h : Hh) : modO (.int i) (.int j) h = some (.int (i % j)) := if_pos hj
theorem o_fdiv (i j : Int) (hj : 0 < j ∧ j < 1073741824) (h : Hh) : fdivO (.int i) (.int j) h = some (.int (i / j)) := if_pos hj
theorem o_pow (i j : Int) (hj : 0 ≤ j ∧ j ≤ 1000000 ∧ i.natAbs < 18446744073709551616) (h : Hh) : powO (.int i) (.int j) h = some (.int (i ^ j.toNat)) := if_pos hj
theorem o_revS (e : α → D) (l : List α) (h : Hh) : revO (eS e l) h = some (eS e l.reverse) := by
  show some (D.tup (l.map e).reverse) = _
  rw [← List.map_reverse]; rfl
theorem o_revL (e : α → D) (l : List α) (h : Hh) : revO (eL e l) h = some (eL e l.reverse) := by
  show some (D.lst (l.map e).reverse) = _
  rw [← List.map_reverse]; rfl

/-! deeds, by their parts -/
theorem o_dw (d : Deed) (h : Hh) : ixA (eDd d) (.int 0) h = some (eW d.word) := by cases d <;> rfl
theorem o_dg (d : Deed) (hd : d.isTick = false) (h : Hh) : ixA (eDd d) (.int 1) h = some (.int d.guest) := by cases d <;> first | rfl | cases hd
theorem o_dl (d : Deed) (hd : d.isAsk = true) (h : Hh) : ixA (eDd d) (.int 2) h = some (eO D.int d.left) := by cases d <;> first | rfl | cases hd

/-! ### names that are taken apart -/
def sAll : List Nat → List D → SEnv → SEnv
  | i :: is, d :: ds, s => sAll is ds (s.set i (some (.v d)))
  | _, _, s => s
theorem sat_all {F : Fr} : ∀ (is : List Nat) (ds : List D) (s : SEnv) (env : DEnv) (h : Hh), Sat F s env h → Sat F (sAll is ds s) (setAll is ds env) h
  | [], _, _, _, _, S => S
  | _ :: _, [], _, _, _, S => S
  | i :: is, d :: ds, s, env, h, S => sat_all is ds _ _ h (S.setV i d)
theorem qb_name {s : SEnv} {d : D} (i : Nat) : QB (.name i) d s (s.set i (some (.v d))) := fun F env h S => ⟨_, rfl, S.setV i d⟩
theorem qb_tup {s : SEnv} {ds : List D} (is : List Nat) (hl : ds.length = is.length := by rfl) : QB (.tup is) (.tup ds) s (sAll is ds s) := fun F env h S => ⟨_, if_pos hl, sat_all is ds s env h S⟩
theorem qb_wtp {s : SEnv} {ds : List D} (is : List Nat) (hl : ds.length = is.length := by rfl) : QB (.tup is) (.wtp ds) s (sAll is ds s) := fun F env h S => ⟨_, if_pos hl, sat_all is ds s env h S⟩
theorem qb_ask {s : SEnv} {d : Deed} (i j k : Nat) (hd : d.isAsk = true) : QB (.tup [i, j, k]) (eDd d) s (sAll [i, j, k] [eW d.word, .int d.guest, eO D.int d.left] s) := by
  cases d with
  | ask w g l => exact qb_tup _
  | mov w g => cases hd
  | tick => cases hd

/-! ### what is walked -/
variable {F : Fr} {s s1 s2 : SEnv} {A B : ME} {i : Nat}
theorem qi_S {e : α → D} {l : List α} (hA : QX F s A (eS e l) s1) : QI F s (iOf A) (l.map e) s1 := fun env h S => by
  obtain ⟨h1, e1, S1⟩ := hA env h S
  exact ⟨h1, by unfold iOf; rw [e1, bind_ok]; rfl, S1⟩
theorem qi_L {e : α → D} {l : List α} (hA : QX F s A (eL e l) s1) : QI F s (iOf A) (l.map e) s1 := fun env h S => by
  obtain ⟨h1, e1, S1⟩ := hA env h S
  exact ⟨h1, by unfold iOf; rw [e1, bind_ok]; rfl, S1⟩
theorem qi_O {e : α → D} {l : List α} (hx : Hs s i (oL e l)) : QIo F s (iOf (eSlot i)) i (l.map e) (l.map e) := fun env h S => by
  obtain ⟨p, e1, e2⟩ := S.cell i _ hx
  refine ⟨h, p, e1, ?_, S⟩
  unfold iOf eSlot
  rw [e1]
  show lift (srcOf (.ref p) h) h = _
  rw [ev_srcR, e2]
  rfl
/-- range -/
def rngT (lo hi : Int) : List Int := (List.range (hi - lo).toNat).map fun i : Nat => lo + (i : Int)
theorem rng_map (lo hi : Int) : rangeD lo hi = (rngT lo hi).map D.int := by unfold rangeD rngT; rw [List.map_map]; rfl
theorem qi_rng1 {k : Int} (hA : QX F s A (.int k) s1) (hk : -1000000 ≤ k ∧ k ≤ 1000000) : QI F s (iA rng1 (aCons A aNil)) ((rngT 0 k).map D.int) s1 := fun env h S => by
  obtain ⟨h1, e1, S1⟩ := hA env h S
  refine ⟨h1, ?_, S1⟩
  unfold iA aCons aNil
  rw [e1, bind_ok]
  show lift (rng1 [.int k] h1) h1 = _
  show lift (if -1000000 ≤ k ∧ k ≤ 1000000 then some (⟨rangeD 0 k, none⟩ : Src) else none) h1 = _
  rw [if_pos hk, rng_map]; rfl
theorem qi_rng2 {j k : Int} (hA : QX F s A (.int j) s1) (hB : QX F s1 B (.int k) s2) (hk : (-1000000 ≤ j ∧ j ≤ 1000000) ∧ -1000000 ≤ k ∧ k ≤ 1000000) : QI F s (iA rng2 (aCons A (aCons B aNil))) ((rngT j k).map D.int) s2 := fun env h S => by
  obtain ⟨h1, e1, S1⟩ := hA env h S
  obtain ⟨h2, e2, S2⟩ := hB env h1 S1
  refine ⟨h2, ?_, S2⟩
  unfold iA aCons aNil
  rw [e1, bind_ok, e2, bind_ok]
  show lift (if (-1000000 ≤ j ∧ j ≤ 1000000) ∧ -1000000 ≤ k ∧ k ≤ 1000000 then some (⟨rangeD j k, none⟩ : Src) else none) h2 = _
  rw [if_pos hk, rng_map]; rfl
/-- enumerate -/
def enumT (l : List α) : List (Int × α) := l.zipIdx.map fun p => ((p.2 : Int), p.1)
theorem enum_map (e : α → D) (l : List α) : enumD (l.map e) = (enumT l).map (eW2 D.int e) := by
  unfold enumD enumT
  rw [List.zipIdx_map, List.map_map, List.map_map]
  rfl
theorem qi_enumS {e : α → D} {l : List α} (hA : QX F s A (eS e l) s1) : QI F s (iA enm (aCons A aNil)) ((enumT l).map (eW2 D.int e)) s1 := fun env h S => by
  obtain ⟨h1, e1, S1⟩ := hA env h S
  refine ⟨h1, ?_, S1⟩
  unfold iA aCons aNil
  rw [e1, bind_ok]
  show lift (some (⟨enumD (l.map e), none⟩ : Src)) h1 = _
  rw [enum_map]; rfl
theorem qi_enumL {e : α → D} {l : List α} (hA : QX F s A (eL e l) s1) : QI F s (iA enm (aCons A aNil)) ((enumT l).map (eW2 D.int e)) s1 := fun env h S => by
  obtain ⟨h1, e1, S1⟩ := hA env h S
  refine ⟨h1, ?_, S1⟩
  unfold iA aCons aNil
  rw [e1, bind_ok]
  show lift (some (⟨enumD (l.map e), none⟩ : Src)) h1 = _
  rw [enum_map]; rfl
theorem qi_enumO {e : α → D} {l : List α} (hx : Hs s i (oL e l)) : QIo F s (iA enm (aCons (eSlot i) aNil)) i ((enumT l).map (eW2 D.int e)) (l.map e) := fun env h S => by
  obtain ⟨p, e1, e2⟩ := S.cell i _ hx
  refine ⟨h, p, e1, ?_, S⟩
  unfold iA aCons aNil eSlot
  rw [e1]
  show lift ((srcOf (.ref p) h).map fun src => (⟨enumD src.items, src.live⟩ : Src)) h = _
  rw [ev_srcR, e2]
  show Res.ok (⟨enumD (l.map e), some (p, l.map e)⟩ : Src) h = _
  rw [enum_map]
/-- zip -/
theorem zip_map (a : α → D) (b : β → D) (l : List α) (m : List β) : zipD (l.map a) (m.map b) = (l.zip m).map (eW2 a b) := by
  unfold zipD
  rw [List.zip_map, List.map_map]
  rfl
theorem qi_zip {da db : D} {l : List α} {m : List β} {a : α → D} {b : β → D} (hA : QX F s A da s1) (hB : QX F s1 B db s2) (h1 : ∀ h, seqOf da h = some ⟨l.map a, none⟩) (h2 : ∀ h, seqOf db h = some ⟨m.map b, none⟩) :
    QI F s (iA zp (aCons A (aCons B aNil))) ((l.zip m).map (eW2 a b)) s2 := fun env h S => by
  obtain ⟨h1', e1, S1⟩ := hA env h S
  obtain ⟨h2', e2, S2⟩ := hB env h1' S1
  refine ⟨h2', ?_, S2⟩
  unfold iA aCons aNil
  rw [e1, bind_ok, e2, bind_ok]
  show lift (match seqOf da h2', seqOf db h2' with
    | some s1, some s2 => (joinL s1.live s2.live).map fun l => (⟨zipD s1.items s2.items, l⟩ : Src)
    | _, _ => none) h2' = _
  rw [h1, h2]
  show Res.ok (⟨zipD (l.map a) (m.map b), none⟩ : Src) h2' = _
  rw [zip_map]

/-! ### comprehensions -/
def wipeS (s : SEnv) : List Nat → SEnv
  | [] => s
  | v :: vs => (wipeS s vs).set v none
theorem sat_wipe {env : DEnv} {h : Hh} (S : Sat F s env h) : ∀ vs : List Nat, Sat F (wipeS s vs) (wipeE env vs) h
  | [] => S
  | v :: vs => (sat_wipe S vs).setN v
theorem len_wipe : ∀ vs : List Nat, (wipeS s vs).length = s.length
  | [] => rfl
  | v :: vs => by rw [wipeS, List.length_set, len_wipe vs]
theorem wipe_ne {j : Nat} : ∀ {vs : List Nat}, j ∉ vs → (wipeS s vs)[j]? = s[j]?
  | [], _ => rfl
  | v :: vs, h => by
    rw [wipeS, List.getElem?_set_ne (fun e => h (by rw [← e]; exact List.mem_cons_self)), wipe_ne fun e => h (List.mem_cons_of_mem _ e)]
theorem wipeE_ne {env : DEnv} {j : Nat} : ∀ {vs : List Nat}, j ∉ vs → (wipeE env vs)[j]? = env[j]?
  | [], _ => rfl
  | v :: vs, h => by
    rw [wipeE, List.getElem?_set_ne (fun e => h (by rw [← e]; exact List.mem_cons_self)), wipeE_ne fun e => h (List.mem_cons_of_mem _ e)]
theorem setAll_ne {ds : List D} {env : DEnv} {j : Nat} {is : List Nat} (h : j ∉ is) : (setAll is ds env)[j]? = env[j]? := by
  induction is generalizing ds env with
  | nil => rfl
  | cons i is ih =>
    cases ds with
    | nil => rfl
    | cons d ds =>
      show (setAll is ds (env.set i (some d)))[j]? = _
      rw [ih fun e => h (List.mem_cons_of_mem _ e), List.getElem?_set_ne (fun e => h (by rw [← e]; exact List.mem_cons_self))]
theorem bindT_ne {T : Tg} {d : D} {env env' : DEnv} {j : Nat} (e : bindT T d env = some env') (h : j ∉ T.slots) : env'[j]? = env[j]? := by
  cases T with
  | name i =>
    cases e
    exact List.getElem?_set_ne fun e => h (by rw [← e]; exact List.mem_cons_self)
  | tup is =>
    unfold bindT at e
    cases d with
    | tup ds =>
      simp only at e
      split at e
      · cases e; exact setAll_ne h
      · cases e
    | wtp ds =>
      simp only at e
      split at e
      · cases e; exact setAll_ne h
      · cases e
    | non => cases e
    | bl b => cases e
    | int i => cases e
    | str x => cases e
    | lst xs => cases e
    | ref i => cases e
    | glb u => cases e
    | scr u => cases e
/-- a list that is made -/
def QL (F : Fr) (s : SEnv) (m : MA) (e : α → D) (l : List α) (s' : SEnv) : Prop := ∀ env h, Sat F s env h → ∃ h', m env h = .ok (l.map e) h' ∧ Sat F s' env h'
theorem ql_frz {e : α → D} {l : List α} {m : MA} (hA : QL F s m e l s1) : QX F s (eFrz m) (eL e l) s1 := q_frz (ds := l.map e) hA
theorem ql_nil {e : α → D} : QL F s aNil e [] s := qa_nil
theorem ql_cons {e : α → D} {x : α} {l : List α} {m : MA} (hA : QX F s A (e x) s1) (hB : QL F s1 m e l s2) : QL F s (aCons A m) e (x :: l) s2 := qa_cons (ds := l.map e) hA hB
theorem ql_tup {e : α → D} {l : List α} {m : MA} (hA : QL F s m e l s1) : QX F s (eTup m) (eS e l) s1 := q_tup (ds := l.map e) hA
theorem ql_seqL {e : α → D} {l : List α} (hA : QX F s A (eL e l) s1) : QL F s (aSeq A) e l s1 := fun env h S => by
  obtain ⟨h1, e1, S1⟩ := hA env h S
  exact ⟨h1, by unfold aSeq; rw [e1, bind_ok]; rfl, S1⟩
theorem ql_seqS {e : α → D} {l : List α} (hA : QX F s A (eS e l) s1) : QL F s (aSeq A) e l s1 := fun env h S => by
  obtain ⟨h1, e1, S1⟩ := hA env h S
  exact ⟨h1, by unfold aSeq; rw [e1, bind_ok]; rfl, S1⟩
theorem ql_seqO {e : α → D} {l : List α} (hx : Hs s i (oL e l)) : QL F s (aSeq (eSlot i)) e l s := fun env h S => by
  obtain ⟨p, e1, e2⟩ := S.cell i _ hx
  refine ⟨h, ?_, S⟩
  unfold aSeq eSlot
  rw [e1]
  show lift (seqL (.ref p) h) h = _
  rw [ev_seqLR, e2]; rfl
theorem ql_rg {k : Int} (hA : QX F s A (.int k) s1) (hk : -1000000 ≤ k ∧ k ≤ 1000000) : QL F s (aRg A) D.int (rngT 0 k) s1 := fun env h S => by
  obtain ⟨h1, e1, S1⟩ := hA env h S
  refine ⟨h1, ?_, S1⟩
  unfold aRg
  rw [e1, bind_ok]
  show lift (if -1000000 ≤ k ∧ k ≤ 1000000 then some (rangeD 0 k) else none) h1 = _
  rw [if_pos hk, rng_map]; rfl
/-- names bound -/
def bS (T : Tg) (d : D) (s : SEnv) : SEnv := match T with
  | .name i => s.set i (some (.v d))
  | .tup is => match d with
    | .tup ds => sAll is ds s
    | .wtp ds => sAll is ds s
    | _ => s
def Bd (T : Tg) (d : D) : Prop := match T with
  | .name _ => True
  | .tup is => match d with
    | .tup ds => ds.length = is.length
    | .wtp ds => ds.length = is.length
    | _ => False
theorem bd_of {T : Tg} {d : D} (b : Bd T d) {s : SEnv} : QB T d s (bS T d s) := by
  cases T with
  | name i => exact qb_name i
  | tup is =>
    cases d with
    | tup ds => exact qb_tup is b
    | wtp ds => exact qb_wtp is b
    | non => exact b.elim
    | bl b' => exact b.elim
    | int i => exact b.elim
    | str x => exact b.elim
    | lst xs => exact b.elim
    | ref i => exact b.elim
    | glb u => exact b.elim
    | scr u => exact b.elim
theorem sAll_ne {is : List Nat} : ∀ {ds : List D} {s : SEnv} {j : Nat}, j ∉ is → (sAll is ds s)[j]? = s[j]? := by
  induction is with
  | nil => intro ds s j h; rfl
  | cons i is ih =>
    intro ds s j h
    cases ds with
    | nil => rfl
    | cons d ds =>
      show (sAll is ds (s.set i (some (Sl.v d))))[j]? = _
      rw [ih fun e => h (List.mem_cons_of_mem _ e), List.getElem?_set_ne (fun e => h (by rw [← e]; exact List.mem_cons_self))]
theorem bS_ne {T : Tg} {d : D} {s : SEnv} {j : Nat} (h : j ∉ T.slots) : (bS T d s)[j]? = s[j]? := by
  cases T with
  | name i => exact List.getElem?_set_ne fun e => h (by rw [← e]; exact List.mem_cons_self)
  | tup is =>
    cases d with
    | tup ds => exact sAll_ne h
    | wtp ds => exact sAll_ne h
    | _ => rfl
/-- no things of the def's own at these places -/
def isC (s : SEnv) (i : Nat) : Bool := match s[i]? with
  | some (some (.own _)) => true
  | some (some (.bor _ _)) => true
  | some (some (.hid _ _)) => true
  | _ => false
def noC (s : SEnv) (vs : List Nat) : Bool := vs.all fun i => !isC s i
theorem noC_of {s : SEnv} {vs : List Nat} (h : noC s vs = true) {j : Nat} {c : Sl} (e : s[j]? = some (some c)) (n : ∀ d, c ≠ Sl.v d) : j ∉ vs := fun m => by
  have h1 := List.all_eq_true.mp h j m
  unfold isC at h1
  rw [e] at h1
  cases c with
  | v d => exact n d rfl
  | own o => cases h1
  | bor p o => cases h1
  | hid p o => cases h1
theorem comp_restore {env env1 : DEnv} {h h' : Hh} {vs : List Nat} {T : Tg} {d : D} (S : Sat F s env h) (hT : ∀ i ∈ T.slots, i ∈ vs) (hv : noC s vs = true) (eb : bindT T d (wipeE env vs) = some env1) (S1 : Sat F (bS T d (wipeS s vs)) env1 h') : Sat F s env h' :=
  S.back S1 rfl (fun _ _ e => e) fun j c e n => by
    have nj := noC_of hv e n
    exact ⟨by rw [bS_ne fun m => nj (hT j m), wipe_ne nj]; exact e, by rw [bindT_ne eb fun m => nj (hT j m), wipeE_ne nj]⟩
theorem gOk_cell {e : List D} {p : Nat} {h : Hh} (hp : h[p]? = some (.lst e)) : gOk (some (p, e)) h := fun i ds q => by cases q; exact hp
theorem compL_nil {g : Option (Nat × List D)} {T : Tg} {t : MT} {e : ME} {env : DEnv} {h : Hh} (hg : gOk g h) : compL g T t e env [] h = .ok [] h := by unfold compL; rw [if_pos hg]
theorem comp_run {e : β → D} {T : Tg} {vs : List Nat} {t : MT} {el : ME} {e2 : α → D} {p : β → Bool} {f : β → α} {g : Option (Nat × List D)} {env : DEnv} (hT : ∀ i ∈ T.slots, i ∈ vs) (hv : noC s vs = true) (hg : ∀ h, Sat F s env h → gOk g h) :
    ∀ (xs : List β), (∀ x ∈ xs, Bd T (e x)) → (∀ x ∈ xs, QT F (bS T (e x) (wipeS s vs)) t (p x) (bS T (e x) (wipeS s vs))) → (∀ x ∈ xs, p x = true → QX F (bS T (e x) (wipeS s vs)) el (e2 (f x)) (bS T (e x) (wipeS s vs))) →
    ∀ h, Sat F s env h → ∃ h', compL g T t el (wipeE env vs) (xs.map e) h = .ok (((xs.filter p).map f).map e2) h' ∧ Sat F s env h'
  | [], _, _, _, h, S => ⟨h, compL_nil (hg h S), S⟩
  | x :: xs, hb, ht, he, h, S => by
    obtain ⟨env1, eb, S1⟩ := bd_of (hb x List.mem_cons_self) F (wipeE env vs) h (sat_wipe S vs)
    obtain ⟨h1, e1, S2⟩ := ht x List.mem_cons_self env1 h S1
    have S2' := comp_restore S hT hv eb S2
    have next := comp_run (e := e) (e2 := e2) (f := f) hT hv hg xs (fun y m => hb y (List.mem_cons_of_mem _ m)) (fun y m => ht y (List.mem_cons_of_mem _ m)) (fun y m => he y (List.mem_cons_of_mem _ m))
    rw [List.map_cons]
    unfold compL
    rw [if_pos (hg h S), eb]
    show ∃ h', ((t env1 h).bind _) = _ ∧ _
    rw [e1, bind_ok]
    cases hp : p x with
    | true =>
      obtain ⟨h2, e3, S3⟩ := he x List.mem_cons_self hp env1 h1 S2
      have S3' := comp_restore S hT hv eb S3
      obtain ⟨h', e4, S4⟩ := next h2 S3'
      refine ⟨h', ?_, S4⟩
      show ((el env1 h1).bind _) = _
      rw [e3, bind_ok, e4, bind_ok, List.filter_cons, if_pos hp]; rfl
    | false =>
      obtain ⟨h', e4, S4⟩ := next h1 S2'
      refine ⟨h', ?_, S4⟩
      show compL g T t el (wipeE env vs) (xs.map e) h1 = _
      rw [e4, List.filter_cons, if_neg (by rw [hp]; decide)]
variable {e : β → D} {xs : List β} {T : Tg} {vs : List Nat} {t : MT} {el : ME} {e2 : α → D} {p : β → Bool} {f : β → α} {mi : MI}
theorem ql_comp (hi : QI F s mi (xs.map e) s1) (hT : ∀ i ∈ T.slots, i ∈ vs) (hv : noC s1 vs = true) (hb : ∀ x ∈ xs, Bd T (e x)) (ht : ∀ x ∈ xs, QT F (bS T (e x) (wipeS s1 vs)) t (p x) (bS T (e x) (wipeS s1 vs)))
    (he : ∀ x ∈ xs, p x = true → QX F (bS T (e x) (wipeS s1 vs)) el (e2 (f x)) (bS T (e x) (wipeS s1 vs))) : QL F s (aComp mi T t el vs) e2 ((xs.filter p).map f) s1 := fun env h S => by
  obtain ⟨h1, e1, S1⟩ := hi env h S
  obtain ⟨h2, e2', S2⟩ := comp_run (g := none) hT hv (fun _ _ => gOk_none) xs hb ht he h1 S1
  exact ⟨h2, by unfold aComp; rw [e1, bind_ok, e2']; rfl, S2⟩
theorem filter_tt (xs : List β) : xs.filter (fun _ => true) = xs := by induction xs with | nil => rfl | cons x xs ih => rw [List.filter_cons]; simp
theorem ql_map (hi : QI F s mi (xs.map e) s1) (hT : ∀ i ∈ T.slots, i ∈ vs) (hv : noC s1 vs = true) (hb : ∀ x ∈ xs, Bd T (e x))
    (he : ∀ x ∈ xs, QX F (bS T (e x) (wipeS s1 vs)) el (e2 (f x)) (bS T (e x) (wipeS s1 vs))) : QL F s (aComp mi T (fun _ h => .ok true h) el vs) e2 (xs.map f) s1 := by
  have := ql_comp (p := fun _ => true) (e2 := e2) (f := f) (t := fun _ h => .ok true h) hi hT hv hb (fun x _ env h S => ⟨h, rfl, S⟩) (fun x m _ => he x m)
  rw [filter_tt] at this
  exact this
theorem hg_own {i : Nat} {es : List D} {P : Nat} (hx : Hs s i (.lst es)) {env0 : DEnv} (e0 : env0[i]? = some (some (D.ref P))) : ∀ h, Sat F s env0 h → gOk (some (P, es)) h := fun h S => by
  obtain ⟨q, e1, e2⟩ := S.cell i _ hx
  rw [e0] at e1
  cases e1
  exact gOk_cell e2
theorem ql_compO {i : Nat} {es : List D} (hi : QIo F s mi i (xs.map e) es) (hx : Hs s i (.lst es)) (hT : ∀ i ∈ T.slots, i ∈ vs) (hv : noC s vs = true) (hb : ∀ x ∈ xs, Bd T (e x)) (ht : ∀ x ∈ xs, QT F (bS T (e x) (wipeS s vs)) t (p x) (bS T (e x) (wipeS s vs)))
    (he : ∀ x ∈ xs, p x = true → QX F (bS T (e x) (wipeS s vs)) el (e2 (f x)) (bS T (e x) (wipeS s vs))) : QL F s (aComp mi T t el vs) e2 ((xs.filter p).map f) s := fun env h S => by
  obtain ⟨h1, P, ep, e1, S1⟩ := hi env h S
  obtain ⟨h2, e2', S2⟩ := comp_run (g := some (P, es)) hT hv (hg_own hx ep) xs hb ht he h1 S1
  exact ⟨h2, by unfold aComp; rw [e1, bind_ok, e2']; rfl, S2⟩
end
end MR

/-! Q4: lists made with changes on the way, statements, loops, defs. -/
namespace MR
open PySem PySem.Spec PyProof.Rows L2

/-! ### a comprehension whose parts change a thing -/
def mapSt {α β L : Type} (g : β → L → α × L) : List β → L → List α × L
  | [], l => ([], l)
  | x :: xs, l => ((g x l).1 :: (mapSt g xs (g x l).2).1, (mapSt g xs (g x l).2).2)
def okSt {α β L : Type} (g : β → L → α × L) (ok : β → L → Prop) : List β → L → Prop
  | [], _ => True
  | x :: xs, l => ok x l ∧ okSt g ok xs (g x l).2
theorem chS_ne {s : SEnv} {i j : Nat} {o : O} (n : i ≠ j) : (chS s i o)[j]? = s[j]? := by
  unfold chS
  split
  · exact List.getElem?_set_ne n
  · exact List.getElem?_set_ne n
  · rfl
theorem chS_len {s : SEnv} {i : Nat} {o : O} : (chS s i o).length = s.length := by
  unfold chS
  split
  · exact List.length_set
  · exact List.length_set
  · rfl
theorem chS_v {s : SEnv} {i j : Nat} {o : O} {d : D} (h : (chS s i o)[j]? = some (some (Sl.v d))) : s[j]? = some (some (Sl.v d)) := by
  by_cases n : i = j
  · subst n
    unfold chS at h
    split at h
    · have := (set_get h).1; cases this
    · have := (set_get h).1; cases this
    · exact h
  · rw [chS_ne n] at h; exact h
theorem v_chS {s : SEnv} {i j : Nat} {o : O} {d : D} (h : s[j]? = some (some (Sl.v d))) : (chS s i o)[j]? = some (some (Sl.v d)) := by
  by_cases n : i = j
  · subst n
    unfold chS
    split
    · rename_i q; rw [h] at q; cases q
    · rename_i q; rw [h] at q; cases q
    · exact h
  · rw [chS_ne n]; exact h
section
variable {α β L : Type} {F : Fr} {s s0 : SEnv} {i : Nat}
theorem comp_restoreX {env env1 : DEnv} {h h' : Hh} {vs : List Nat} {T : Tg} {d : D} {o o' : O} (S : Sat F (chS s0 i o) env h) (hT : ∀ i ∈ T.slots, i ∈ vs) (hv : ∀ o, noC (chS s0 i o) vs = true) (eb : bindT T d (wipeE env vs) = some env1) (S1 : Sat F (bS T d (wipeS (chS s0 i o') vs)) env1 h') : Sat F (chS s0 i o') env h' :=
  S.back S1 (by rw [chS_len, chS_len]) (fun j d e => v_chS (chS_v e)) fun j c e n => by
    have nj := noC_of (hv o') e n
    exact ⟨by rw [bS_ne fun m => nj (hT j m), wipe_ne nj]; exact e, by rw [bindT_ne eb fun m => nj (hT j m), wipeE_ne nj]⟩
theorem mapSt_run {e : β → D} {T : Tg} {vs : List Nat} {el : ME} {e2 : α → D} {oc : L → O} {g : β → L → α × L} {ok : β → L → Prop} {env : DEnv} (hT : ∀ i ∈ T.slots, i ∈ vs) (hv : ∀ o, noC (chS s0 i o) vs = true) :
    ∀ (xs : List β) (l : L), (∀ x ∈ xs, Bd T (e x)) → (∀ x ∈ xs, ∀ l, ok x l → QX F (bS T (e x) (wipeS (chS s0 i (oc l)) vs)) el (e2 (g x l).1) (bS T (e x) (wipeS (chS s0 i (oc (g x l).2)) vs))) → okSt g ok xs l →
    ∀ h, Sat F (chS s0 i (oc l)) env h → ∃ h', compL none T (fun _ h => .ok true h) el (wipeE env vs) (xs.map e) h = .ok ((mapSt g xs l).1.map e2) h' ∧ Sat F (chS s0 i (oc (mapSt g xs l).2)) env h'
  | [], l, _, _, _, h, S => ⟨h, compL_nil gOk_none, S⟩
  | x :: xs, l, hb, he, hk, h, S => by
    obtain ⟨env1, eb, S1⟩ := bd_of (hb x List.mem_cons_self) F (wipeE env vs) h (sat_wipe S vs)
    obtain ⟨h1, e1, S2⟩ := he x List.mem_cons_self l hk.1 env1 h S1
    have S2' := comp_restoreX S hT hv eb S2
    obtain ⟨h', e4, S4⟩ := mapSt_run (e := e) (e2 := e2) (oc := oc) (g := g) (ok := ok) hT hv xs (g x l).2 (fun y m => hb y (List.mem_cons_of_mem _ m)) (fun y m => he y (List.mem_cons_of_mem _ m)) hk.2 h1 S2'
    refine ⟨h', ?_, S4⟩
    rw [List.map_cons]
    unfold compL
    rw [if_pos gOk_none, eb]
    show ((el env1 h).bind _) = _
    rw [e1, bind_ok, e4, bind_ok]; rfl
theorem ql_mapX {e : β → D} {xs : List β} {T : Tg} {vs : List Nat} {el : ME} {e2 : α → D} {oc : L → O} {g : β → L → α × L} {ok : β → L → Prop} {mi : MI} {l0 : L} (hi : QI F s mi (xs.map e) (chS s0 i (oc l0))) (hT : ∀ i ∈ T.slots, i ∈ vs) (hv : ∀ o, noC (chS s0 i o) vs = true) (hb : ∀ x ∈ xs, Bd T (e x))
    (he : ∀ x ∈ xs, ∀ l, ok x l → QX F (bS T (e x) (wipeS (chS s0 i (oc l)) vs)) el (e2 (g x l).1) (bS T (e x) (wipeS (chS s0 i (oc (g x l).2)) vs))) (hk : okSt g ok xs l0) :
    QL F s (aComp mi T (fun _ h => .ok true h) el vs) e2 (mapSt g xs l0).1 (chS s0 i (oc (mapSt g xs l0).2)) := fun env h S => by
  obtain ⟨h1, e1, S1⟩ := hi env h S
  obtain ⟨h2, e2', S2⟩ := mapSt_run hT hv xs l0 hb he hk h1 S1
  exact ⟨h2, by unfold aComp; rw [e1, bind_ok, e2']; rfl, S2⟩
end

/-! ### statements -/
inductive Ctl (S L R X : Type) where
  | nx (s : S)
  | rt (r : R)
  | bk (l : L)
  | ct (l : L)
  | er (x : X)
section
variable {S S' L R X α β : Type}
def Ctl.bind (c : Ctl S L R X) (f : S → Ctl S' L R X) : Ctl S' L R X := match c with
  | .nx s => f s
  | .rt r => .rt r
  | .bk l => .bk l
  | .ct l => .ct l
  | .er x => .er x
def Ctl.All (c : Ctl S L R X) (p : S → Prop) : Prop := match c with
  | .nx s => p s
  | _ => True
@[simp] theorem Ctl.bind_nx (s : S) (f : S → Ctl S' L R X) : (Ctl.nx s : Ctl S L R X).bind f = f s := rfl
@[simp] theorem Ctl.bind_rt (r : R) (f : S → Ctl S' L R X) : (Ctl.rt r : Ctl S L R X).bind f = .rt r := rfl
@[simp] theorem Ctl.bind_bk (r : L) (f : S → Ctl S' L R X) : (Ctl.bk r : Ctl S L R X).bind f = .bk r := rfl
@[simp] theorem Ctl.bind_ct (r : L) (f : S → Ctl S' L R X) : (Ctl.ct r : Ctl S L R X).bind f = .ct r := rfl
@[simp] theorem Ctl.bind_er (r : X) (f : S → Ctl S' L R X) : (Ctl.er r : Ctl S L R X).bind f = .er r := rfl
@[simp] theorem Ctl.bind_ite (p : Prop) [Decidable p] (a b : Ctl S L R X) (f : S → Ctl S' L R X) : (if p then a else b).bind f = if p then a.bind f else b.bind f := by split <;> rfl
@[simp] theorem Ctl.all_nx (s : S) (p : S → Prop) : (Ctl.nx s : Ctl S L R X).All p ↔ p s := Iff.rfl
@[simp] theorem Ctl.all_rt (r : R) (p : S → Prop) : (Ctl.rt r : Ctl S L R X).All p ↔ True := Iff.rfl
@[simp] theorem Ctl.all_bk (r : L) (p : S → Prop) : (Ctl.bk r : Ctl S L R X).All p ↔ True := Iff.rfl
@[simp] theorem Ctl.all_ct (r : L) (p : S → Prop) : (Ctl.ct r : Ctl S L R X).All p ↔ True := Iff.rfl
@[simp] theorem Ctl.all_er (r : X) (p : S → Prop) : (Ctl.er r : Ctl S L R X).All p ↔ True := Iff.rfl
@[simp] theorem Ctl.all_ite (c : Prop) [Decidable c] (a b : Ctl S L R X) (p : S → Prop) : (if c then a else b).All p ↔ (c → a.All p) ∧ (¬ c → b.All p) := by split <;> simp [*]
def letC (v : α) (f : α → β) : β := f v
@[simp] theorem letC_eq (v : α) (f : α → β) : letC v f = f v := rfl
/-- what a def gives back -/
def Ctl.get [Inhabited R] (c : Ctl S L R X) : R := match c with
  | .rt r => r
  | _ => default
@[simp] theorem Ctl.get_rt [Inhabited R] (r : R) : (Ctl.rt r : Ctl S L R X).get = r := rfl
@[simp] theorem Ctl.get_ite [Inhabited R] (p : Prop) [Decidable p] (a b : Ctl S L R X) : (if p then a else b).get = if p then a.get else b.get := by split <;> rfl

def forC (f : α → S → Ctl S S R X) : List α → S → Ctl S L R X
  | [], s => .nx s
  | x :: xs, s => match f x s with
    | .nx s' => forC f xs s'
    | .ct s' => forC f xs s'
    | .bk s' => .nx s'
    | .rt r => .rt r
    | .er x => .er x
def okFor (f : α → S → Ctl S S R X) (ok : α → S → Prop) : List α → S → Prop
  | [], _ => True
  | x :: xs, s => ok x s ∧ match f x s with
    | .nx s' => okFor f ok xs s'
    | .ct s' => okFor f ok xs s'
    | _ => True
def whileT (c : S → Bool) (f : S → Ctl S S R X) : Nat → S → Option (Ctl S L R X)
  | 0, _ => none
  | n + 1, s => if c s = true then (match f s with
    | .nx s' => whileT c f n s'
    | .ct s' => whileT c f n s'
    | .bk s' => some (.nx s')
    | .rt r => some (.rt r)
    | .er x => some (.er x)) else some (.nx s)
open Classical in
noncomputable def whileC (c : S → Bool) (f : S → Ctl S S R X) (s : S) : Ctl S L R X := if q : ∃ n r, whileT (L := L) c f n s = some r then Classical.choose (Classical.choose_spec q) else .nx s
def okN (c : S → Bool) (f : S → Ctl S S R X) (okc okf : S → Prop) : Nat → S → Prop
  | 0, _ => False
  | n + 1, s => okc s ∧ (c s = true → okf s ∧ match f s with
    | .nx s' => okN c f okc okf n s'
    | .ct s' => okN c f okc okf n s'
    | _ => True)
def okW (c : S → Bool) (f : S → Ctl S S R X) (okc okf : S → Prop) (s : S) : Prop := ∃ n, okN c f okc okf n s
theorem whileT_up {c : S → Bool} {f : S → Ctl S S R X} : ∀ (n k : Nat) (s : S) (r : Ctl S L R X), whileT c f n s = some r → whileT c f (n + k) s = some r
  | 0, k, s, r, h => by cases h
  | n + 1, k, s, r, h => by
    rw [show n + 1 + k = (n + k) + 1 by omega]
    unfold whileT at h ⊢
    split
    · rename_i hc
      rw [if_pos hc] at h
      cases e : f s with
      | nx s' => rw [e] at h; exact whileT_up n k s' r h
      | ct s' => rw [e] at h; exact whileT_up n k s' r h
      | bk s' => rw [e] at h; exact h
      | rt s' => rw [e] at h; exact h
      | er s' => rw [e] at h; exact h
    · rename_i hc
      rw [if_neg hc] at h
      exact h
theorem whileC_eq {c : S → Bool} {f : S → Ctl S S R X} {n : Nat} {s : S} {r : Ctl S L R X} (h : whileT c f n s = some r) : whileC c f s = r := by
  unfold whileC
  have q : ∃ n r, whileT (L := L) c f n s = some r := ⟨n, r, h⟩
  rw [dif_pos q]
  have h2 := Classical.choose_spec (Classical.choose_spec q)
  have a := whileT_up n (Classical.choose q) s r h
  have b := whileT_up (Classical.choose q) n s _ h2
  rw [Nat.add_comm] at b
  rw [a] at b
  exact (Option.some.inj b).symm
end
structure Kf (L R X : Type) where
  F : Fr
  Z : R → D → Hh → Prop
  EX : X → Exn → Prop
  EL : L → SEnv
def Agree (F : Fr) (h : Hh) : Prop := F.h0.length ≤ h.length ∧ ∀ j, j < F.h0.length → j ∉ F.B → h[j]? = F.h0[j]?
theorem Sat.agree {F : Fr} {s : SEnv} {env : DEnv} {h : Hh} (S : Sat F s env h) : Agree F h := ⟨S.le, S.keep⟩
section
variable {S S' S1 S2 L R X α β : Type}
def OutOk (k : Kf L R X) (E : S → SEnv) : RS → Ctl S L R X → Prop
  | .nx env h, .nx x => Sat k.F (E x) env h
  | .rt d h, .rt r => k.Z r d h
  | .bk env h, .bk l => Sat k.F (k.EL l) env h
  | .ct env h, .ct l => Sat k.F (k.EL l) env h
  | .er x _ h, .er y => k.EX y x ∧ Agree k.F h
  | _, _ => False
def QS (k : Kf L R X) (s : SEnv) (m : MS) (E : S → SEnv) (c : Ctl S L R X) : Prop := ∀ env h, Sat k.F s env h → OutOk k E (m env h) c
variable {k : Kf L R X} {s s1 s2 : SEnv} {a b : MS} {E : S → SEnv} {E1 : S1 → SEnv} {E2 : S2 → SEnv} {c : Ctl S L R X}
theorem qs_seq {c1 : Ctl S1 L R X} {c2 : S1 → Ctl S L R X} {ok : S1 → Prop} (h1 : QS k s a E1 c1) (hok : c1.All ok) (h2 : ∀ x, ok x → QS k (E1 x) b E (c2 x)) : QS k s (sSeq a b) E (c1.bind c2) := fun env h Sx => by
  have o := h1 env h Sx
  unfold sSeq
  cases e : a env h with
  | nx env' h' =>
    rw [e] at o
    cases c1 with
    | nx x => exact h2 x hok env' h' o
    | rt r => exact o.elim
    | bk r => exact o.elim
    | ct r => exact o.elim
    | er r => exact o.elim
  | rt d h' =>
    rw [e] at o
    cases c1 with
    | rt r => exact o
    | nx r => exact o.elim
    | bk r => exact o.elim
    | ct r => exact o.elim
    | er r => exact o.elim
  | bk env' h' =>
    rw [e] at o
    cases c1 with
    | bk r => exact o
    | nx r => exact o.elim
    | rt r => exact o.elim
    | ct r => exact o.elim
    | er r => exact o.elim
  | ct env' h' =>
    rw [e] at o
    cases c1 with
    | ct r => exact o
    | nx r => exact o.elim
    | rt r => exact o.elim
    | bk r => exact o.elim
    | er r => exact o.elim
  | er x env' h' =>
    rw [e] at o
    cases c1 with
    | er r => exact o
    | nx r => exact o.elim
    | rt r => exact o.elim
    | bk r => exact o.elim
    | ct r => exact o.elim
  | stuck => rw [e] at o; cases c1 <;> exact o.elim
theorem qs_next {x : S} (w : Weak s (E x)) : QS k s sNext E (.nx x) := fun env h Sx => Sx.weak w
/-- a name is set -/
theorem qs_let {i : Nat} {A : ME} {e : α → D} {v : α} {c2 : α → Ctl S L R X} {ok : α → Prop} (hA : QX k.F s A (e v) s1) (hok : ok v) (h2 : ∀ x, ok x → QS k (s1.set i (some (.v (e x)))) b E (c2 x)) : QS k s (sSeq (sAsg A (gName i)) b) E (letC v c2) := fun env h Sx => by
  obtain ⟨h1, e1, S1⟩ := hA env h Sx
  have := h2 v hok (env.set i (some (e v))) h1 (S1.setV i (e v))
  unfold sSeq sAsg
  rw [e1]
  exact this
theorem qs_setE {i : Nat} {A : ME} {d : D} {x : S} (hA : QX k.F s A d s1) (w : Weak (s1.set i (some (.v d))) (E x)) : QS k s (sAsg A (gName i)) E (.nx x) := fun env h Sx => by
  obtain ⟨h1, e1, S1⟩ := hA env h Sx
  unfold sAsg
  rw [e1]
  exact (S1.setV i d).weak w
/-- two names at once -/
theorem qs_par {i j : Nat} {ms : MA} {ea : α → D} {eb : β → D} {va : α} {vb : β} {c2 : α → β → Ctl S L R X} {ok : α → β → Prop} (hA : QA k.F s ms [ea va, eb vb] s1) (hok : ok va vb)
    (h2 : ∀ x y, ok x y → QS k ((s1.set i (some (.v (ea x)))).set j (some (.v (eb y)))) b E (c2 x y)) : QS k s (sSeq (sPar i j ms) b) E (letC va fun x => letC vb fun y => c2 x y) := fun env h Sx => by
  obtain ⟨h1, e1, S1⟩ := hA env h Sx
  have := h2 va vb hok _ h1 ((S1.setV i (ea va)).setV j (eb vb))
  unfold sSeq sPar
  rw [e1]
  exact this
/-- names taken out of a tuple -/
theorem g_all : ∀ (is : List Nat) (ds : List D) (env : DEnv) (h : Hh), ds.length = is.length → (is.foldr (fun i gs => gCons (gName i) gs) gNil) ds env h = some (setAll is ds env, h)
  | [], [], env, h, _ => rfl
  | i :: is, d :: ds, env, h, hl => by
    show (match gName i d env h with
      | some (env', h') => (is.foldr (fun i gs => gCons (gName i) gs) gNil) ds env' h'
      | none => none) = _
    exact g_all is ds _ h (by simpa using hl)
  | [], _ :: _, _, _, hl => by simp at hl
  | _ :: _, [], _, _, hl => by simp at hl
theorem qs_unp {n : Nat} {is : List Nat} {gs : MGs} {A : ME} {ds : List D} (hA : QX k.F s A (.tup ds) s1) (hg : gs = is.foldr (fun i gs => gCons (gName i) gs) gNil) (hn : ds.length = n) (hl : ds.length = is.length) (h2 : QS k (sAll is ds s1) b E c) : QS k s (sSeq (sAsg A (gTup n gs)) b) E c := fun env h Sx => by
  obtain ⟨h1, e1, S1⟩ := hA env h Sx
  have := h2 _ h1 (sat_all is ds s1 env h1 S1)
  unfold sSeq sAsg
  rw [e1]
  show OutOk k E ((RSof (gTup n gs (.tup ds) env h1)).seq b) c
  have : gTup n gs (.tup ds) env h1 = some (setAll is ds env, h1) := by
    show (if ds.length = n then gs ds env h1 else none) = _
    rw [if_pos hn, hg, g_all is ds env h1 hl]
  rw [this]
  assumption
/-- something is done to the thing in a slot -/
theorem qs_do {A : ME} {d : D} {v : α} {Ev : α → SEnv} {c2 : α → Ctl S L R X} {ok : α → Prop} (hA : QX k.F s A d (Ev v)) (hok : ok v) (h2 : ∀ x, ok x → QS k (Ev x) b E (c2 x)) : QS k s (sSeq (sDrop A) b) E (letC v c2) := fun env h Sx => by
  obtain ⟨h1, e1, S1⟩ := hA env h Sx
  have := h2 v hok env h1 S1
  unfold sSeq sDrop
  rw [e1]
  exact this
theorem qs_doE {A : ME} {d : D} {x : S} (hA : QX k.F s A d s1) (w : Weak s1 (E x)) : QS k s (sDrop A) E (.nx x) := fun env h Sx => by
  obtain ⟨h1, e1, S1⟩ := hA env h Sx
  unfold sDrop
  rw [e1]
  exact S1.weak w
/-- a new list for a name -/
theorem qs_new {i : Nat} {ms : MA} {e : α → D} {l : List α} {c2 : List α → Ctl S L R X} {ok : List α → Prop} (hA : QL k.F s ms e l s1) (hok : ok l) (h2 : ∀ x, ok x → QS k (s1.set i (some (.own (oL e x)))) b E (c2 x)) : QS k s (sSeq (sAsg (eNew ms) (gName i)) b) E (letC l c2) := fun env h Sx => by
  obtain ⟨h1, e1, S1⟩ := hA env h Sx
  have := h2 l hok _ _ (S1.setO i (oL e l))
  unfold sSeq sAsg eNew
  rw [e1]
  exact this
theorem qs_newE {i : Nat} {ms : MA} {e : α → D} {l : List α} {x : S} (hA : QL k.F s ms e l s1) (w : Weak (s1.set i (some (.own (oL e l)))) (E x)) : QS k s (sAsg (eNew ms) (gName i)) E (.nx x) := fun env h Sx => by
  obtain ⟨h1, e1, S1⟩ := hA env h Sx
  unfold sAsg eNew
  rw [e1]
  exact (S1.setO i (oL e l)).weak w
/-- a call that hands back a new list -/
theorem qs_newC {i : Nat} {G : MF} {ms : MA} {ds : List D} {e : α → D} {l : List α} {c2 : List α → Ctl S L R X} {ok : List α → Prop} (hA : QA k.F s ms ds s1) (ho : ∀ h, G ds h = .ok (.ref h.length) (h ++ [oL e l])) (hok : ok l) (h2 : ∀ x, ok x → QS k (s1.set i (some (.own (oL e x)))) b E (c2 x)) : QS k s (sSeq (sAsg (eCall G ms) (gName i)) b) E (letC l c2) := fun env h Sx => by
  obtain ⟨h1, e1, S1⟩ := hA env h Sx
  have := h2 l hok _ _ (S1.setO i (oL e l))
  unfold sSeq sAsg eCall
  rw [e1, bind_ok, ho]
  exact this
/-- x += e -/
theorem qs_aug {i : Nat} {A : ME} {f : Op2} {e : α → D} {v : α} {d1 d2 : D} {c2 : α → Ctl S L R X} {ok : α → Prop} (hx : s[i]? = some (some (Sl.v d1))) (hA : QX k.F s A d2 s1) (ho : ∀ h, f d1 d2 h = some (e v)) (hok : ok v) (h2 : ∀ x, ok x → QS k (s1.set i (some (.v (e x)))) b E (c2 x)) : QS k s (sSeq (sAug i A f) b) E (letC v c2) := fun env h Sx => by
  obtain ⟨h1, e1, S1⟩ := hA env h Sx
  have := h2 v hok _ h1 (S1.setV i (e v))
  unfold sSeq sAug
  rw [Sx.val i d1 hx]
  show OutOk k E (((A env h).st env fun y h1 => match f d1 y h1 with
    | some d => RS.nx (env.set i (some d)) h1
    | none => .stuck).seq b) _
  rw [e1]
  show OutOk k E ((match f d1 d2 h1 with
    | some d => RS.nx (env.set i (some d)) h1
    | none => .stuck).seq b) _
  rw [ho]
  exact this
theorem qs_augE {i : Nat} {A : ME} {f : Op2} {d d1 d2 : D} {x : S} (hx : s[i]? = some (some (Sl.v d1))) (hA : QX k.F s A d2 s1) (ho : ∀ h, f d1 d2 h = some d) (w : Weak (s1.set i (some (.v d))) (E x)) : QS k s (sAug i A f) E (.nx x) := fun env h Sx => by
  obtain ⟨h1, e1, S1⟩ := hA env h Sx
  have := (S1.setV i d).weak w
  unfold sAug
  rw [Sx.val i d1 hx]
  show OutOk k E ((A env h).st env fun y h1 => match f d1 y h1 with
    | some d => RS.nx (env.set i (some d)) h1
    | none => .stuck) _
  rw [e1]
  show OutOk k E (match f d1 d2 h1 with
    | some d => RS.nx (env.set i (some d)) h1
    | none => .stuck) _
  rw [ho]
  exact this
/-- never goes on -/
def Nvr (m : MS) : Prop := ∀ env h env' h', m env h ≠ .nx env' h'
theorem nv_ret {A : ME} : Nvr (sRet A) := fun env h env' h' e => by
  unfold sRet at e
  cases q : A env h with
  | ok a h1 => rw [q] at e; cases e
  | err x h1 => rw [q] at e; cases e
  | stuck => rw [q] at e; cases e
theorem nv_retN : Nvr sRetN := fun env h env' h' e => by cases e
theorem nv_brk : Nvr sBreak := fun env h env' h' e => by cases e
theorem nv_cont : Nvr sCont := fun env h env' h' e => by cases e
theorem nv_never : Nvr sNever := fun env h env' h' e => by cases e
theorem nv_seq (hb : Nvr b) : Nvr (sSeq a b) := fun env h env' h' e => by
  unfold sSeq at e
  cases q : a env h with
  | nx env1 h1 => rw [q] at e; exact hb _ _ _ _ e
  | rt d h1 => rw [q] at e; cases e
  | bk d h1 => rw [q] at e; cases e
  | ct d h1 => rw [q] at e; cases e
  | er x d h1 => rw [q] at e; cases e
  | stuck => rw [q] at e; cases e
theorem nv_if {t : MT} (ha : Nvr a) (hb : Nvr b) : Nvr (sIf t a b) := fun env h env' h' e => by
  unfold sIf at e
  cases q : t env h with
  | ok v h1 =>
    rw [q] at e
    cases v with
    | true => exact ha _ _ _ _ e
    | false => exact hb _ _ _ _ e
  | err x h1 => rw [q] at e; cases e
  | stuck => rw [q] at e; cases e
theorem qs_if {t : MT} {p : Bool} {ca cb : Ctl S L R X} (ht : QT k.F s t p s1) (ha : p = true → QS k s1 a E ca) (hb : p = false → QS k s1 b E cb) : QS k s (sIf t a b) E (if p = true then ca else cb) := fun env h Sx => by
  obtain ⟨h1, e1, S1⟩ := ht env h Sx
  unfold sIf
  rw [e1]
  cases p with
  | true => exact ha rfl env h1 S1
  | false => exact hb rfl env h1 S1
/-- if ..: return; the rest behind it -/
theorem qs_ifr {t : MT} {r : MS} {p : Bool} {ca cb : Ctl S L R X} (ht : QT k.F s t p s1) (nv : Nvr a) (ha : p = true → QS k s1 a E ca) (hb : p = false → QS k s1 r E cb) : QS k s (sSeq (sIf t a sNext) r) E (if p = true then ca else cb) := fun env h Sx => by
  obtain ⟨h1, e1, S1⟩ := ht env h Sx
  unfold sSeq sIf
  rw [e1]
  cases p with
  | true =>
    show OutOk k E ((a env h1).seq r) ca
    have o := ha rfl env h1 S1
    cases e : a env h1 with
    | nx env' h' => exact absurd e (nv _ _ _ _)
    | rt d h' => rw [e] at o; exact o
    | bk d h' => rw [e] at o; exact o
    | ct d h' => rw [e] at o; exact o
    | er x d h' => rw [e] at o; exact o
    | stuck => rw [e] at o; exact o
  | false => exact hb rfl env h1 S1
theorem qs_brk {l : L} (w : Weak s (k.EL l)) : QS k s sBreak E (.bk l) := fun env h Sx => Sx.weak w
theorem qs_cont {l : L} (w : Weak s (k.EL l)) : QS k s sCont E (.ct l) := fun env h Sx => Sx.weak w
/-- another form of what goes on -/
def Ctl.map (c : Ctl S L R X) (g : S → S') : Ctl S' L R X := c.bind fun x => .nx (g x)
theorem qs_map {E' : S' → SEnv} {g : S → S'} (h : QS k s a E c) (w : ∀ x, Weak (E x) (E' (g x))) : QS k s a E' (c.map g) := fun env h' Sx => by
  have o := h env h' Sx
  cases e : a env h' with
  | nx env1 h1 =>
    rw [e] at o
    cases c with
    | nx x => exact Sat.weak o (w x)
    | _ => exact o.elim
  | rt d h1 => rw [e] at o; cases c with
    | rt x => exact o
    | _ => exact o.elim
  | bk d h1 => rw [e] at o; cases c with
    | bk x => exact o
    | _ => exact o.elim
  | ct d h1 => rw [e] at o; cases c with
    | ct x => exact o
    | _ => exact o.elim
  | er y d h1 => rw [e] at o; cases c with
    | er x => exact o
    | _ => exact o.elim
  | stuck => rw [e] at o; cases c <;> exact o.elim
/-- return -/
def ZP {R : Type} (F : Fr) (eR : R → D) : R → D → Hh → Prop := fun r d h => d = eR r ∧ Agree F h
def ZB {R T : Type} (F : Fr) (eR : R → D) (p : Nat) (oc : T → O) : R × T → D → Hh → Prop := fun r d h => d = eR r.1 ∧ Agree F h ∧ h[p]? = some (oc r.2)
theorem qs_ret {F : Fr} {EX : X → Exn → Prop} {EL : L → SEnv} {eR : R → D} {A : ME} {v : R} (hA : QX F s A (eR v) s1) : QS ⟨F, ZP F eR, EX, EL⟩ s (sRet A) E (.rt v) := fun env h Sx => by
  obtain ⟨h1, e1, S1⟩ := hA env h Sx
  unfold sRet
  rw [e1]
  exact ⟨rfl, S1.agree⟩
theorem qs_retB {T : Type} {F : Fr} {EX : X → Exn → Prop} {EL : L → SEnv} {eR : R → D} {A : ME} {v : R} {p i : Nat} {oc : T → O} {l : T} (hA : QX F s A (eR v) s1) (hi : s1[i]? = some (some (Sl.bor p (oc l)))) : QS ⟨F, ZB F eR p oc, EX, EL⟩ s (sRet A) E (.rt (v, l)) := fun env h Sx => by
  obtain ⟨h1, e1, S1⟩ := hA env h Sx
  unfold sRet
  rw [e1]
  refine ⟨rfl, S1.agree, ?_⟩
  obtain ⟨q, a, b⟩ := S1.cell i (oc l) (.inr ⟨p, hi⟩)
  have := (S1.bor i p _ hi).1
  rw [a] at this
  cases this
  exact b
/-- for -/
theorem for_run {e : α → D} {T : Tg} {f : α → S → Ctl S S R X} {ok : α → S → Prop} {g : Option (Nat × List D)} (hg : ∀ env h st, Sat k.F (E st) env h → gOk g h) : ∀ (xs : List α) (st : S), (∀ x ∈ xs, Bd T (e x)) →
    (∀ x ∈ xs, ∀ st, ok x st → QS (⟨k.F, k.Z, k.EX, E⟩ : Kf S R X) (bS T (e x) (E st)) b E (f x st)) → okFor f ok xs st → ∀ env h, Sat k.F (E st) env h → OutOk k E (forL g (bodyT T b) (xs.map e) env h) (forC f xs st)
  | [], st, _, _, _, env, h, Sx => by
    rw [List.map_nil]
    unfold forL
    rw [if_pos (hg env h st Sx)]
    exact Sx
  | x :: xs, st, hb, hs, hk, env, h, Sx => by
    obtain ⟨env1, eb, S1⟩ := bd_of (hb x List.mem_cons_self) k.F env h Sx
    have o := hs x List.mem_cons_self st hk.1 env1 h S1
    have next := fun st' => for_run (ok := ok) (f := f) hg xs st' (fun y m => hb y (List.mem_cons_of_mem _ m)) fun y m => hs y (List.mem_cons_of_mem _ m)
    have hk2 := hk.2
    rw [List.map_cons]
    unfold forL
    rw [if_pos (hg env h st Sx)]
    have ebd : bodyT T b (e x) env h = b env1 h := by unfold bodyT; rw [eb]
    rw [ebd]
    unfold forC
    cases e1 : b env1 h with
    | nx env' h' =>
      rw [e1] at o
      cases e2 : f x st with
      | nx st' => rw [e2] at o hk2; exact next st' hk2 env' h' o
      | _ => rw [e2] at o; exact o.elim
    | ct env' h' =>
      rw [e1] at o
      cases e2 : f x st with
      | ct st' => rw [e2] at o hk2; exact next st' hk2 env' h' o
      | _ => rw [e2] at o; exact o.elim
    | bk env' h' =>
      rw [e1] at o
      cases e2 : f x st with
      | bk st' => rw [e2] at o; exact o
      | _ => rw [e2] at o; exact o.elim
    | rt d h' =>
      rw [e1] at o
      cases e2 : f x st with
      | rt st' => rw [e2] at o; exact o
      | _ => rw [e2] at o; exact o.elim
    | er y d h' =>
      rw [e1] at o
      cases e2 : f x st with
      | er st' => rw [e2] at o; exact o
      | _ => rw [e2] at o; exact o.elim
    | stuck => rw [e1] at o; cases e2 : f x st <;> (rw [e2] at o; exact o.elim)
theorem qs_for {e : α → D} {xs : List α} {T : Tg} {mi : MI} {f : α → S → Ctl S S R X} {ok : α → S → Prop} {s0 : S} (hi : QI k.F s mi (xs.map e) s1) (w : Weak s1 (E s0)) (hb : ∀ x ∈ xs, Bd T (e x))
    (hs : ∀ x ∈ xs, ∀ st, ok x st → QS (⟨k.F, k.Z, k.EX, E⟩ : Kf S R X) (bS T (e x) (E st)) b E (f x st)) (hok : okFor f ok xs s0) : QS k s (sFor mi T b) E (forC f xs s0) := fun env h Sx => by
  obtain ⟨h1, e1, S1⟩ := hi env h Sx
  unfold sFor
  rw [e1]
  exact for_run (fun _ _ _ _ => gOk_none) xs s0 hb hs hok env h1 (S1.weak w)
/-- while -/
theorem while_run {t : MT} {cc : S → Bool} {f : S → Ctl S S R X} {okc okf : S → Prop} (ht : ∀ st, okc st → QT k.F (E st) t (cc st) (E st)) (hs : ∀ st, okf st → cc st = true → QS (⟨k.F, k.Z, k.EX, E⟩ : Kf S R X) (E st) b E (f st)) : ∀ (n : Nat) (st : S), okN cc f okc okf n st →
    ∃ c : Ctl S L R X, whileT cc f n st = some c ∧ ∀ env h, Sat k.F (E st) env h → OutOk k E (whileN t b n env h) c
  | 0, st, hk => hk.elim
  | n + 1, st, hk => by
    obtain ⟨h1, h2⟩ := hk
    cases hc : cc st with
    | false =>
      refine ⟨.nx st, by unfold whileT; rw [hc]; rfl, fun env h Sx => ?_⟩
      obtain ⟨h', e, S'⟩ := ht st h1 env h Sx
      rw [whileN_eq, e, hc]
      exact S'
    | true =>
      obtain ⟨h3, h4⟩ := h2 hc
      have run : ∀ c : Ctl S L R X, (∀ env' h', Sat k.F (E st) env' h' → OutOk k E (loopBack (b env' h') (whileN t b n)) c) → ∀ env h, Sat k.F (E st) env h → OutOk k E (whileN t b (n + 1) env h) c := fun c q env h Sx => by
        obtain ⟨h', e, S'⟩ := ht st h1 env h Sx
        rw [whileN_eq, e, hc]
        exact q env h' S'
      cases e2 : f st with
      | nx st' =>
        rw [e2] at h4
        obtain ⟨c, e3, o3⟩ := while_run ht hs n st' h4
        refine ⟨c, by unfold whileT; rw [hc, e2]; exact e3, run c fun env' h' S' => ?_⟩
        have o := hs st h3 hc env' h' S'
        rw [e2] at o
        cases e1 : b env' h' with
        | nx env2 h2 => rw [e1] at o; exact o3 env2 h2 o
        | _ => rw [e1] at o; exact o.elim
      | ct st' =>
        rw [e2] at h4
        obtain ⟨c, e3, o3⟩ := while_run ht hs n st' h4
        refine ⟨c, by unfold whileT; rw [hc, e2]; exact e3, run c fun env' h' S' => ?_⟩
        have o := hs st h3 hc env' h' S'
        rw [e2] at o
        cases e1 : b env' h' with
        | ct env2 h2 => rw [e1] at o; exact o3 env2 h2 o
        | _ => rw [e1] at o; exact o.elim
      | bk st' =>
        refine ⟨.nx st', by unfold whileT; rw [hc, e2]; rfl, run _ fun env' h' S' => ?_⟩
        have o := hs st h3 hc env' h' S'
        rw [e2] at o
        cases e1 : b env' h' with
        | bk env2 h2 => rw [e1] at o; exact o
        | _ => rw [e1] at o; exact o.elim
      | rt r =>
        refine ⟨.rt r, by unfold whileT; rw [hc, e2]; rfl, run _ fun env' h' S' => ?_⟩
        have o := hs st h3 hc env' h' S'
        rw [e2] at o
        cases e1 : b env' h' with
        | rt env2 h2 => rw [e1] at o; exact o
        | _ => rw [e1] at o; exact o.elim
      | er r =>
        refine ⟨.er r, by unfold whileT; rw [hc, e2]; rfl, run _ fun env' h' S' => ?_⟩
        have o := hs st h3 hc env' h' S'
        rw [e2] at o
        cases e1 : b env' h' with
        | er x env2 h2 => rw [e1] at o; exact o
        | _ => rw [e1] at o; exact o.elim
theorem qs_while {t : MT} {cc : S → Bool} {f : S → Ctl S S R X} {okc okf : S → Prop} {s0 : S} (w : Weak s (E s0)) (ht : ∀ st, okc st → QT k.F (E st) t (cc st) (E st)) (hs : ∀ st, okf st → cc st = true → QS (⟨k.F, k.Z, k.EX, E⟩ : Kf S R X) (E st) b E (f st))
    (hok : okW cc f okc okf s0) : QS k s (sWhile t b) E (whileC cc f s0) := fun env h Sx => by
  obtain ⟨n, hn⟩ := hok
  obtain ⟨c, e, o⟩ := while_run (k := k) ht hs n s0 hn
  have o := o env h (Sx.weak w)
  rw [whileC_eq e]
  have ns : whileN t b n env h ≠ .stuck := fun z => by rw [z] at o; cases c <;> exact o.elim
  rw [sWhile_eq ns]
  exact o
end

/-! ### defs -/
section
variable {R T : Type} {n : Nat} {N : List Str} {b : MS} {ds : List D} {h : Hh}
/-- what is known when a def begins -/
def begS (N : List Str) (ds : List D) : SEnv := ds.map (fun d => some (Sl.v d)) ++ List.replicate (N.length - ds.length) none
theorem beg_sat {F : Fr} (hN : ds.length ≤ N.length) (hF : F.h0 = h) : Sat F (begS N ds) (startD N ds) h := by
  have val : ∀ (i : Nat) (c : Sl), (begS N ds)[i]? = some (some c) → ∃ d, c = .v d ∧ (startD N ds)[i]? = some (some d) := fun i c e => by
    unfold begS at e
    unfold startD
    by_cases hi : i < ds.length
    · rw [List.getElem?_append_left (by simpa using hi), List.getElem?_map, List.getElem?_eq_getElem hi] at e ⊢
      cases e
      exact ⟨_, rfl, rfl⟩
    · rw [List.getElem?_append_right (by simpa using hi), List.getElem?_replicate] at e
      split at e <;> cases e
  have nc : ∀ (i : Nat) (o : O), ¬ Hs (begS N ds) i o := fun i o x => by
    rcases x with x | ⟨p, x⟩ <;> (obtain ⟨d, e, _⟩ := val i _ x; cases e)
  exact {
    len := by simp [begS, startD]
    le := by rw [hF]; exact Nat.le_refl _
    keep := fun j _ _ => by rw [hF]
    val := fun i d e => by obtain ⟨d', e1, e2⟩ := val i _ e; cases e1; exact e2
    cell := fun i o x => absurd x (nc i o)
    own := fun i o p x _ => absurd (.inl x) (nc i o)
    bor := fun i p o x => absurd (.inr ⟨p, x⟩) (nc i o)
    sep := fun i j o o' p _ x _ _ _ => nc i o x
    hid := fun i p o x => by obtain ⟨d, e, _⟩ := val i _ x; cases e
    hsep := fun i j p o o' _ x _ => by obtain ⟨d, e, _⟩ := val i _ x; cases e
    hcs := fun i j p o o' _ _ x => by obtain ⟨d, e, _⟩ := val j _ x; cases e }
theorem prefix_of {h h' : Hh} (h1 : h.length ≤ h'.length) (h2 : ∀ j, j < h.length → h'[j]? = h[j]?) : h' = h ++ h'.drop h.length := by
  have : h'.take h.length = h := by
    apply List.ext_getElem?
    intro j
    by_cases hj : j < h.length
    · rw [List.getElem?_take_of_lt hj]; exact h2 j hj
    · rw [List.getElem?_eq_none (by rw [List.length_take]; omega), List.getElem?_eq_none (by omega)]
  conv => lhs; rw [← List.take_append_drop h.length h', this]
theorem fn_pure {eR : R → D} [NR eR] [Inhabited R] {c : Ctl Empty Empty R Empty} (hq : QS (⟨⟨h, []⟩, ZP ⟨h, []⟩ eR, fun x _ => x.elim, fun l => l.elim⟩ : Kf Empty R Empty) (begS N ds) b (fun x => x.elim) c) (hn : ds.length = n := by rfl) (hN : ds.length ≤ N.length := by decide) : pureF (runF n N b) ds h = .ok (eR c.get) h := by
  have o := hq (startD N ds) h (beg_sat hN rfl)
  cases c with
  | nx x => exact x.elim
  | bk x => exact x.elim
  | ct x => exact x.elim
  | er x => exact x.elim
  | rt r =>
    cases e : b (startD N ds) h with
    | rt d h' =>
      rw [e] at o
      obtain ⟨rfl, o1, o2⟩ := o
      have e1 : runF n N b ds h = .ok (eR r) (h ++ h'.drop h.length) := by
        rw [run_eq hn, e, ev_out_rt, ← prefix_of o1 fun j hj => o2 j hj (by simp)]
      exact pureF_of e1 (NR.nr _ _)
    | nx d h' => rw [e] at o; exact o.elim
    | bk d h' => rw [e] at o; exact o.elim
    | ct d h' => rw [e] at o; exact o.elim
    | er x d h' => rw [e] at o; exact o.elim
    | stuck => rw [e] at o; exact o.elim
/-- the first argument is a thing that may be changed -/
def begB (N : List Str) (p : Nat) (o : O) (ds : List D) : SEnv := some (Sl.bor p o) :: (ds.map (fun d => some (Sl.v d)) ++ List.replicate (N.length - (ds.length + 1)) none)
theorem begB_sat {F : Fr} {p : Nat} {o : O} (hN : ds.length + 1 ≤ N.length) (hF : F.h0 = h) (hB : p ∈ F.B) (hp : h[p]? = some o) : Sat F (begB N p o ds) (startD N (.ref p :: ds)) h := by
  have hl : p < h.length := (List.getElem?_eq_some_iff.mp hp).1
  have val : ∀ (i : Nat) (c : Sl), (begB N p o ds)[i]? = some (some c) → i = 0 ∧ c = .bor p o ∨ ∃ d, c = .v d ∧ (startD N (.ref p :: ds))[i]? = some (some d) := fun i c e => by
    cases i with
    | zero =>
      left
      have e : some (some (Sl.bor p o)) = some (some c) := e
      cases e
      exact ⟨rfl, rfl⟩
    | succ i =>
      right
      have e : (ds.map (fun d => some (Sl.v d)) ++ List.replicate (N.length - (ds.length + 1)) none)[i]? = some (some c) := e
      show ∃ d, c = .v d ∧ (ds.map some ++ List.replicate (N.length - (ds.length + 1)) none)[i]? = some (some d)
      by_cases hi : i < ds.length
      · rw [List.getElem?_append_left (by simpa using hi), List.getElem?_map, List.getElem?_eq_getElem hi] at e ⊢
        cases e
        exact ⟨_, rfl, rfl⟩
      · rw [List.getElem?_append_right (by simpa using hi), List.getElem?_replicate] at e
        split at e <;> cases e
  have nc : ∀ (i : Nat) (o' : O), Hs (begB N p o ds) i o' → i = 0 ∧ o' = o := fun i o' x => by
    rcases x with x | ⟨q, x⟩
    · rcases val i _ x with ⟨_, e⟩ | ⟨d, e, _⟩ <;> cases e
    · rcases val i _ x with ⟨h1, e⟩ | ⟨d, e, _⟩
      · cases e; exact ⟨h1, rfl⟩
      · cases e
  exact {
    len := by simp [begB, startD]
    le := by rw [hF]; exact Nat.le_refl _
    keep := fun j _ _ => by rw [hF]
    val := fun i d e => by
      rcases val i _ e with ⟨_, e1⟩ | ⟨d', e1, e2⟩
      · cases e1
      · cases e1; exact e2
    cell := fun i o' x => by
      obtain ⟨rfl, rfl⟩ := nc i o' x
      exact ⟨p, rfl, hp⟩
    own := fun i o' q x _ => by
      rcases val i _ x with ⟨_, e⟩ | ⟨d, e, _⟩ <;> cases e
    bor := fun i q o' x => by
      rcases val i _ x with ⟨h1, e⟩ | ⟨d, e, _⟩
      · cases e; subst h1; exact ⟨rfl, by rw [hF]; exact hl, hB⟩
      · cases e
    sep := fun i j o1 o2 q n x y _ _ => n ((nc i o1 x).1.trans (nc j o2 y).1.symm)
    hid := fun i q o' x => by rcases val i _ x with ⟨_, e⟩ | ⟨d, e, _⟩ <;> cases e
    hsep := fun i j q o' o'' _ x _ => by rcases val i _ x with ⟨_, e⟩ | ⟨d, e, _⟩ <;> cases e
    hcs := fun i j q o' o'' _ _ x => by rcases val j _ x with ⟨_, e⟩ | ⟨d, e, _⟩ <;> cases e }
theorem fn_bor {eR : R → D} {e : T → D} [NR eR] [NR e] [Inhabited R] [Inhabited T] {p : Nat} {l : List T} {c : Ctl Empty Empty (R × List T) Empty} (hp : h[p]? = some (oL e l)) (hq : QS (⟨⟨h, [p]⟩, ZB ⟨h, [p]⟩ eR p (oL e), fun x _ => x.elim, fun l => l.elim⟩ : Kf Empty (R × List T) Empty) (begB N p (oL e l) ds) b (fun x => x.elim) c) (hn : ds.length + 1 = n := by rfl) (hN : ds.length + 1 ≤ N.length := by decide) :
    dropF (runF n N b) (.ref p :: ds) h = .ok (eR c.get.1) (h.set p (oL e c.get.2)) := by
  have o := hq (startD N (.ref p :: ds)) h (begB_sat hN rfl (by simp) hp)
  have hl : p < h.length := (List.getElem?_eq_some_iff.mp hp).1
  cases c with
  | nx x => exact x.elim
  | bk x => exact x.elim
  | ct x => exact x.elim
  | er x => exact x.elim
  | rt r =>
    cases e1 : b (startD N (.ref p :: ds)) h with
    | rt d h' =>
      rw [e1] at o
      obtain ⟨e2, ⟨o1, o2⟩, o3⟩ := o
      have e3 : runF n N b (.ref p :: ds) h = .ok (eR r.1) h' := by
        rw [run_eq (ds := .ref p :: ds) hn, e1, ev_out_rt, e2]
      have e4 : h'.take h.length = h.set p (oL e r.2) := by
        apply List.ext_getElem?
        intro j
        by_cases hj : j < h.length
        · rw [List.getElem?_take_of_lt hj]
          by_cases hpj : p = j
          · subst hpj; rw [o3, List.getElem?_set_self hl]
          · rw [List.getElem?_set_ne hpj]; exact o2 j hj (by simpa using Ne.symm hpj)
        · rw [List.getElem?_eq_none (by rw [List.length_take]; omega), List.getElem?_eq_none (by rw [List.length_set]; omega)]
      show _ = Res.ok (eR r.1) (h.set p (oL e r.2))
      rw [← e4]
      refine dropF_of e3 (NR.nr _ _) o1 fun i ob hi e5 => ?_
      by_cases hpi : p = i
      · subst hpi
        rw [o3] at e5
        cases e5
        right
        show bels h.length (r.2.map e) = true
        exact bels_map _ _
      · left
        rw [← o2 i hi (by simpa using Ne.symm hpi)]; exact e5
    | nx d h' => rw [e1] at o; exact o.elim
    | bk d h' => rw [e1] at o; exact o.elim
    | ct d h' => rw [e1] at o; exact o.elim
    | er x d h' => rw [e1] at o; exact o.elim
    | stuck => rw [e1] at o; exact o.elim
end
end MR

/-! Q5: what is handed back may hold lists that were made; more rules. -/
namespace MR
open PySem PySem.Spec PyProof.Rows L2

mutual
/-- what was made stands still from now on -/
def frzD (n : Nat) (h : Hh) : D → Option D
  | .ref i => if i < n then some (D.ref i) else match h[i]? with
    | some (.lst xs) => if bels n xs = true then some (D.lst xs) else none
    | _ => none
  | .tup ds => (frzDs n h ds).map D.tup
  | .wtp ds => (frzDs n h ds).map D.wtp
  | .lst ds => if bels n ds = true then some (D.lst ds) else none
  | .non => some .non
  | .bl b => some (.bl b)
  | .int b => some (.int b)
  | .str b => some (.str b)
  | .glb b => some (.glb b)
  | .scr b => some (.scr b)
def frzDs (n : Nat) (h : Hh) : List D → Option (List D)
  | [] => some []
  | d :: ds => match frzD n h d, frzDs n h ds with
    | some x, some xs => some (x :: xs)
    | _, _ => none
end
mutual
theorem den_frz {G : Gm} {rho rho' : Rm} {H H' : Hp} {hh g : Hh} (R : Rep G rho hh H) (S : Step rho H rho' H') (R' : Rep G rho' (hh ++ g) H') : ∀ (d d' : D) (v : V), Den G rho' H' d v → frzD hh.length (hh ++ g) d = some d' → Den G rho H' d' v
  | .ref i, d', v, q, e => by
    rw [frzD] at e
    rw [Den] at q
    obtain ⟨a, e1, rfl⟩ := q
    obtain ⟨ex, ee, hex⟩ := S.ext
    split at e
    · rename_i hi
      cases e
      rw [Den]
      refine ⟨a, ?_, rfl⟩
      rw [ee, List.getElem?_append_left (by rw [R.len]; exact hi)] at e1
      exact e1
    · rename_i hi
      split at e
      · rename_i xs e2
        split at e
        · rename_i hb
          cases e
          obtain ⟨vs, e3, l, q⟩ := R'.ob i a _ e1 e2
          have hae : a ∈ ex := by
            rw [ee, List.getElem?_append_right (by rw [R.len]; omega)] at e1
            exact List.mem_of_getElem? e1
          have hn : H a = none := hex a hae
          rw [Den]
          refine ⟨a, vs, rfl, e3, fun hm => ?_, fun hm => ?_, l, ?_⟩
          · obtain ⟨u, e4, _⟩ := R.mut hm
            rw [hn] at e4; cases e4
          · obtain ⟨u, e4⟩ := R.hd a hm
            rw [hn] at e4; cases e4
          · exact Dens.res ⟨ex, ee⟩ (fun a _ n m => n (S.kept a m)) xs vs q (by rw [R.len]; exact hb)
        · cases e
      · cases e
  | .tup ds, d', v, q, e => by
    rw [frzD] at e
    obtain ⟨ds', e1, rfl⟩ := Option.map_eq_some_iff.mp e
    rw [Den] at q ⊢
    obtain ⟨a, vs, e2, q1, l, q2⟩ := q
    exact ⟨a, vs, e2, q1, l, dens_frz R S R' ds ds' vs q2 e1⟩
  | .wtp ds, d', v, q, e => by
    rw [frzD] at e
    obtain ⟨ds', e1, rfl⟩ := Option.map_eq_some_iff.mp e
    rw [Den] at q ⊢
    obtain ⟨a, vs, e2, q1, l, q2⟩ := q
    exact ⟨a, vs, e2, q1, l, dens_frz R S R' ds ds' vs q2 e1⟩
  | .lst ds, d', v, q, e => by
    rw [frzD] at e
    split at e
    · rename_i hb
      cases e
      obtain ⟨ex, ee, hex⟩ := S.ext
      exact Den.res ⟨ex, ee⟩ (fun a _ n m => n (S.kept a m)) _ v q (by rw [MR.bel, R.len]; exact hb)
    · cases e
  | .non, d', v, q, e => by rw [frzD] at e; cases e; exact q
  | .bl _, d', v, q, e => by rw [frzD] at e; cases e; exact q
  | .int _, d', v, q, e => by rw [frzD] at e; cases e; exact q
  | .str _, d', v, q, e => by rw [frzD] at e; cases e; exact q
  | .glb _, d', v, q, e => by rw [frzD] at e; cases e; exact q
  | .scr _, d', v, q, e => by rw [frzD] at e; cases e; rw [Den] at q ⊢; exact q
theorem dens_frz {G : Gm} {rho rho' : Rm} {H H' : Hp} {hh g : Hh} (R : Rep G rho hh H) (S : Step rho H rho' H') (R' : Rep G rho' (hh ++ g) H') : ∀ (ds ds' : List D) (vs : List V), Dens G rho' H' ds vs → frzDs hh.length (hh ++ g) ds = some ds' → Dens G rho H' ds' vs
  | [], ds', vs, q, e => by rw [frzDs] at e; cases e; exact q
  | d :: ds, ds', vs, q, e => by
    rw [frzDs] at e
    rw [Dens] at q
    obtain ⟨v, r, rfl, q1, q2⟩ := q
    cases e1 : frzD hh.length (hh ++ g) d with
    | none => rw [e1] at e; cases e
    | some x =>
      cases e2 : frzDs hh.length (hh ++ g) ds with
      | none => rw [e1, e2] at e; cases e
      | some xs =>
        rw [e1, e2] at e
        cases e
        rw [Dens]
        exact ⟨v, r, rfl, den_frz R S R' d x v q1 e1, dens_frz R S R' ds xs r q2 e2⟩
end
/-- what a def has made for itself is forgotten, what it hands back stands still -/
noncomputable def frzF (F : MF) : MF := fun ds h => match F ds h with
  | .ok d h' => open Classical in if ∃ g, h' = h ++ g then (match frzD h.length h' d with | some d' => .ok d' h | none => .stuck) else .stuck
  | .err x h' => .err x h'
  | .stuck => .stuck
theorem frzF_of {F : MF} {ds : List D} {h g : Hh} {d d' : D} (e : F ds h = .ok d (h ++ g)) (b : frzD h.length (h ++ g) d = some d') : frzF F ds h = .ok d' h := by
  unfold frzF
  rw [e]
  show (open Classical in if ∃ g', h ++ g = h ++ g' then (match frzD h.length (h ++ g) d with | some d' => Res.ok d' h | none => .stuck) else .stuck) = _
  rw [if_pos ⟨g, rfl⟩, b]
theorem FnD.frz {P : Program} {w : World} {K : PySem.W.Frag} {mg : Str → Option Value} {base : Heap} {k : Nat} {f : Addr} {fd : FuncData} {ps : List Str} {F : MF} (h : FnD P w K mg base k f fd ps F) : FnD P w K mg base k f fd ps (frzF F) :=
  FnOk.imp h fun vs H Q E ⟨hl, rho, hh, ds, R, q, p⟩ => ⟨hl, rho, hh, ds, R, q, by
    unfold frzF at p
    cases e : F ds hh with
    | ok d hh' =>
      rw [e] at p
      simp only at p
      split at p
      · rename_i hc
        obtain ⟨g, rfl⟩ := hc
        cases e2 : frzD hh.length (hh ++ g) d with
        | none => rw [e2] at p; exact p.elim
        | some d' =>
          rw [e2] at p
          intro rho' H' v S R' q'
          obtain ⟨ex, ee, hex⟩ := S.ext
          have h2 : ∀ a, a ∉ rho'.at_ → a ∉ rho'.res → a ∉ rho.res := fun a _ n m => n (S.kept a m)
          exact p rho H' v S.drop (R.drop S ⟨ex, ee⟩ h2 R') (den_frz R S R' d d' v q' e2)
      · exact p.elim
    | err x hh' => rw [e] at p; exact p
    | stuck => rw [e] at p; exact p⟩
mutual
theorem frz_bel (n : Nat) (h : Hh) : ∀ d : D, bel 0 d = true → frzD n h d = some d
  | .ref i, e => by rw [bel] at e; simp at e
  | .tup ds, e => by rw [bel] at e; rw [frzD, frzs_bel n h ds e]; rfl
  | .wtp ds, e => by rw [bel] at e; rw [frzD, frzs_bel n h ds e]; rfl
  | .lst ds, e => by rw [bel] at e; rw [frzD, if_pos (bels_up ds e)]
  | .non, _ => rfl
  | .bl _, _ => rfl
  | .int _, _ => rfl
  | .str _, _ => rfl
  | .glb _, _ => rfl
  | .scr _, _ => rfl
theorem frzs_bel (n : Nat) (h : Hh) : ∀ ds : List D, bels 0 ds = true → frzDs n h ds = some ds
  | [], _ => rfl
  | d :: ds, e => by
    rw [bels, Bool.and_eq_true] at e
    rw [frzDs, frz_bel n h d e.1, frzs_bel n h ds e.2]
theorem bel_up {n : Nat} : ∀ d : D, bel 0 d = true → bel n d = true
  | .ref i, e => by rw [bel] at e; simp at e
  | .tup ds, e => by rw [bel] at e ⊢; exact bels_up ds e
  | .wtp ds, e => by rw [bel] at e ⊢; exact bels_up ds e
  | .lst ds, e => by rw [bel] at e ⊢; exact bels_up ds e
  | .non, _ => rfl
  | .bl _, _ => rfl
  | .int _, _ => rfl
  | .str _, _ => rfl
  | .glb _, _ => rfl
  | .scr _, _ => rfl
theorem bels_up {n : Nat} : ∀ ds : List D, bels 0 ds = true → bels n ds = true
  | [], _ => rfl
  | d :: ds, e => by
    rw [bels, Bool.and_eq_true] at e ⊢
    exact ⟨bel_up d e.1, bels_up ds e.2⟩
end
instance : NR D.scr := ⟨fun _ _ => rfl⟩
theorem frz_e {α : Type} {e : α → D} [NR e] (n : Nat) (h : Hh) (x : α) : frzD n h (e x) = some (e x) := frz_bel n h _ (NR.nr x 0)

/-! ### return, with lists that were made -/
/-- a part of what is handed back: a value, or the thing in a slot -/
inductive Cp where
  | val (x : D)
  | slot (i : Nat)
def Cp.res (env : DEnv) : Cp → D
  | .val x => x
  | .slot i => (env[i]?.join).getD D.non
def QAr (F : Fr) (s : SEnv) (m : MA) (cs : List Cp) (s' : SEnv) : Prop := ∀ env h, Sat F s env h → ∃ h', m env h = .ok (cs.map (Cp.res env)) h' ∧ Sat F s' env h'
def ZF {R : Type} (F : Fr) (eR : R → D) : R → D → Hh → Prop := fun r d h => frzD F.h0.length h d = some (eR r) ∧ Agree F h
section
variable {S S' S1 S2 L R X α β γ δ : Type} {F : Fr} {s s1 s2 : SEnv} {A B : ME} {i : Nat} {E : S → SEnv} {EX : X → Exn → Prop} {EL : L → SEnv} {eR : R → D}
theorem qar_nil : QAr F s aNil [] s := fun env h S => ⟨h, rfl, S⟩
theorem qar_v {d : D} {ms : MA} {cs : List Cp} (hA : QX F s A d s1) (hB : QAr F s1 ms cs s2) : QAr F s (aCons A ms) (.val d :: cs) s2 := fun env h S => by
  obtain ⟨h1, e1, S1⟩ := hA env h S
  obtain ⟨h2, e2, S2⟩ := hB env h1 S1
  exact ⟨h2, by unfold aCons; rw [e1, bind_ok, e2, bind_ok]; rfl, S2⟩
theorem qar_s {o : O} {ms : MA} {cs : List Cp} (hx : Hs s i o) (hB : QAr F s ms cs s2) : QAr F s (aCons (eSlot i) ms) (.slot i :: cs) s2 := fun env h S => by
  obtain ⟨p, e1, _⟩ := S.cell i o hx
  obtain ⟨h2, e2, S2⟩ := hB env h S
  refine ⟨h2, ?_, S2⟩
  unfold aCons eSlot
  rw [e1]
  show ((ms env h).bind fun xs h2 => Res.ok (D.ref p :: xs) h2) = _
  rw [e2, bind_ok, List.map_cons]
  show _ = Res.ok ((env[i]?.join).getD .non :: _) h2
  rw [e1]; rfl
inductive Fzs (s : SEnv) : List Cp → List D → Prop where
  | nil : Fzs s [] []
  | v {α : Type} {e : α → D} {x : α} {cs ds} (nr : NR e := by infer_instance) : Fzs s cs ds → Fzs s (.val (e x) :: cs) (e x :: ds)
  | o {α : Type} {e : α → D} {l : List α} {i : Nat} {cs ds} (nr : NR e := by infer_instance) : s[i]? = some (some (Sl.own (oL e l))) → Fzs s cs ds → Fzs s (.slot i :: cs) (eL e l :: ds)
theorem fzs_of {env : DEnv} {h : Hh} (Sx : Sat F s env h) : ∀ {cs : List Cp} {ds : List D}, Fzs s cs ds → frzDs F.h0.length h (cs.map (Cp.res env)) = some ds
  | _, _, .nil => rfl
  | _, _, .v (e := e) (x := x) nr f => by
    haveI := nr
    rw [List.map_cons, frzDs]
    show (match frzD F.h0.length h (e x), frzDs F.h0.length h _ with | some x, some xs => some (x :: xs) | _, _ => none) = _
    rw [frz_e, fzs_of Sx f]
  | _, _, .o (e := e) (l := l) (i := i) nr hi f => by
    haveI := nr
    obtain ⟨p, e1, e2⟩ := Sx.cell i _ (.inl hi)
    have e3 := Sx.own i _ p hi e1
    rw [List.map_cons, frzDs, fzs_of Sx f]
    have : Cp.res env (.slot i) = .ref p := by
      show (env[i]?.join).getD D.non = _
      rw [e1]; rfl
    rw [this, frzD, if_neg (by omega), e2]
    show (match (if bels F.h0.length (l.map e) = true then some (D.lst (l.map e)) else none), some _ with | some x, some xs => some (x :: xs) | _, _ => none) = _
    rw [if_pos (bels_map _ _)]; rfl
theorem qs_retF {v : R} [NR eR] (hA : QX F s A (eR v) s1) : QS (⟨F, ZF F eR, EX, EL⟩ : Kf L R X) s (sRet A) E (.rt v) := fun env h Sx => by
  obtain ⟨h1, e1, S1⟩ := hA env h Sx
  unfold sRet
  rw [e1]
  exact ⟨frz_e _ _ _, S1.agree⟩
theorem qs_retT {v : R} {ms : MA} {cs : List Cp} {ds : List D} (hA : QAr F s ms cs s1) (hz : Fzs s1 cs ds) (hv : eR v = .tup ds) : QS (⟨F, ZF F eR, EX, EL⟩ : Kf L R X) s (sRet (eTup ms)) E (.rt v) := fun env h Sx => by
  obtain ⟨h1, e1, S1⟩ := hA env h Sx
  unfold sRet eTup
  rw [e1, bind_ok]
  refine ⟨?_, S1.agree⟩
  rw [frzD, fzs_of S1 hz, hv]; rfl
theorem qs_retO {α : Type} {e : α → D} [NR e] {l : List α} {v : R} (hi : s[i]? = some (some (Sl.own (oL e l)))) (hv : eR v = eL e l) : QS (⟨F, ZF F eR, EX, EL⟩ : Kf L R X) s (sRet (eSlot i)) E (.rt v) := fun env h Sx => by
  obtain ⟨p, e1, e2⟩ := Sx.cell i _ (.inl hi)
  have e3 : F.h0.length ≤ p := Sx.own i _ p hi e1
  unfold sRet eSlot
  rw [e1]
  refine ⟨?_, Sx.agree⟩
  rw [frzD, if_neg (by omega), e2, hv]
  show (if bels F.h0.length (l.map e) = true then some (D.lst (l.map e)) else none) = _
  rw [if_pos (bels_map _ _)]; rfl
theorem qs_retN {v : R} [NR eR] (hv : eR v = .non) : QS (⟨F, ZF F eR, EX, EL⟩ : Kf L R X) s sRetN E (.rt v) := fun env h Sx => by
  refine ⟨?_, Sx.agree⟩
  have := frz_e (e := eR) F.h0.length h v
  rw [hv] at this ⊢
  exact this
theorem fn_frz {n : Nat} {N : List Str} {b : MS} {ds : List D} {h : Hh} [Inhabited R] {c : Ctl Empty Empty R Empty} (hq : QS (⟨⟨h, []⟩, ZF ⟨h, []⟩ eR, fun x _ => x.elim, fun l => l.elim⟩ : Kf Empty R Empty) (begS N ds) b (fun x => x.elim) c) (hn : ds.length = n := by rfl) (hN : ds.length ≤ N.length := by decide) : frzF (runF n N b) ds h = .ok (eR c.get) h := by
  have o := hq (startD N ds) h (beg_sat hN rfl)
  cases c with
  | nx x => exact x.elim
  | bk x => exact x.elim
  | ct x => exact x.elim
  | er x => exact x.elim
  | rt r =>
    cases e : b (startD N ds) h with
    | rt d h' =>
      rw [e] at o
      obtain ⟨o0, o1, o2⟩ := o
      have e0 := prefix_of o1 fun j hj => o2 j hj (by simp)
      have e1 : runF n N b ds h = .ok d (h ++ h'.drop h.length) := by
        rw [run_eq hn, e, ev_out_rt, ← e0]
      refine frzF_of e1 ?_
      rw [← e0]
      exact o0
    | nx d h' => rw [e] at o; exact o.elim
    | bk d h' => rw [e] at o; exact o.elim
    | ct d h' => rw [e] at o; exact o.elim
    | er x d h' => rw [e] at o; exact o.elim
    | stuck => rw [e] at o; exact o.elim

/-! ### more rules -/
theorem q_some {e : α → D} {v : α} {m : ME} (h : QX F s m (e v) s1) : QX F s m (eO e (some v)) s1 := h
theorem q_none {e : α → D} : QX F s (eC .non) (eO e none) s := q_c
theorem q_unopt [Inhabited α] {e : α → D} {v : Option α} {m : ME} (hs : v.isSome = true) (h : QX F s m (eO e v) s1) : QX F s m (e (v.getD default)) s1 := by
  cases v with
  | none => cases hs
  | some x => exact h
variable {ea : α → D} {eb : β → D} {ec : γ → D} {ed : δ → D} {a : α} {b : β} {c : γ} {d : δ} {C D' : ME} {s3 s4 : SEnv}
theorem q_t1 (hA : QX F s A (ea a) s1) : QX F s (eTup (aCons A aNil)) (eT1 ea a) s1 := q_tup (qa_cons hA qa_nil)
theorem q_t2 (hA : QX F s A (ea a) s1) (hB : QX F s1 B (eb b) s2) : QX F s (eTup (aCons A (aCons B aNil))) (eT2 ea eb (a, b)) s2 := q_tup (qa_cons hA (qa_cons hB qa_nil))
theorem q_t3 (hA : QX F s A (ea a) s1) (hB : QX F s1 B (eb b) s2) (hC : QX F s2 C (ec c) s3) : QX F s (eTup (aCons A (aCons B (aCons C aNil)))) (eT3 ea eb ec (a, b, c)) s3 := q_tup (qa_cons hA (qa_cons hB (qa_cons hC qa_nil)))
theorem q_t4 (hA : QX F s A (ea a) s1) (hB : QX F s1 B (eb b) s2) (hC : QX F s2 C (ec c) s3) (hD : QX F s3 D' (ed d) s4) : QX F s (eTup (aCons A (aCons B (aCons C (aCons D' aNil))))) (eT4 ea eb ec ed (a, b, c, d)) s4 := q_tup (qa_cons hA (qa_cons hB (qa_cons hC (qa_cons hD qa_nil))))
theorem q_dask {w : Wd} {g : Int} {l : Option Int} (hA : QX F s A (eW w) s1) (hB : QX F s1 B (.int g) s2) (hC : QX F s2 C (eO D.int l) s3) : QX F s (eTup (aCons A (aCons B (aCons C aNil)))) (eDd (.ask w g l)) s3 := q_tup (qa_cons hA (qa_cons hB (qa_cons hC qa_nil)))
theorem q_dmov {w : Wd} {g : Int} (hA : QX F s A (eW w) s1) (hB : QX F s1 B (.int g) s2) : QX F s (eTup (aCons A (aCons B aNil))) (eDd (.mov w g)) s2 := q_tup (qa_cons hA (qa_cons hB qa_nil))
theorem q_dtick (hA : QX F s A (eW .tick) s1) : QX F s (eTup (aCons A aNil)) (eDd .tick) s1 := q_tup (qa_cons hA qa_nil)
theorem o_dsl2 (d : Deed) (hd : d.isTick = false) (h : Hh) : sliceO (eDd d) none (some 2) h = some (eT2 eW D.int (d.word, d.guest)) := by cases d <;> first | rfl | cases hd
theorem o_isiB (b : Bool) (h : Hh) : isiO [.bl b, .glb (.ty "bool")] h = some (.bl true) := by rw [ev_isi, ev_tyB]; show (kitB "bool" "bool").map D.bl = _; rw [kit_bool.2.2.2.2.1]; rfl
theorem o_intB (b : Bool) (h : Hh) : int1O [.bl b] h = some (.int (if b = true then 1 else 0)) := rfl
theorem o_appendO {e : α → D} (l : List α) (x : α) (hl : l.length < 16777216) (h : Hh) (p : Nat) (hp : h[p]? = some (oL e l)) : appendO (.ref p) [e x] h = some (.non, h.set p (oL e (l ++ [x]))) := by
  show chL _ (.ref p) h = _
  unfold chL
  show (match h[p]? with | some (O.lst xs) => (if xs.length < sizeLine then some (D.non, xs ++ [e x]) else none).map fun p' : D × List D => (p'.1, h.set p (.lst p'.2)) | _ => none) = _
  rw [hp]
  show ((if (l.map e).length < sizeLine then some (D.non, l.map e ++ [e x]) else none).map fun p' : D × List D => (p'.1, h.set p (O.lst p'.2))) = _
  rw [List.length_map, if_pos (by rw [sizeLine_eq]; exact hl)]
  unfold oL
  rw [List.map_append]; rfl
theorem o_extendO {e : α → D} (l m : List α) (hl : l.length + m.length ≤ 16777216) (h : Hh) (p : Nat) (hp : h[p]? = some (oL e l)) : extendO (.ref p) [eL e m] h = some (.non, h.set p (oL e (l ++ m))) := by
  show chL _ (.ref p) h = _
  unfold chL
  show (match h[p]? with | some (O.lst xs) => (if xs.length + (m.map e).length ≤ sizeLine then some (D.non, xs ++ m.map e) else none).map fun p' : D × List D => (p'.1, h.set p (.lst p'.2)) | _ => none) = _
  rw [hp]
  show ((if (l.map e).length + (m.map e).length ≤ sizeLine then some (D.non, l.map e ++ m.map e) else none).map fun p' : D × List D => (p'.1, h.set p (O.lst p'.2))) = _
  rw [List.length_map, List.length_map, if_pos (by rw [sizeLine_eq]; exact hl)]
  unfold oL
  rw [List.map_append]; rfl
def insT (l : List α) (i : Int) (x : α) : List α := l.take i.toNat ++ [x] ++ l.drop i.toNat
theorem o_insertO {e : α → D} (l : List α) (i : Int) (x : α) (hl : l.length < 16777216 ∧ 0 ≤ i ∧ i < 1000000000) (h : Hh) (p : Nat) (hp : h[p]? = some (oL e l)) : insertO (.ref p) [.int i, e x] h = some (.non, h.set p (oL e (insT l i x))) := by
  show chL _ (.ref p) h = _
  unfold chL
  show (match h[p]? with | some (O.lst xs) => (if xs.length < sizeLine ∧ 0 ≤ i ∧ i < 1000000000 then some (D.non, xs.take i.toNat ++ [e x] ++ xs.drop i.toNat) else none).map fun p' : D × List D => (p'.1, h.set p (.lst p'.2)) | _ => none) = _
  rw [hp]
  show ((if (l.map e).length < sizeLine ∧ 0 ≤ i ∧ i < 1000000000 then some (D.non, (l.map e).take i.toNat ++ [e x] ++ (l.map e).drop i.toNat) else none).map fun p' : D × List D => (p'.1, h.set p (O.lst p'.2))) = _
  rw [List.length_map, if_pos (by rw [sizeLine_eq]; exact hl)]
  unfold oL insT
  rw [List.map_append, List.map_append, List.map_take, List.map_drop]; rfl
theorem isL_own {e : α → D} {s : SEnv} {i : Nat} {l : List α} (hs : Hs s i (oL e l)) (h : Hh) (p : Nat) (o : O) (hp : h[p]? = some o) (ho : Hs s i o) : isL (.ref p) h = true := by
  have : o = oL e l := by
    rcases hs with a | ⟨q, a⟩ <;> rcases ho with b | ⟨q', b⟩ <;> (rw [a] at b; first | (cases b; rfl) | cases b)
  subst this
  unfold isL
  rw [ev_seqLR, hp]; rfl
/-- x[i] = v -/
theorem qs_setix {k : Kf L R X} {c2 : List α → Ctl S L R X} {ok : List α → Prop} {b : MS} {I V : ME} {e : α → D} {l : List α} {j : Int} {v : α} {Ev : List α → SEnv} (hV : QX k.F s V (e v) s1) (hI : QX k.F s1 I (.int j) s1) (hx : Hs s1 i (oL e l)) (hj : 0 ≤ j ∧ j < l.length) (he : chS s1 i (oL e (l.set j.toNat v)) = Ev (l.set j.toNat v)) (hok : ok (l.set j.toNat v))
    (h2 : ∀ x, ok x → QS k (Ev x) b E (c2 x)) : QS k s (sSeq (sAsg V (gSubD (eSlot i) I setO)) b) E (letC (l.set j.toNat v) c2) := fun env h Sx => by
  obtain ⟨h1, e1, S1⟩ := hV env h Sx
  obtain ⟨h2', e2, S2⟩ := hI env h1 S1
  obtain ⟨p, e3, e4⟩ := S2.cell i _ hx
  have S3 := S2.change hx e3 (oL e (l.set j.toNat v))
  rw [he] at S3
  have := h2 _ hok env _ S3
  unfold sSeq sAsg
  rw [e1]
  show OutOk k E ((RSof (gSubD (eSlot i) I setO (e v) env h1)).seq b) _
  have eg : gSubD (eSlot i) I setO (e v) env h1 = some (env, h2'.set p (oL e (l.set j.toNat v))) := by
    unfold gSubD eSlot
    rw [e3]
    show (match I env h1 with
      | .ok i h2 => (setO (.ref p) i (e v) h2).map fun h3 => (env, h3)
      | _ => none) = _
    rw [e2]
    show (setO (.ref p) (.int j) (e v) h2').map (fun h3 => (env, h3)) = _
    rw [ev_set, e4]
    show (((ixN (l.map e).length j).map fun n => h2'.set p (.lst ((l.map e).set n (e v)))).map fun h3 => (env, h3)) = _
    rw [List.length_map, ev_ixN _ _ hj.1, if_pos hj.2]
    unfold oL
    rw [List.map_set]; rfl
  rw [eg]
  exact this
theorem qs_ifv {k : Kf L R X} {t : MT} {p : Bool} {a b : MS} {va vb : S} (ht : QT k.F s t p s1) (ha : p = true → QS k s1 a E (.nx va)) (hb : p = false → QS k s1 b E (.nx vb)) : QS k s (sIf t a b) E (.nx (if p = true then va else vb)) := fun env h Sx => by
  obtain ⟨h1, e1, S1⟩ := ht env h Sx
  unfold sIf
  rw [e1]
  cases p with
  | true => exact ha rfl env h1 S1
  | false => exact hb rfl env h1 S1
/-- a loop that always goes on -/
def okFold (f : α → S → S) (ok : α → S → Prop) : List α → S → Prop
  | [], _ => True
  | x :: xs, s => ok x s ∧ okFold f ok xs (f x s)
def foldV (f : α → S → S) (xs : List α) (s : S) : S := xs.foldl (fun s x => f x s) s
@[simp] theorem foldV_nil (f : α → S → S) (s : S) : foldV f [] s = s := rfl
@[simp] theorem foldV_cons (f : α → S → S) (x : α) (xs : List α) (s : S) : foldV f (x :: xs) s = foldV f xs (f x s) := rfl
theorem forC_fold (f : α → S → S) (ok : α → S → Prop) : ∀ (xs : List α) (s : S), okFold f ok xs s → okFor (X := X) (R := R) (fun x s => .nx (f x s)) ok xs s ∧ (forC (L := L) (X := X) (R := R) (fun x s => .nx (f x s)) xs s) = .nx (foldV f xs s)
  | [], s, _ => ⟨trivial, rfl⟩
  | x :: xs, s, h => by
    obtain ⟨a, b⟩ := forC_fold f ok xs (f x s) h.2
    exact ⟨⟨h.1, a⟩, b⟩
theorem qs_forv {k : Kf L R X} {e : α → D} {xs : List α} {T : Tg} {b : MS} {mi : MI} {f : α → S → S} {ok : α → S → Prop} {s0 : S} (hi : QI k.F s mi (xs.map e) s1) (w : Weak s1 (E s0)) (hb : ∀ x ∈ xs, Bd T (e x))
    (hs : ∀ x ∈ xs, ∀ st, ok x st → QS (⟨k.F, k.Z, k.EX, E⟩ : Kf S R X) (bS T (e x) (E st)) b E (.nx (f x st))) (hok : okFold f ok xs s0) : QS k s (sFor mi T b) E (.nx (foldV f xs s0)) := by
  obtain ⟨a, b⟩ := forC_fold (L := L) (X := X) (R := R) f ok xs s0 hok
  rw [← b]
  exact qs_for hi w hb hs a
end
end MR

/-! Q6: x or y of lists; statements that change a thing on the way. -/
namespace MR
open PySem PySem.Spec PyProof.Rows L2

/-- whether a thing counts as true -/
def truD (d : D) (h : Hh) : Option Bool := match d with
  | .bl b => some b
  | .lst ds => some (!ds.isEmpty)
  | .tup ds => some (!ds.isEmpty)
  | .ref i => match h[i]? with
    | some (.lst ds) => some (!ds.isEmpty)
    | _ => none
  | _ => none
def eOrT (a b : ME) : ME := fun env h => (a env h).bind fun d h1 => (lift (truD d h1) h1).bind fun k h2 => if k = true then .ok d h2 else b env h2
theorem tru_of {G : Gm} {rho : Rm} {hh : Hh} {H : Hp} {d : D} {v : V} {k : Bool} (R : Rep G rho hh H) (q : Den G rho H d v) (e : truD d hh = some k) : TruV G.K v H k := by
  cases d with
  | bl b => cases e; rw [show v = .bl k from q]; rfl
  | lst ds =>
    cases e
    rw [Den] at q
    obtain ⟨a, vs, rfl, h, _, _, l, z⟩ := q
    refine .inl ⟨vs, SqL.of h, ?_⟩
    have := z.length
    cases ds <;> cases vs <;> simp_all
  | tup ds =>
    cases e
    rw [Den] at q
    obtain ⟨a, vs, rfl, h, l, z⟩ := q
    refine .inr (.inl ⟨vs, h.t, ?_⟩)
    have := z.length
    cases ds <;> cases vs <;> simp_all
  | ref i =>
    rw [Den] at q
    obtain ⟨a, e1, rfl⟩ := q
    have e : (match hh[i]? with | some (O.lst ds) => some (!ds.isEmpty) | _ => none) = some k := e
    split at e
    · rename_i ds e2
      cases e
      obtain ⟨vs, e3, l, z⟩ := R.ob i a _ e1 e2
      refine .inl ⟨vs, SqL.of e3, ?_⟩
      have := z.length
      cases ds <;> cases vs <;> simp_all
    · cases e
  | non => cases e
  | int b => cases e
  | str b => cases e
  | wtp b => cases e
  | glb b => cases e
  | scr b => cases e
theorem de_orT {X : Cx} {a b : Expr} {rest : List Expr} {pos : Pos} {ma mb : ME} (ha : DE X a ma) (hb : DE X (.BoolOp .Or (b :: rest) pos) mb) : DE X (.BoolOp .Or (a :: b :: rest) pos) (eOrT ma mb) :=
  ⟨fun W tk => pe_weak (pe_orT (ha.run W tk) (hb.run W tk)) fun σ H Q h => tE_of h fun rho env hh H1 d v R E q p => by
    cases o : truD d hh with
    | none => rw [o] at p; exact p.elim
    | some k =>
      rw [o] at p
      refine ⟨k, tru_of R q o, ?_⟩
      cases k with
      | true => exact PostE.val (a := d) (b := v) (Rl := Den _) p R q
      | false => exact ⟨rho, env, hh, R, E, p⟩⟩
section
variable {S S' S1 S2 L R X α β γ δ ρ : Type} {F : Fr} {s s1 s2 : SEnv} {A B : ME} {i j : Nat} {E : S → SEnv} {k : Kf L R X} {b : MS}
theorem q_orL {e : α → D} {l m : List α} (hA : QX F s A (eL e l) s1) (hB : l.isEmpty = true → QX F s1 B (eL e m) s1) : QX F s (eOrT A B) (eL e (if l.isEmpty = true then m else l)) s1 := fun env h S => by
  obtain ⟨h1, e1, S1⟩ := hA env h S
  cases l with
  | nil =>
    obtain ⟨h2, e2, S2⟩ := hB rfl env h1 S1
    exact ⟨h2, by unfold eOrT; rw [e1, bind_ok]; show B env h1 = _; rw [e2]; rfl, S2⟩
  | cons x xs => exact ⟨h1, by unfold eOrT; rw [e1, bind_ok]; rfl, S1⟩
/-- a call that changes the thing handed in first -/
theorem q_callB2 {G : MF} {ms : MA} {ds : List D} {o o0 o' : O} {d : D} (h0 : Hs s i o0) (hB : QA F s ms ds s1) (hx : Hs s1 i o) (ho : ∀ h p, h[p]? = some o → G (.ref p :: ds) h = .ok d (h.set p o')) : QX F s (eCall G (aCons (eSlot i) ms)) d (chS s1 i o') := fun env h S => by
  obtain ⟨p0, e0, _⟩ := S.cell i o0 h0
  obtain ⟨h1, e1, S1⟩ := hB env h S
  obtain ⟨p, e2, e3⟩ := S1.cell i o hx
  rw [e0] at e2
  cases e2
  refine ⟨h1.set p0 o', ?_, S1.change hx e0 o'⟩
  unfold eCall aCons eSlot
  rw [e0]
  show (((ms env h).bind fun xs h2 => Res.ok (D.ref p0 :: xs) h2).bind fun ds h1 => G ds h1) = _
  rw [e1, bind_ok, bind_ok, ho h1 p0 e3]
/-- a name is set, a thing is changed -/
theorem qs_letX {r : ρ} {ed : ρ → D} {Ev : ρ → SEnv} {c2 : ρ → Ctl S L R X} {ok : ρ → Prop} (hA : QX k.F s A (ed r) (Ev r)) (hok : ok r) (h2 : ∀ r, ok r → QS k ((Ev r).set i (some (.v (ed r)))) b E (c2 r)) : QS k s (sSeq (sAsg A (gName i)) b) E (letC r c2) := fun env h Sx => by
  obtain ⟨h1, e1, S1⟩ := hA env h Sx
  have := h2 r hok (env.set i (some (ed r))) h1 (S1.setV i (ed r))
  unfold sSeq sAsg
  rw [e1]
  exact this
theorem qs_parX {r : ρ} {da db : ρ → D} {ms : MA} {Ev : ρ → SEnv} {c2 : ρ → Ctl S L R X} {ok : ρ → Prop} (hA : QA k.F s ms [da r, db r] (Ev r)) (hok : ok r) (h2 : ∀ r, ok r → QS k (((Ev r).set i (some (.v (da r)))).set j (some (.v (db r)))) b E (c2 r)) : QS k s (sSeq (sPar i j ms) b) E (letC r c2) := fun env h Sx => by
  obtain ⟨h1, e1, S1⟩ := hA env h Sx
  have := h2 r hok _ h1 ((S1.setV i (da r)).setV j (db r))
  unfold sSeq sPar
  rw [e1]
  exact this
theorem qs_unpL {n : Nat} {is : List Nat} {gs : MGs} {r : ρ} {e : ρ → D} {ps : ρ → List D} {Ev : ρ → SEnv} {c2 : ρ → Ctl S L R X} {ok : ρ → Prop} (hA : QX k.F s A (e r) (Ev r)) (he : ∀ r, e r = .tup (ps r)) (hg : gs = is.foldr (fun i gs => gCons (gName i) gs) gNil) (hn : ∀ r, (ps r).length = n) (hl : is.length = n) (hok : ok r)
    (h2 : ∀ r, ok r → QS k (sAll is (ps r) (Ev r)) b E (c2 r)) : QS k s (sSeq (sAsg A (gTup n gs)) b) E (letC r c2) := by
  have := qs_unp (b := b) (E := E) (c := c2 r) (k := k) (by rw [he] at hA; exact hA) hg (hn r) ((hn r).trans hl.symm) (h2 r hok)
  exact this
/-- an ask, taken apart -/
theorem qs_unpD {gs : MGs} {i1 i2 i3 : Nat} {d : Deed} {c : Ctl S L R X} (hd : d.isAsk = true) (hA : QX k.F s A (eDd d) s1) (hg : gs = [i1, i2, i3].foldr (fun i gs => gCons (gName i) gs) gNil) (h2 : QS k (sAll [i1, i2, i3] [eW d.word, .int d.guest, eO D.int d.left] s1) b E c) : QS k s (sSeq (sAsg A (gTup 3 gs)) b) E c := by
  cases d with
  | ask w g l => exact qs_unp (is := [i1, i2, i3]) hA hg rfl rfl h2
  | mov w g => cases hd
  | tick => cases hd
end
end MR

/-! Q7: dicts from words; what asks nothing. -/
namespace MR
open PySem PySem.Spec PyProof.Rows L2

section
variable {S S' S1 S2 L R X α β γ δ ρ : Type}
theorem okSt_true (g : β → L → α × L) : ∀ (xs : List β) (l : L), okSt g (fun _ _ => True) xs l
  | [], _ => trivial
  | _ :: xs, l => ⟨trivial, okSt_true g xs _⟩
theorem okFold_true (f : α → S → S) : ∀ (xs : List α) (s : S), okFold f (fun _ _ => True) xs s
  | [], _ => trivial
  | _ :: xs, s => ⟨trivial, okFold_true f xs _⟩
theorem okFor_true (f : α → S → Ctl S S R X) : ∀ (xs : List α) (s : S), okFor f (fun _ _ => True) xs s
  | [], _ => trivial
  | x :: xs, s => ⟨trivial, by
    cases f x s with
    | nx s' => exact okFor_true f xs s'
    | ct s' => exact okFor_true f xs s'
    | _ => trivial⟩
theorem ctl_true (c : Ctl S L R X) : c.All (fun _ => True) := by cases c <;> trivial

theorem qs_seqV {F0 : Kf L R X} {s : SEnv} {a b : MS} {E : S → SEnv} {E1 : S1 → SEnv} {v : S1} {c2 : S1 → Ctl S L R X} {ok : S1 → Prop} (h1 : QS F0 s a E1 (.nx v)) (hok : ok v) (h2 : ∀ x, ok x → QS F0 (E1 x) b E (c2 x)) : QS F0 s (sSeq a b) E (letC v c2) := qs_seq h1 hok h2

/-! ### dicts from words -/
def mapD (e : α → D) (l : List (Wd × α)) : List (Key × D) := l.map fun p => (.inr p.1.val, e p.2)
def oD (e : α → D) (l : List (Wd × α)) : O := .dK (mapD e l)
theorem key_eq (a b : Wd) : ((Sum.inr a.val : Key) = Sum.inr b.val) ↔ a = b := ⟨fun h => Wd.val_inj (Sum.inr.inj h), fun h => by rw [h]⟩
theorem put_map (e : α → D) (l : List (Wd × α)) (k : Wd) (v : α) : putG (mapD e l) (.inr k.val) (e v) = mapD e (putG l k v) := by
  unfold putG mapD
  have h1 : ((l.map fun p : Wd × α => ((Sum.inr p.1.val : Key), e p.2)).any fun kv => decide (kv.1 = Sum.inr k.val)) = l.any fun kv => decide (kv.1 = k) := by
    rw [List.any_map]
    congr 1
    funext p
    show decide ((Sum.inr p.1.val : Key) = Sum.inr k.val) = decide (p.1 = k)
    by_cases h : p.1 = k
    · rw [decide_eq_true h, decide_eq_true ((key_eq _ _).mpr h)]
    · rw [decide_eq_false h, decide_eq_false fun z => h ((key_eq _ _).mp z)]
  rw [h1]
  split
  · rw [List.map_map, List.map_map]
    congr 1
    funext p
    show (if (Sum.inr p.1.val : Key) = Sum.inr k.val then ((Sum.inr p.1.val : Key), e v) else (Sum.inr p.1.val, e p.2)) = ((Sum.inr (if p.1 = k then (p.1, v) else p).1.val : Key), e (if p.1 = k then (p.1, v) else p).2)
    by_cases h : p.1 = k
    · rw [if_pos h, if_pos ((key_eq _ _).mpr h)]
    · rw [if_neg h, if_neg fun z => h ((key_eq _ _).mp z)]
  · rw [List.map_append]; rfl
theorem merge_map (e : α → D) : ∀ (m l : List (Wd × α)), mergeG (mapD e l) (mapD e m) = mapD e (mergeG l m)
  | [], l => rfl
  | p :: m, l => by
    show mergeG (putG (mapD e l) (.inr p.1.val) (e p.2)) (mapD e m) = mapD e (mergeG (putG l p.1 p.2) m)
    rw [put_map, merge_map e m]
theorem get_map (e : α → D) (k : Wd) : ∀ l : List (Wd × α), getG (mapD e l) (.inr k.val) = (getG l k).map e
  | [] => rfl
  | p :: l => by
    have ih := get_map e k l
    unfold getG mapD at ih ⊢
    rw [List.map_cons, List.find?_cons, List.find?_cons]
    by_cases h : p.1 = k
    · rw [show decide ((Sum.inr p.1.val : Key) = Sum.inr k.val) = true from decide_eq_true ((key_eq _ _).mpr h), show decide (p.1 = k) = true from decide_eq_true h]; rfl
    · rw [show decide ((Sum.inr p.1.val : Key) = Sum.inr k.val) = false from decide_eq_false fun z => h ((key_eq _ _).mp z), show decide (p.1 = k) = false from decide_eq_false h]; exact ih
variable {F : Fr} {s s1 s2 : SEnv} {A B : ME} {i : Nat} {E : S → SEnv} {k : Kf L R X} {b : MS}
/-- what a dict is written with -/
def QP (F : Fr) (s : SEnv) (m : List (ME × ME)) (e : α → D) (l : List (Wd × α)) : Prop := ∀ env h, Sat F s env h → ∃ h', aPairs m env h = .ok (l.map fun p => (eW p.1, e p.2)) h' ∧ Sat F s env h'
theorem qp_nil {e : α → D} : QP F s [] e [] := fun env h S => ⟨h, rfl, S⟩
theorem qp_cons {e : α → D} {w : Wd} {v : α} {m : List (ME × ME)} {l : List (Wd × α)} (hA : QX F s A (eW w) s) (hB : QX F s B (e v) s) (hm : QP F s m e l) : QP F s ((A, B) :: m) e ((w, v) :: l) := fun env h S => by
  obtain ⟨h1, e1, S1⟩ := hA env h S
  obtain ⟨h2, e2, S2⟩ := hB env h1 S1
  obtain ⟨h3, e3, S3⟩ := hm env h2 S2
  exact ⟨h3, by unfold aPairs; rw [e1, bind_ok, e2, bind_ok, e3, bind_ok]; rfl, S3⟩
theorem keyDs_map (e : α → D) : ∀ l : List (Wd × α), keyDs (l.map fun p => (eW p.1, e p.2)) = some (mapD e l)
  | [] => rfl
  | p :: l => by
    rw [List.map_cons, keyDs, keyDs_map e l]; rfl
theorem disp_run {e : α → D} {m : List (ME × ME)} {l : List (Wd × α)} (hm : QP F s m e l) (hl : l.length ≤ 15) : ∀ env h, Sat F s env h → ∃ h', eDisp m env h = .ok (.ref h'.length) (h' ++ [oD e (mergeG [] l)]) ∧ Sat F s env h' := fun env h S => by
  obtain ⟨h1, e1, S1⟩ := hm env h S
  refine ⟨h1, ?_, S1⟩
  unfold eDisp
  rw [e1, bind_ok, keyDs_map]
  show (if (mapD e l).length ≤ 15 then Res.ok (D.ref h1.length) (h1 ++ [O.dK (mergeG [] (mapD e l))]) else .stuck) = _
  rw [if_pos (by unfold mapD; rw [List.length_map]; exact hl)]
  have := merge_map e l []
  rw [show mapD e [] = [] from rfl] at this
  rw [this]; rfl
/-- an expression that leaves the heap alone -/
def QX0 (F : Fr) (s : SEnv) (m : ME) (d : D) : Prop := ∀ env h, Sat F s env h → m env h = .ok d h
theorem q0_slot {d : D} (i : Nat) (e : s[i]? = some (some (Sl.v d))) : QX0 F s (eSlot i) d := fun env h S => by
  unfold eSlot
  rw [S.val i d e]
theorem q0_c {d : D} : QX0 F s (eC d) d := fun env h S => rfl
theorem q0_op2 {f : Op2} {d1 d2 d3 : D} (hA : QX0 F s A d1) (hB : QX0 F s B d2) (ho : ∀ h, f d1 d2 h = some d3) : QX0 F s (eOp2 f A B) d3 := fun env h S => by
  unfold eOp2
  rw [hA env h S, bind_ok, hB env h S, bind_ok, ho]; rfl
theorem q0_unopt [Inhabited α] {e : α → D} {v : Option α} {m : ME} (hs : v.isSome = true) (h : QX0 F s m (eO e v)) : QX0 F s m (e (v.getD default)) := by
  cases v with
  | none => cases hs
  | some x => exact h
/-- {..}[w] -/
theorem q_disp {e : α → D} {m : List (ME × ME)} {l : List (Wd × α)} {w : Wd} [Inhabited α] (hm : QP F s m e l) (hB : QX0 F s B (eW w)) (hw : (getG (mergeG [] l) w).isSome = true) (hl : l.length ≤ 15 := by decide) : QX F s (eOp2 ixA (eDisp m) B) (e ((getG (mergeG [] l) w).getD default)) s := fun env h S => by
  obtain ⟨h1, e1, S1⟩ := disp_run hm hl env h S
  have S2 := S1.app [oD e (mergeG [] l)]
  refine ⟨_, ?_, S2⟩
  unfold eOp2
  rw [e1, bind_ok, hB env _ S2, bind_ok]
  show lift (ixA (.ref h1.length) (.str w.val) _) _ = _
  rw [ev_ixRS, List.getElem?_append_right (Nat.le_refl _), Nat.sub_self]
  show lift (getG (mapD e (mergeG [] l)) (.inr w.val)) _ = _
  rw [get_map]
  cases hg : getG (mergeG [] l) w with
  | none => rw [hg] at hw; cases hw
  | some x => rfl
theorem o_ixD [Inhabited α] {e : α → D} (l : List (Wd × α)) (w : Wd) (hw : (getG l w).isSome = true) (h : Hh) (p : Nat) (hp : h[p]? = some (oD e l)) : ixA (.ref p) (eW w) h = some (e ((getG l w).getD default)) := by
  show ixA (.ref p) (.str w.val) h = _
  rw [ev_ixRS, hp]
  show getG (mapD e l) (.inr w.val) = _
  rw [get_map]
  cases hg : getG l w with
  | none => rw [hg] at hw; cases hw
  | some x => rfl
theorem qs_newD {e : α → D} {m : List (ME × ME)} {l : List (Wd × α)} {c2 : List (Wd × α) → Ctl S L R X} {ok : List (Wd × α) → Prop} (hm : QP k.F s m e l) (hok : ok (mergeG [] l)) (h2 : ∀ x, ok x → QS k (s.set i (some (.own (oD e x)))) b E (c2 x)) (hl : l.length ≤ 15 := by decide) : QS k s (sSeq (sAsg (eDisp m) (gName i)) b) E (letC (mergeG [] l) c2) := fun env h Sx => by
  obtain ⟨h1, e1, S1⟩ := disp_run hm hl env h Sx
  have := h2 _ hok _ _ (S1.setO i (oD e (mergeG [] l)))
  unfold sSeq sAsg
  rw [e1]
  exact this
theorem dictOf_ref {h : Hh} {p : Nat} {kvs : List (Key × D)} (hp : h[p]? = some (.dK kvs)) : dictOf (.ref p) h = some kvs := by
  show (match h[p]? with | some (O.dK kvs) => some kvs | _ => none) = _
  rw [hp]
/-- x.update({..}) -/
theorem q_upd {e : α → D} {m : List (ME × ME)} {l l' : List (Wd × α)} (hx : Hs s i (oD e l)) (hm : QP F s m e l') (hz : l.length + (mergeG [] l').length ≤ 16777216) (hl : l'.length ≤ 15 := by decide) : QX F s (eMeth isDk updO (eSlot i) (aCons (eDisp m) aNil)) .non (chS s i (oD e (mergeG l (mergeG [] l')))) := fun env h S => by
  obtain ⟨p, e0, e00⟩ := S.cell i _ hx
  obtain ⟨h1, e1, S1⟩ := disp_run hm hl env h S
  have S2 := S1.app [oD e (mergeG [] l')]
  obtain ⟨p', e2, e3⟩ := S1.cell i _ hx
  rw [e0] at e2
  cases e2
  have hp : p < h1.length := (List.getElem?_eq_some_iff.mp e3).1
  have e4 : (h1 ++ [oD e (mergeG [] l')])[p]? = some (oD e l) := by rw [List.getElem?_append_left hp]; exact e3
  have e5 : (h1 ++ [oD e (mergeG [] l')])[h1.length]? = some (oD e (mergeG [] l')) := by simp
  refine ⟨_, ?_, S2.change hx e0 (oD e (mergeG l (mergeG [] l')))⟩
  unfold eMeth eSlot aCons aNil
  rw [e0]
  show (if isDk (.ref p) h = true then _ else _) = _
  rw [if_pos (by unfold isDk; rw [dictOf_ref e00]; rfl)]
  rw [e1, bind_ok]
  show liftM (updO (.ref p) [.ref h1.length] (h1 ++ [oD e (mergeG [] l')])) = _
  have : updO (.ref p) [.ref h1.length] (h1 ++ [oD e (mergeG [] l')]) = some (.non, (h1 ++ [oD e (mergeG [] l')]).set p (oD e (mergeG l (mergeG [] l')))) := by
    have f4 := dictOf_ref (kvs := mapD e l) e4
    have f5 := dictOf_ref (kvs := mapD e (mergeG [] l')) e5
    simp only [updO, f4, f5]
    rw [if_pos ⟨by omega, by unfold mapD; rw [List.length_map, List.length_map]; exact hz⟩, merge_map]; rfl
  rw [this]; rfl
end
end MR

/-! Q8: parts that always go on. -/
namespace MR
open PySem PySem.Spec PyProof.Rows L2
section
variable {S S' S1 S2 L R X α β γ δ ρ : Type} {k : Kf L R X} {s s1 s2 : SEnv} {a b : MS} {E : S → SEnv} {E1 : S1 → SEnv} {A : ME} {i j : Nat}
theorem qs_letV {e : α → D} {v : α} {g2 : α → S} {ok : α → Prop} (hA : QX k.F s A (e v) s1) (hok : ok v) (h2 : ∀ x, ok x → QS k (s1.set i (some (.v (e x)))) b E (.nx (g2 x))) : QS k s (sSeq (sAsg A (gName i)) b) E (.nx (letC v g2)) := qs_let (c2 := fun x => .nx (g2 x)) hA hok h2
theorem qs_letXV {r : ρ} {ed : ρ → D} {Ev : ρ → SEnv} {g2 : ρ → S} {ok : ρ → Prop} (hA : QX k.F s A (ed r) (Ev r)) (hok : ok r) (h2 : ∀ r, ok r → QS k ((Ev r).set i (some (.v (ed r)))) b E (.nx (g2 r))) : QS k s (sSeq (sAsg A (gName i)) b) E (.nx (letC r g2)) := qs_letX (c2 := fun x => .nx (g2 x)) hA hok h2
theorem qs_parXV {r : ρ} {da db : ρ → D} {ms : MA} {Ev : ρ → SEnv} {g2 : ρ → S} {ok : ρ → Prop} (hA : QA k.F s ms [da r, db r] (Ev r)) (hok : ok r) (h2 : ∀ r, ok r → QS k (((Ev r).set i (some (.v (da r)))).set j (some (.v (db r)))) b E (.nx (g2 r))) : QS k s (sSeq (sPar i j ms) b) E (.nx (letC r g2)) := qs_parX (c2 := fun x => .nx (g2 x)) hA hok h2
theorem qs_unpLV {n : Nat} {is : List Nat} {gs : MGs} {r : ρ} {e : ρ → D} {ps : ρ → List D} {Ev : ρ → SEnv} {g2 : ρ → S} {ok : ρ → Prop} (hA : QX k.F s A (e r) (Ev r)) (he : ∀ r, e r = .tup (ps r)) (hg : gs = is.foldr (fun i gs => gCons (gName i) gs) gNil) (hn : ∀ r, (ps r).length = n) (hl : is.length = n) (hok : ok r)
    (h2 : ∀ r, ok r → QS k (sAll is (ps r) (Ev r)) b E (.nx (g2 r))) : QS k s (sSeq (sAsg A (gTup n gs)) b) E (.nx (letC r g2)) := qs_unpL (c2 := fun x => .nx (g2 x)) hA he hg hn hl hok h2
theorem qs_doV {d : D} {v : α} {Ev : α → SEnv} {g2 : α → S} {ok : α → Prop} (hA : QX k.F s A d (Ev v)) (hok : ok v) (h2 : ∀ x, ok x → QS k (Ev x) b E (.nx (g2 x))) : QS k s (sSeq (sDrop A) b) E (.nx (letC v g2)) := qs_do (c2 := fun x => .nx (g2 x)) hA hok h2
theorem qs_newV {ms : MA} {e : α → D} {l : List α} {g2 : List α → S} {ok : List α → Prop} (hA : QL k.F s ms e l s1) (hok : ok l) (h2 : ∀ x, ok x → QS k (s1.set i (some (.own (oL e x)))) b E (.nx (g2 x))) : QS k s (sSeq (sAsg (eNew ms) (gName i)) b) E (.nx (letC l g2)) := qs_new (c2 := fun x => .nx (g2 x)) hA hok h2
theorem qs_newDV {e : α → D} {m : List (ME × ME)} {l : List (Wd × α)} {g2 : List (Wd × α) → S} {ok : List (Wd × α) → Prop} (hm : QP k.F s m e l) (hok : ok (mergeG [] l)) (h2 : ∀ x, ok x → QS k (s.set i (some (.own (oD e x)))) b E (.nx (g2 x))) (hl : l.length ≤ 15 := by decide) : QS k s (sSeq (sAsg (eDisp m) (gName i)) b) E (.nx (letC (mergeG [] l) g2)) := qs_newD (c2 := fun x => .nx (g2 x)) hm hok h2 hl
theorem qs_newCV {G : MF} {ms : MA} {ds : List D} {e : α → D} {l : List α} {g2 : List α → S} {ok : List α → Prop} (hA : QA k.F s ms ds s1) (ho : ∀ h, G ds h = .ok (.ref h.length) (h ++ [oL e l])) (hok : ok l) (h2 : ∀ x, ok x → QS k (s1.set i (some (.own (oL e x)))) b E (.nx (g2 x))) : QS k s (sSeq (sAsg (eCall G ms) (gName i)) b) E (.nx (letC l g2)) := qs_newC (c2 := fun x => .nx (g2 x)) hA ho hok h2
theorem qs_augV {f : Op2} {e : α → D} {v : α} {d1 d2 : D} {g2 : α → S} {ok : α → Prop} (hx : s[i]? = some (some (Sl.v d1))) (hA : QX k.F s A d2 s1) (ho : ∀ h, f d1 d2 h = some (e v)) (hok : ok v) (h2 : ∀ x, ok x → QS k (s1.set i (some (.v (e x)))) b E (.nx (g2 x))) : QS k s (sSeq (sAug i A f) b) E (.nx (letC v g2)) := qs_aug (c2 := fun x => .nx (g2 x)) hx hA ho hok h2
theorem qs_setixV {g2 : List α → S} {ok : List α → Prop} {I V : ME} {e : α → D} {l : List α} {j : Int} {v : α} {Ev : List α → SEnv} (hV : QX k.F s V (e v) s1) (hI : QX k.F s1 I (.int j) s1) (hx : Hs s1 i (oL e l)) (hj : 0 ≤ j ∧ j < l.length) (he : chS s1 i (oL e (l.set j.toNat v)) = Ev (l.set j.toNat v)) (hok : ok (l.set j.toNat v))
    (h2 : ∀ x, ok x → QS k (Ev x) b E (.nx (g2 x))) : QS k s (sSeq (sAsg V (gSubD (eSlot i) I setO)) b) E (.nx (letC (l.set j.toNat v) g2)) := qs_setix (c2 := fun x => .nx (g2 x)) hV hI hx hj he hok h2
theorem qs_seqVV {v : S1} {g2 : S1 → S} {ok : S1 → Prop} (h1 : QS k s a E1 (.nx v)) (hok : ok v) (h2 : ∀ x, ok x → QS k (E1 x) b E (.nx (g2 x))) : QS k s (sSeq a b) E (.nx (letC v g2)) := qs_seqV (c2 := fun x => .nx (g2 x)) h1 hok h2
theorem qs_mapV {E' : S' → SEnv} {x : S} {g : S → S'} (h : QS k s a E (.nx x)) (w : ∀ x, Weak (E x) (E' (g x))) : QS k s a E' (.nx (letC x g)) := qs_map h w
end
end MR
namespace MR
open PySem PySem.Spec PyProof.Rows L2
section
variable {S S' S1 S2 L R X α β γ δ ρ : Type} {k : Kf L R X} {s s1 s2 : SEnv} {b : MS} {E : S → SEnv} {A B : ME} {i j : Nat} {F : Fr}
theorem ql_add {e : α → D} {l m : List α} (hA : QX F s A (eL e l) s1) (hB : QX F s1 B (eL e m) s2) (hl : l.length + m.length ≤ 16777216) : QL F s (aAdd A B) e (l ++ m) s2 := fun env h S => by
  obtain ⟨h1, e1, S1⟩ := hA env h S
  obtain ⟨h2, e2, S2⟩ := hB env h1 S1
  refine ⟨h2, ?_, S2⟩
  unfold aAdd
  rw [e1, bind_ok, e2, bind_ok]
  show lift (if (l.map e).length + (m.map e).length ≤ sizeLine then some (l.map e ++ m.map e) else none) h2 = _
  rw [List.length_map, List.length_map, if_pos (by rw [sizeLine_eq]; exact hl), List.map_append]; rfl
/-- d[w] = v -/
theorem qs_setixD {c2 : List (Wd × α) → Ctl S L R X} {ok : List (Wd × α) → Prop} {I V : ME} {e : α → D} {l : List (Wd × α)} {w : Wd} {v : α} {Ev : List (Wd × α) → SEnv} (hV : QX k.F s V (e v) s1) (hI : QX k.F s1 I (eW w) s1) (hx : Hs s1 i (oD e l)) (hj : l.length < 16777216) (he : chS s1 i (oD e (putG l w v)) = Ev (putG l w v)) (hok : ok (putG l w v))
    (h2 : ∀ x, ok x → QS k (Ev x) b E (c2 x)) : QS k s (sSeq (sAsg V (gSubD (eSlot i) I setDO)) b) E (letC (putG l w v) c2) := fun env h Sx => by
  obtain ⟨h1, e1, S1⟩ := hV env h Sx
  obtain ⟨h2', e2, S2⟩ := hI env h1 S1
  obtain ⟨p, e3, e4⟩ := S2.cell i _ hx
  have S3 := S2.change hx e3 (oD e (putG l w v))
  rw [he] at S3
  have := h2 _ hok env _ S3
  unfold sSeq sAsg
  rw [e1]
  show OutOk k E ((RSof (gSubD (eSlot i) I setDO (e v) env h1)).seq b) _
  have eg : gSubD (eSlot i) I setDO (e v) env h1 = some (env, h2'.set p (oD e (putG l w v))) := by
    unfold gSubD eSlot
    rw [e3]
    show (match I env h1 with
      | .ok i h2 => (setDO (.ref p) i (e v) h2).map fun h3 => (env, h3)
      | _ => none) = _
    rw [e2]
    show (setDO (.ref p) (eW w) (e v) h2').map (fun h3 => (env, h3)) = _
    have : setDO (.ref p) (eW w) (e v) h2' = some (h2'.set p (oD e (putG l w v))) := by
      unfold setDO
      show (match h2'[p]? with
        | some (O.dK kvs) => (match keyD (eW w) with
          | some k => if kvs.length < 16777216 then some (h2'.set p (.dK (putG kvs k (e v)))) else none
          | none => none)
        | _ => none) = _
      rw [e4]
      show (if (mapD e l).length < 16777216 then some (h2'.set p (O.dK (putG (mapD e l) (.inr w.val) (e v)))) else none) = _
      rw [if_pos (by unfold mapD; rw [List.length_map]; exact hj), put_map]; rfl
    rw [this]; rfl
  rw [eg]
  exact this
theorem qs_setixDV {g2 : List (Wd × α) → S} {ok : List (Wd × α) → Prop} {I V : ME} {e : α → D} {l : List (Wd × α)} {w : Wd} {v : α} {Ev : List (Wd × α) → SEnv} (hV : QX k.F s V (e v) s1) (hI : QX k.F s1 I (eW w) s1) (hx : Hs s1 i (oD e l)) (hj : l.length < 16777216) (he : chS s1 i (oD e (putG l w v)) = Ev (putG l w v)) (hok : ok (putG l w v))
    (h2 : ∀ x, ok x → QS k (Ev x) b E (.nx (g2 x))) : QS k s (sSeq (sAsg V (gSubD (eSlot i) I setDO)) b) E (.nx (letC (putG l w v) g2)) := qs_setixD (c2 := fun x => .nx (g2 x)) hV hI hx hj he hok h2
end
/-! ### none or a number -/
theorem o_isiOB (o : Option Int) (h : Hh) : isiO [eO D.int o, .glb (.ty "bool")] h = some (.bl false) := by
  cases o with
  | none => rw [ev_isi]; show ((tyName .non h).bind fun t => (kitB t "bool").map D.bl) = _; rw [ev_tyNon]; show (kitB "NoneType" "bool").map D.bl = _; rw [kit_all.2.2.2.2.1]; rfl
  | some k => rw [ev_isi]; show ((tyName (.int k) h).bind fun t => (kitB t "bool").map D.bl) = _; rw [ev_tyI]; show (kitB "int" "bool").map D.bl = _; rw [kit_int.2.2.2.2.1]; rfl
theorem o_isiOI (o : Option Int) (h : Hh) : isiO [eO D.int o, .glb (.ty "int")] h = some (.bl o.isSome) := by
  cases o with
  | none => rw [ev_isi]; show ((tyName .non h).bind fun t => (kitB t "int").map D.bl) = _; rw [ev_tyNon]; show (kitB "NoneType" "int").map D.bl = _; rw [kit_all.2.2.2.2.2]; rfl
  | some k => rw [ev_isi]; show ((tyName (.int k) h).bind fun t => (kitB t "int").map D.bl) = _; rw [ev_tyI]; show (kitB "int" "int").map D.bl = _; rw [kit_int.2.2.2.2.2]; rfl
theorem map_some_e {α : Type} (e : α → D) (l : List α) : (l.map some).map (eO e) = l.map e := by
  rw [List.map_map]; rfl
theorem q_uptL {α : Type} {F : Fr} {s s' : SEnv} {m : ME} {e : α → D} {l : List α} (h : QX F s m (eL e l) s') : QX F s m (eL (eO e) (l.map some)) s' := by
  unfold eL at h ⊢
  rw [map_some_e]; exact h
theorem q_uptS {α : Type} {F : Fr} {s s' : SEnv} {m : ME} {e : α → D} {l : List α} (h : QX F s m (eS e l) s') : QX F s m (eS (eO e) (l.map some)) s' := by
  unfold eS at h ⊢
  rw [map_some_e]; exact h
end MR

/-! Q9: plain facts of loops, lists, places. -/
namespace MR
open PySem PySem.Spec PyProof.Rows L2

section
variable {S S' S1 S2 L R X α β γ δ ρ : Type}
@[simp] theorem ctl_ite_rt (c : Prop) [Decidable c] (a b : R) : (if c then (Ctl.rt a : Ctl S L R X) else .rt b) = .rt (if c then a else b) := by split <;> rfl
theorem forC_find {f : α → Unit → Ctl Unit Unit R X} (p : α → Bool) (g : α → R) (hf : ∀ x, f x () = if p x = true then (.rt (g x) : Ctl Unit Unit R X) else .nx ()) : ∀ xs : List α, (forC f xs () : Ctl Unit L R X) = match xs.find? p with | some x => .rt (g x) | none => .nx ()
  | [] => rfl
  | x :: xs => by
    unfold forC
    rw [hf]
    cases hp : p x with
    | true => simp [List.find?_cons, hp]
    | false => simp [List.find?_cons, hp]; exact forC_find p g hf xs
theorem okFor_all {f : α → S → Ctl S S R X} {ok : α → S → Prop} : ∀ (xs : List α) (s : S), (∀ x ∈ xs, ∀ s, ok x s) → okFor f ok xs s
  | [], _, _ => trivial
  | x :: xs, s, h => ⟨h x List.mem_cons_self s, by
    cases f x s with
    | nx s' => exact okFor_all xs s' fun y m => h y (List.mem_cons_of_mem _ m)
    | ct s' => exact okFor_all xs s' fun y m => h y (List.mem_cons_of_mem _ m)
    | _ => trivial⟩
/-- a loop that never stops early and always goes on from a state that is well -/
theorem forC_inv {f : α → S → Ctl S S R X} {ok : α → S → Prop} (I : S → Prop) : ∀ (xs : List α) (s : S), I s → (∀ x ∈ xs, ∀ s, I s → ok x s ∧ ∃ s', f x s = .nx s' ∧ I s') → okFor f ok xs s ∧ ∃ s', (forC f xs s : Ctl S L R X) = .nx s' ∧ I s'
  | [], s, i, _ => ⟨trivial, s, rfl, i⟩
  | x :: xs, s, i, h => by
    obtain ⟨a, s', e, i'⟩ := h x List.mem_cons_self s i
    obtain ⟨b, s2, e2, i2⟩ := forC_inv (ok := ok) I xs s' i' fun y m => h y (List.mem_cons_of_mem _ m)
    refine ⟨⟨a, by rw [e]; exact b⟩, s2, ?_, i2⟩
    unfold forC
    rw [e]; exact e2
theorem foldV_inv {f : α → S → S} {ok : α → S → Prop} (I : S → Prop) : ∀ (xs : List α) (s : S), I s → (∀ x ∈ xs, ∀ s, I s → ok x s ∧ I (f x s)) → okFold f ok xs s ∧ I (foldV f xs s)
  | [], s, i, _ => ⟨trivial, i⟩
  | x :: xs, s, i, h => by
    obtain ⟨a, i'⟩ := h x List.mem_cons_self s i
    obtain ⟨b, i2⟩ := foldV_inv (ok := ok) I xs (f x s) i' fun y m => h y (List.mem_cons_of_mem _ m)
    exact ⟨⟨a, b⟩, i2⟩
theorem mapSt_inv {g : β → L → α × L} {ok : β → L → Prop} (I : L → Prop) (P : α → Prop) : ∀ (xs : List β) (l : L), I l → (∀ x ∈ xs, ∀ l, I l → ok x l ∧ P (g x l).1 ∧ I (g x l).2) → okSt g ok xs l ∧ (∀ y ∈ (mapSt g xs l).1, P y) ∧ I (mapSt g xs l).2 ∧ (mapSt g xs l).1.length = xs.length
  | [], l, i, _ => ⟨trivial, (fun y m => by cases m), i, rfl⟩
  | x :: xs, l, i, h => by
    obtain ⟨a, p, i'⟩ := h x List.mem_cons_self l i
    obtain ⟨b, q, i2, e⟩ := mapSt_inv (ok := ok) I P xs (g x l).2 i' fun y m => h y (List.mem_cons_of_mem _ m)
    refine ⟨⟨a, b⟩, fun y m => ?_, i2, by show _ + 1 = _ + 1; rw [e]⟩
    rcases List.mem_cons.mp m with z | z
    · rw [z]; exact p
    · exact q y z
/-- a while that goes on so long -/
def itV (c : S → Bool) (g : S → S) : Nat → S → S
  | 0, s => s
  | n + 1, s => if c s = true then itV c g n (g s) else s
theorem whileC_it {c : S → Bool} {f : S → Ctl S S R X} {okc okf : S → Prop} (g : S → S) (I : S → Prop) (μ : S → Nat) (h : ∀ s, I s → okc s ∧ (c s = true → okf s ∧ f s = .nx (g s) ∧ I (g s) ∧ μ (g s) < μ s)) : ∀ (n : Nat) (s : S), I s → μ s ≤ n → okN c f okc okf (n + 1) s ∧ whileT (L := L) c f (n + 1) s = some (.nx (itV c g n s)) ∧ c (itV c g n s) = false ∧ I (itV c g n s)
  | n, s, i, hn => by
    obtain ⟨a, b⟩ := h s i
    cases hc : c s with
    | false =>
      have e : itV c g n s = s := by cases n with | zero => rfl | succ n => unfold itV; rw [hc]; rfl
      rw [e]
      exact ⟨⟨a, fun z => by rw [hc] at z; cases z⟩, by unfold whileT; rw [hc]; rfl, hc, i⟩
    | true =>
      obtain ⟨b1, b2, b3, b4⟩ := b hc
      cases n with
      | zero => omega
      | succ n =>
        obtain ⟨x, y, z, w⟩ := whileC_it (okc := okc) (okf := okf) (f := f) g I μ h n (g s) b3 (by omega)
        have e : itV c g (n + 1) s = itV c g n (g s) := by conv => lhs; unfold itV
                                                           rw [hc]; rfl
        rw [e]
        refine ⟨⟨a, fun _ => ⟨b1, by rw [b2]; exact x⟩⟩, ?_, z, w⟩
        unfold whileT
        rw [hc, b2]; exact y
theorem whileC_run {c : S → Bool} {f : S → Ctl S S R X} {okc okf : S → Prop} (g : S → S) (I : S → Prop) (μ : S → Nat) (h : ∀ s, I s → okc s ∧ (c s = true → okf s ∧ f s = .nx (g s) ∧ I (g s) ∧ μ (g s) < μ s)) {n : Nat} {s : S} (i : I s) (hn : μ s ≤ n) :
    okW c f okc okf s ∧ (whileC c f s : Ctl S L R X) = .nx (itV c g n s) ∧ c (itV c g n s) = false ∧ I (itV c g n s) := by
  obtain ⟨a, b, d, e⟩ := whileC_it (L := L) (R := R) (X := X) (okc := okc) (okf := okf) g I μ h n s i hn
  exact ⟨⟨n + 1, a⟩, whileC_eq b, d, e⟩

theorem o_mulL (e : α → D) (l : List α) (k : Int) (hk : -1000 ≤ k ∧ k ≤ 1000 ∧ l.length ≤ 1000) (h : Hh) : mulB (eL e l) (.int k) h = some (eL e (repG l k)) := by
  show mulB (.lst (l.map e)) (.int k) h = _
  rw [ev_mulBL, List.length_map, if_pos hk, rep_map]; rfl

/-! ### lists by places -/
theorem mem_enumT {l : List α} {p : Int × α} : p ∈ enumT l ↔ ∃ k : Nat, p.1 = k ∧ l[k]? = some p.2 := by
  unfold enumT
  rw [List.mem_map]
  constructor
  · rintro ⟨⟨x, k⟩, h, rfl⟩
    exact ⟨k, rfl, by rw [List.mem_zipIdx_iff_getElem?] at h; exact h⟩
  · rintro ⟨k, h1, h2⟩
    exact ⟨(p.2, k), by rw [List.mem_zipIdx_iff_getElem?]; exact h2, by rw [← h1]⟩
theorem mem_rngT {lo hi k : Int} : k ∈ rngT lo hi ↔ lo ≤ k ∧ k < hi := by
  unfold rngT
  rw [List.mem_map]
  constructor
  · rintro ⟨i, h, rfl⟩
    have := List.mem_range.mp h
    omega
  · rintro ⟨h1, h2⟩
    exact ⟨(k - lo).toNat, List.mem_range.mpr (by omega), by omega⟩
theorem rngT_len (lo hi : Int) : (rngT lo hi).length = (hi - lo).toNat := by unfold rngT; simp
theorem atZ_nat [Inhabited α] (l : List α) (k : Nat) : atZ l (k : Int) = l[k]?.getD default := by
  unfold atZ
  rw [if_pos (by omega)]; rfl
theorem atZ_of [Inhabited α] {l : List α} {i : Int} (h0 : 0 ≤ i) {x : α} (h : l[i.toNat]? = some x) : atZ l i = x := by
  unfold atZ
  rw [if_pos h0, h]; rfl
theorem at_atZ [Inhabited α] {l : List α} {i : Int} (h0 : 0 ≤ i) (h1 : i < l.length) : l[i.toNat]? = some (atZ l i) := by
  unfold atZ
  rw [if_pos h0, List.getElem?_eq_getElem (by omega)]; rfl
theorem atZ_mem [Inhabited α] {l : List α} {i : Int} (h0 : 0 ≤ i) (h1 : i < l.length) : atZ l i ∈ l := List.mem_of_getElem? (at_atZ h0 h1)
theorem inR_of {l : List α} {i : Int} (h0 : 0 ≤ i) (h1 : i < l.length) : inR l i := ⟨by omega, h1⟩
@[simp] theorem atZ_zero [Inhabited α] (x : α) (l : List α) : atZ (x :: l) (0 : Int) = x := rfl
theorem cutTo (l : List α) {k : Int} (h : 0 ≤ k) : cutG l none (some k) = l.take k.toNat := cut_to l k h
theorem cutFrom (l : List α) {k : Int} (h : 0 ≤ k) : cutG l (some k) none = l.drop k.toNat := cut_from l k h
/-- one word is put in -/
theorem put_set (ws : List α) {g : Int} (h0 : 0 ≤ g) (h1 : g < ws.length) (w : α) : (cutG ws none (some g) ++ [w]) ++ cutG ws (some (g + 1)) none = ws.set g.toNat w := by
  rw [cutTo _ h0, cutFrom _ (by omega)]
  have : (g + 1).toNat = g.toNat + 1 := by omega
  rw [this]
  apply List.ext_getElem?
  intro j
  rw [List.append_assoc, List.getElem?_set]
  have hl : (ws.take g.toNat).length = g.toNat := by rw [List.length_take]; omega
  by_cases hj : j < g.toNat
  · rw [List.getElem?_append_left (by omega), List.getElem?_take_of_lt hj, if_neg (by omega)]
  · rw [List.getElem?_append_right (by omega), hl]
    by_cases hj2 : g.toNat = j
    · subst hj2
      simp [show g.toNat < ws.length by omega]
    · rw [if_neg hj2]
      obtain ⟨d, rfl⟩ : ∃ d, j = g.toNat + 1 + d := ⟨j - g.toNat - 1, by omega⟩
      have : g.toNat + 1 + d - g.toNat = d + 1 := by omega
      rw [this, List.singleton_append, List.getElem?_cons_succ, List.getElem?_drop]
theorem nodup_le : ∀ (n : Nat) (l : List Int), l.Nodup → (∀ x ∈ l, 0 ≤ x ∧ x < n) → l.length ≤ n := fun n l nd h => by
  have := nodup_len n (l.map Int.toNat) (by
    rw [List.Nodup, List.pairwise_map]
    refine List.Pairwise.imp_of_mem ?_ nd
    intro a b ha hb hne e
    have := h a ha; have := h b hb; omega) fun x m => by
    obtain ⟨y, hy, rfl⟩ := List.mem_map.mp m
    have := h y hy; omega
  simpa using this
end
end MR

/-! Q10: rooms that are well formed. -/
namespace MR
open PySem PySem.Spec PyProof.Rows L2
abbrev TRule := Wd × Int × Int × Int
abbrev TEn := Int × Wd × Int × Option Int
abbrev TRoom := List Wd × List TEn
def PlW : List Wd := [.out, .reads, .rising, .writes, .raised]
structure RmOk (n : Nat) (m : TRoom) : Prop where
  len : m.1.length = n
  pl : ∀ w ∈ m.1, w ∈ PlW
  gs : ∀ e ∈ m.2, 0 ≤ e.1 ∧ e.1 < n
  out : ∀ e ∈ m.2, m.1[e.1.toNat]? = some Wd.out
  rw : ∀ e ∈ m.2, e.2.1 = Wd.read ∨ e.2.1 = Wd.write
  nd : (m.2.map (·.1)).Nodup
theorem RmOk.few {n : Nat} {m : TRoom} (R : RmOk n m) : m.2.length ≤ n := by
  have := nodup_le n (m.2.map (·.1)) R.nd fun x hx => by
    obtain ⟨e, he, rfl⟩ := List.mem_map.mp hx
    exact R.gs e he
  simpa using this
theorem pl_cases {w : Wd} (h : w ∈ PlW) : w = .out ∨ w = .reads ∨ w = .rising ∨ w = .writes ∨ w = .raised := by simpa [PlW] using h
/-- the entry of a guest is the only one -/
theorem nodup_inj {α β : Type} {f : α → β} : ∀ {l : List α}, (l.map f).Nodup → ∀ {a b : α}, a ∈ l → b ∈ l → f a = f b → a = b
  | [], _, _, _, h, _, _ => by cases h
  | x :: xs, nd, a, b, ha, hb, h => by
    rw [List.map_cons, List.nodup_cons] at nd
    rcases List.mem_cons.mp ha with e1 | h1
    · rcases List.mem_cons.mp hb with e2 | h2
      · rw [e1, e2]
      · exact absurd (List.mem_map.mpr ⟨b, h2, by rw [← h, e1]⟩) nd.1
    · rcases List.mem_cons.mp hb with e2 | h2
      · exact absurd (List.mem_map.mpr ⟨a, h1, by rw [h, e2]⟩) nd.1
      · exact nodup_inj nd.2 h1 h2 h
theorem RmOk.one {n : Nat} {m : TRoom} (R : RmOk n m) {e f : TEn} (he : e ∈ m.2) (hf : f ∈ m.2) (h : e.1 = f.1) : e = f := nodup_inj (f := fun x : TEn => x.1) R.nd he hf h
theorem find_entry {n : Nat} {m : TRoom} (R : RmOk n m) {e : TEn} (he : e ∈ m.2) : (m.2.find? fun x => decide (x.1 = e.1)) = some e := by
  cases h : m.2.find? fun x => decide (x.1 = e.1) with
  | none =>
    have := List.find?_eq_none.mp h e he
    simp at this
  | some f =>
    have h1 := List.mem_of_find?_eq_some h
    have h2 := List.find?_some h
    have h2 : f.1 = e.1 := by simpa using h2
    rw [R.one h1 he h2]
theorem sub_len {α : Type} [DecidableEq α] : ∀ {l1 l2 : List α}, l1.Nodup → (∀ x ∈ l1, x ∈ l2) → l1.length ≤ l2.length
  | [], _, _, _ => Nat.zero_le _
  | x :: xs, l2, nd, h => by
    rw [List.nodup_cons] at nd
    have hx := h x List.mem_cons_self
    have := sub_len (l2 := l2.erase x) nd.2 fun y hy => by
      have hne : y ≠ x := fun e => nd.1 (by rw [← e]; exact hy)
      exact (List.mem_erase_of_ne hne).mpr (h y (List.mem_cons_of_mem _ hy))
    rw [List.length_erase_of_mem hx] at this
    have := List.length_pos_of_mem hx
    rw [List.length_cons]; omega
/-- how many of each -/
theorem count_sum : ∀ ws : List Wd, (∀ w ∈ ws, w ∈ PlW) → ws.count .out + ws.count .reads + ws.count .rising + ws.count .writes + ws.count .raised = ws.length
  | [], _ => rfl
  | w :: ws, h => by
    have ih := count_sum ws fun x m => h x (List.mem_cons_of_mem _ m)
    rw [List.length_cons]
    rcases pl_cases (h w List.mem_cons_self) with rfl | rfl | rfl | rfl | rfl <;> simp [List.count_cons] <;> omega
theorem all_out_count (ws : List Wd) : ws.all (fun w => decide (w = Wd.out)) = decide (ws.count .out = ws.length) := by
  induction ws with
  | nil => rfl
  | cons w ws ih =>
    rw [List.all_cons, ih, List.count_cons, List.length_cons]
    have := List.count_le_length (a := Wd.out) (l := ws)
    by_cases h : w = .out
    · subst h; simp
    · simp [h]
      omega
theorem any_shut (ws : List Wd) : ws.any (fun w => decide (w ∈ [Wd.writes, Wd.raised, Wd.rising])) = decide (0 < ws.count .writes + ws.count .raised + ws.count .rising) := by
  induction ws with
  | nil => rfl
  | cons w ws ih =>
    rw [List.any_cons, ih]
    simp only [List.count_cons]
    by_cases h1 : w = .writes
    · subst h1; simp; omega
    by_cases h2 : w = .raised
    · subst h2; simp; omega
    by_cases h3 : w = .rising
    · subst h3; simp; omega
    simp [h1, h2, h3]
/-- all out but one -/
theorem alone_count {ws : List Wd} {g : Nat} {w : Wd} (hg : ws[g]? = some w) (hw : w ≠ .out) : (enumT ws).all (fun p => decide (p.2 = Wd.out) || decide (p.1 = (g : Int))) = decide (ws.count .out + 1 = ws.length) := by
  have key : ∀ (l : List Wd) (k g : Nat), (hg : l[g]? = some w) → ((l.zipIdx k).map (fun p => (((p.2 : Nat) : Int), p.1))).all (fun p => decide (p.2 = Wd.out) || decide (p.1 = ((g + k : Nat) : Int))) = decide (l.count .out + 1 = l.length) := by
    intro l
    induction l with
    | nil => intro k g hg; simp at hg
    | cons x xs ih =>
      intro k g hg
      rw [List.zipIdx_cons, List.map_cons, List.all_cons]
      cases g with
      | zero =>
        have hx : x = w := by simpa using hg
        subst hx
        have e1 : (decide (((k : Nat) : Int) = ((0 + k : Nat) : Int))) = true := decide_eq_true (by omega)
        have rest : ∀ (ys : List Wd) (j : Nat), k < j → ((ys.zipIdx j).map (fun p => (((p.2 : Nat) : Int), p.1))).all (fun p => decide (p.2 = Wd.out) || decide (p.1 = ((0 + k : Nat) : Int))) = decide (ys.count .out = ys.length) := by
          intro ys
          induction ys with
          | nil => intro j hj; rfl
          | cons y ys ih2 =>
            intro j hj
            rw [List.zipIdx_cons, List.map_cons, List.all_cons, ih2 (j + 1) (by omega)]
            have e2 : (decide (((j : Nat) : Int) = ((0 + k : Nat) : Int))) = false := decide_eq_false (by omega)
            have := List.count_le_length (a := Wd.out) (l := ys)
            simp only [e2, Bool.or_false]
            by_cases hy : y = .out
            · subst hy; simp
            · simp [hy, List.count_cons]; omega
        rw [rest xs (k + 1) (by omega)]
        simp only [e1, Bool.or_true, Bool.true_and]
        simp [List.count_cons, hw]
      | succ g =>
        have := ih (k + 1) g (by simpa using hg)
        have e0 : g + 1 + k = g + (k + 1) := by omega
        rw [e0, this]
        have e1 : (decide (((k : Nat) : Int) = ((g + (k + 1) : Nat) : Int))) = false := decide_eq_false (by omega)
        have hl := List.count_le_length (a := Wd.out) (l := xs)
        have hlt : xs.count .out < xs.length := by
          rcases Nat.lt_or_ge (xs.count .out) xs.length with q | q
          · exact q
          · have e : xs.count .out = xs.length := Nat.le_antisymm hl q
            have := (List.count_eq_length.mp e) w (List.mem_of_getElem? (by simpa using hg))
            exact absurd this.symm hw
        simp only [e1, Bool.or_false]
        by_cases hx : x = .out
        · subst hx; simp
        · simp [hx, List.count_cons]; omega
  exact key ws 0 g hg
theorem alone_out {ws : List Wd} {g : Nat} (hg : ws[g]? = some Wd.out) : (enumT ws).all (fun p => decide (p.2 = Wd.out) || decide (p.1 = (g : Int))) = ws.all fun w => decide (w = Wd.out) := by
  rw [Bool.eq_iff_iff, List.all_eq_true, List.all_eq_true]
  constructor
  · intro h w hw
    obtain ⟨k, hk, e⟩ := List.mem_iff_getElem.mp hw
    have := h ((k : Int), w) (mem_enumT.mpr ⟨k, rfl, by rw [List.getElem?_eq_getElem hk, e]⟩)
    rcases Bool.or_eq_true_iff.mp this with q | q
    · exact q
    · have q : (k : Int) = g := of_decide_eq_true q
      have : k = g := by omega
      subst this
      rw [List.getElem?_eq_getElem hk, e] at hg
      exact decide_eq_true (Option.some.inj hg)
  · intro h p hp
    obtain ⟨k, h1, h2⟩ := mem_enumT.mp hp
    have := h p.2 (List.mem_of_getElem? h2)
    rw [this]; rfl
structure DdOk (n : Nat) (d : Deed) : Prop where
  gs : d.isTick = false → 0 ≤ d.guest ∧ d.guest < n
  wd : match d with
    | .ask w _ l => (w = Wd.read ∨ w = Wd.write) ∧ (l = none ∨ ∃ k : Int, l = some k ∧ 0 ≤ k ∧ k ≤ 9)
    | .mov w _ => w = Wd.up ∨ w = Wd.down ∨ w = Wd.leave ∨ w = Wd.stop
    | .tick => True
/-- whether a guest stands in the waits -/
def stays (m : TRoom) (g : Int) : Bool := decide (g ∈ m.2.map (fun e : TEn => e.1))
def canT (m : TRoom) : Deed → Bool
  | .tick => true
  | .ask _ g _ => decide (atZ m.1 g = Wd.out) && !stays m g
  | .mov w g => if w = Wd.up then decide (atZ m.1 g = Wd.reads) else if w = Wd.down then decide (atZ m.1 g ∈ [Wd.writes, Wd.raised]) else if w = Wd.leave then !decide (atZ m.1 g = Wd.out) else stays m g || decide (atZ m.1 g = Wd.rising)
/-! what is done -/
def leftT (l : Option Int) : Option Int := if l = some 0 then some 1 else l
def tickE (e : TEn) : TEn := (e.1, e.2.1, e.2.2.1, e.2.2.2.map (· - 1))
def markE (e : TEn) : TEn := if e.2.1 = Wd.read then (e.1, e.2.1, 1, e.2.2.2) else e
def markT (r : TRule) (here : Wd) (es : List TEn) : List TEn := if r.1 = Wd.turns ∧ here = Wd.writes then es.map markE else es
def thereT (w here : Wd) : Wd := if w = Wd.up then .rising else if w = Wd.down then .reads else if w = Wd.leave then .out else if here = Wd.rising then .reads else .out
def firstT (w : Wd) (g : Int) : List (Wd × Int) := if w = Wd.up then [] else [(if w = Wd.stop then Wd.ends else if w = Wd.down then Wd.down else Wd.out, g)]
def offT (g : Int) (es : List TEn) : List TEn := es.filter fun e => !decide (e.1 = g)
theorem RmOk.sub {n : Nat} {ws : List Wd} {es : List TEn} (R : RmOk n (ws, es)) (p : TEn → Bool) : RmOk n (ws, es.filter p) :=
  ⟨R.len, R.pl, fun e he => R.gs e (List.mem_filter.mp he).1, fun e he => R.out e (List.mem_filter.mp he).1, fun e he => R.rw e (List.mem_filter.mp he).1, List.Nodup.sublist (List.Sublist.map _ List.filter_sublist) R.nd⟩
theorem RmOk.mapE {n : Nat} {ws : List Wd} {es : List TEn} (R : RmOk n (ws, es)) (f : TEn → TEn) (hf : ∀ e, (f e).1 = e.1 ∧ (f e).2.1 = e.2.1) : RmOk n (ws, es.map f) := by
  have back : ∀ e ∈ es.map f, ∃ e' ∈ es, e'.1 = e.1 ∧ e'.2.1 = e.2.1 := fun e he => by
    obtain ⟨e', h1, rfl⟩ := List.mem_map.mp he
    exact ⟨e', h1, (hf e').1.symm, (hf e').2.symm⟩
  refine ⟨R.len, R.pl, fun e he => ?_, fun e he => ?_, fun e he => ?_, ?_⟩
  · obtain ⟨e', h1, h2, _⟩ := back e he; rw [← h2]; exact R.gs e' h1
  · obtain ⟨e', h1, h2, _⟩ := back e he; rw [← h2]; exact R.out e' h1
  · obtain ⟨e', h1, _, h3⟩ := back e he; rw [← h3]; exact R.rw e' h1
  · show ((es.map f).map (·.1)).Nodup
    have : (es.map f).map (fun e : TEn => e.1) = es.map (fun e : TEn => e.1) := by
      rw [List.map_map]; exact List.map_congr_left fun e _ => (hf e).1
    rw [this]; exact R.nd
theorem RmOk.put {n : Nat} {ws : List Wd} {es : List TEn} (R : RmOk n (ws, es)) {g : Int} (h0 : 0 ≤ g) {w : Wd} (hw : w ∈ PlW) : RmOk n (ws.set g.toNat w, offT g es) := by
  have R' := R.sub fun e => !decide (e.1 = g)
  refine ⟨by rw [List.length_set]; exact R.len, fun x hx => ?_, R'.gs, fun e he => ?_, R'.rw, R'.nd⟩
  · rcases List.mem_or_eq_of_mem_set hx with q | q
    · exact R.pl x q
    · rw [q]; exact hw
  · have h1 := List.mem_filter.mp he
    have h2 : e.1 ≠ g := by simpa using h1.2
    have h3 := (R.gs e h1.1).1
    rw [List.getElem?_set_ne (by omega)]
    exact R.out e h1.1
theorem RmOk.ask {n : Nat} {m : TRoom} (R : RmOk n m) {g : Int} (h0 : 0 ≤ g) (h1 : g < n) (ho : atZ m.1 g = Wd.out) (hs : stays m g = false) {w : Wd} (hw : w = Wd.read ∨ w = Wd.write) (mk : Int) (l : Option Int) : RmOk n (m.1, m.2 ++ [(g, w, mk, l)]) := by
  have len := R.len
  refine ⟨R.len, R.pl, fun e he => ?_, fun e he => ?_, fun e he => ?_, ?_⟩
  · rcases List.mem_append.mp he with h | h
    · exact R.gs e h
    · rw [List.mem_singleton.mp h]; exact ⟨h0, h1⟩
  · rcases List.mem_append.mp he with h | h
    · exact R.out e h
    · rw [List.mem_singleton.mp h]
      have := at_atZ (l := m.1) h0 (by omega)
      rw [ho] at this; exact this
  · rcases List.mem_append.mp he with h | h
    · exact R.rw e h
    · rw [List.mem_singleton.mp h]; exact hw
  · show ((m.2 ++ [(g, w, mk, l)]).map (fun e : TEn => e.1)).Nodup
    rw [List.map_append, List.nodup_append]
    refine ⟨R.nd, by simp, fun a ha b hb => ?_⟩
    have : b = g := by simpa using hb
    subst this
    intro z
    subst z
    exact absurd ha (of_decide_eq_false hs)
theorem there_pl (w here : Wd) : thereT w here ∈ PlW := by unfold thereT; (repeat' split) <;> decide
theorem mark_same (e : TEn) : (markE e).1 = e.1 ∧ (markE e).2.1 = e.2.1 := by unfold markE; split <;> exact ⟨rfl, rfl⟩
theorem markT_ok {n : Nat} {ws : List Wd} {es : List TEn} (R : RmOk n (ws, es)) (r : TRule) (here : Wd) : RmOk n (ws, markT r here es) := by
  unfold markT
  split
  · exact R.mapE _ mark_same
  · exact R
/-! ### how deep things are -/
class FitE {α : Type} (e : α → D) where
  n : Nat
  f : ∀ a, fit n (e a) = true
section
variable {α β γ δ : Type}
instance : FitE D.int := ⟨1, fun _ => rfl⟩
instance : FitE D.bl := ⟨1, fun _ => rfl⟩
instance : FitE eW := ⟨1, fun w => w.ok⟩
instance {e : α → D} [i : FitE e] : FitE (eO e) := ⟨i.n + 1, fun a => by
  cases a with
  | none => rfl
  | some a => exact fit_le (Nat.le_succ _) (i.f a)⟩
theorem fit_list {e : α → D} [i : FitE e] (l : List α) : (l.map e).all (fit i.n) = true := List.all_eq_true.mpr fun d hd => by
  obtain ⟨a, _, rfl⟩ := List.mem_map.mp hd
  exact i.f a
instance {e : α → D} [i : FitE e] : FitE (eS e) := ⟨i.n + 1, fun l => fit_list l⟩
instance {e : α → D} [i : FitE e] : FitE (eL e) := ⟨i.n + 1, fun l => fit_list l⟩
instance {a : α → D} [i : FitE a] : FitE (eT1 a) := ⟨i.n + 1, fun p => fit_tup.mpr fun d hd => by
  rw [List.mem_singleton.mp hd]; exact i.f p⟩
instance {a : α → D} {b : β → D} [i : FitE a] [j : FitE b] : FitE (eT2 a b) := ⟨max i.n j.n + 1, fun p => fit_tup.mpr fun d hd => by
  simp only [List.mem_cons, List.not_mem_nil, or_false] at hd
  rcases hd with rfl | rfl
  · exact fit_le (Nat.le_max_left _ _) (i.f _)
  · exact fit_le (Nat.le_max_right _ _) (j.f _)⟩
instance {a : α → D} {b : β → D} {c : γ → D} [i : FitE a] [j : FitE b] [k : FitE c] : FitE (eT3 a b c) := ⟨max i.n (max j.n k.n) + 1, fun p => fit_tup.mpr fun d hd => by
  simp only [List.mem_cons, List.not_mem_nil, or_false] at hd
  rcases hd with rfl | rfl | rfl
  · exact fit_le (by omega) (i.f _)
  · exact fit_le (by omega) (j.f _)
  · exact fit_le (by omega) (k.f _)⟩
instance {a : α → D} {b : β → D} {c : γ → D} {d : δ → D} [i : FitE a] [j : FitE b] [k : FitE c] [l : FitE d] : FitE (eT4 a b c d) := ⟨max i.n (max j.n (max k.n l.n)) + 1, fun p => fit_tup.mpr fun d hd => by
  simp only [List.mem_cons, List.not_mem_nil, or_false] at hd
  rcases hd with rfl | rfl | rfl | rfl
  · exact fit_le (by omega) (i.f _)
  · exact fit_le (by omega) (j.f _)
  · exact fit_le (by omega) (k.f _)
  · exact fit_le (by omega) (l.f _)⟩
instance : FitE eDd := ⟨3, fun d => by
  cases d with
  | ask w g l =>
    refine fit_tup.mpr fun d hd => ?_
    simp only [List.mem_cons, List.not_mem_nil, or_false] at hd
    rcases hd with rfl | rfl | rfl
    · exact w.ok
    · rfl
    · cases l <;> rfl
  | mov w g =>
    refine fit_tup.mpr fun d hd => ?_
    simp only [List.mem_cons, List.not_mem_nil, or_false] at hd
    rcases hd with rfl | rfl
    · exact w.ok
    · rfl
  | tick =>
    refine fit_tup.mpr fun d hd => ?_
    simp only [List.mem_cons, List.not_mem_nil, or_false] at hd
    rw [hd]
    exact Wd.ok _⟩
end
end MR

/-! Q11: a thing of our own that is only read: handed to a def, cut, walked by a comprehension. -/
namespace MR
open PySem PySem.Spec PyProof.Rows L2
section
variable {α β γ : Type} {F : Fr} {s s1 s2 s3 : SEnv} {d d2 : D}
theorem set_same {h : Hh} {p : Nat} {o : O} (hp : h[p]? = some o) : h.set p o = h := by
  apply List.ext_getElem?
  intro j
  by_cases hj : p = j
  · subst hj
    rw [List.getElem?_set_self (List.getElem?_eq_some_iff.mp hp).1, hp]
  · rw [List.getElem?_set_ne hj]
theorem q_callP {i : Nat} {G : MF} {ms : MA} {ds : List D} {o o0 : O} (h0 : Hs s i o0) (hB : QA F s ms ds s1) (hx : Hs s1 i o) (ho : ∀ h p, h[p]? = some o → G (.ref p :: ds) h = .ok d h) : QX F s (eCall G (aCons (eSlot i) ms)) d s1 := fun env h S => by
  obtain ⟨p0, e0, _⟩ := S.cell i o0 h0
  obtain ⟨h1, e1, S1⟩ := hB env h S
  obtain ⟨p, e2, e3⟩ := S1.cell i _ hx
  rw [e0] at e2
  cases e2
  refine ⟨h1, ?_, S1⟩
  unfold eCall aCons eSlot
  rw [e0]
  show (((ms env h).bind fun xs h2 => Res.ok (D.ref p0 :: xs) h2).bind fun ds h1 => G ds h1) = _
  rw [e1, bind_ok, bind_ok, ho h1 p0 e3]
/-- a def that only looks at a list of the caller's -/
def ZQ {R : Type} (F : Fr) (eR : R → D) (p : Nat) (o : O) : R → D → Hh → Prop := fun r d h => frzD F.h0.length h d = some (eR r) ∧ Agree F h ∧ h[p]? = some o
theorem qs_retQ {S L R X : Type} {EX : X → Exn → Prop} {EL : L → SEnv} {E : S → SEnv} {eR : R → D} [NR eR] {A : ME} {v : R} {p i : Nat} {o : O} (hA : QX F s A (eR v) s1) (hi : s1[i]? = some (some (Sl.bor p o))) : QS (⟨F, ZQ F eR p o, EX, EL⟩ : Kf L R X) s (sRet A) E (.rt v) := fun env h Sx => by
  obtain ⟨h1, e1, S1⟩ := hA env h Sx
  unfold sRet
  rw [e1]
  refine ⟨frz_e _ _ _, S1.agree, ?_⟩
  obtain ⟨q, a, b⟩ := S1.cell i o (.inr ⟨p, hi⟩)
  have := (S1.bor i p _ hi).1
  rw [a] at this
  cases this
  exact b
theorem fn_peek {R : Type} {eR : R → D} [NR eR] [Inhabited R] {n : Nat} {N : List Str} {b : MS} {ds : List D} {h : Hh} {p : Nat} {o : O} {c : Ctl Empty Empty R Empty} (hp : h[p]? = some o) (hq : QS (⟨⟨h, [p]⟩, ZQ ⟨h, [p]⟩ eR p o, fun x _ => x.elim, fun l => l.elim⟩ : Kf Empty R Empty) (begB N p o ds) b (fun x => x.elim) c) (hn : ds.length + 1 = n := by rfl) (hN : ds.length + 1 ≤ N.length := by decide) :
    frzF (runF n N b) (.ref p :: ds) h = .ok (eR c.get) h := by
  have o' := hq (startD N (.ref p :: ds)) h (begB_sat hN rfl (by simp) hp)
  cases c with
  | nx x => exact x.elim
  | bk x => exact x.elim
  | ct x => exact x.elim
  | er x => exact x.elim
  | rt r =>
    cases e : b (startD N (.ref p :: ds)) h with
    | rt d h' =>
      rw [e] at o'
      obtain ⟨o0, ⟨o1, o2⟩, o3⟩ := o'
      have e0 := prefix_of o1 fun j hj => by
        by_cases hjp : j = p
        · subst hjp; rw [o3, hp]
        · exact o2 j hj (by simpa using hjp)
      have e1 : runF n N b (.ref p :: ds) h = .ok d (h ++ h'.drop h.length) := by
        rw [run_eq (ds := .ref p :: ds) hn, e, ev_out_rt, ← e0]
      refine frzF_of e1 ?_
      rw [← e0]
      exact o0
    | nx d h' => rw [e] at o'; exact o'.elim
    | bk d h' => rw [e] at o'; exact o'.elim
    | ct d h' => rw [e] at o'; exact o'.elim
    | er x d h' => rw [e] at o'; exact o'.elim
    | stuck => rw [e] at o'; exact o'.elim
theorem q_sliceO {i : Nat} {o0 o : O} {lo hi : MO} {k l : Option Int} (h0 : Hs s i o0) (hl : QO F s lo k s2) (hh : QO F s2 hi l s3) (hx : Hs s3 i o) (ho : ∀ h p, h[p]? = some o → sliceO (.ref p) k l h = some d2) : QX F s (eSlice (eSlot i) lo hi) d2 s3 := fun env h S => by
  obtain ⟨p0, e0, _⟩ := S.cell i o0 h0
  obtain ⟨h2, e2, S2⟩ := hl env h S
  obtain ⟨h3, e3, S3⟩ := hh env h2 S2
  obtain ⟨p, e4, e5⟩ := S3.cell i o hx
  rw [e0] at e4
  cases e4
  refine ⟨h3, ?_, S3⟩
  unfold eSlice eSlot
  rw [e0]
  show ((lo env h).bind fun k h2 => (hi env h2).bind fun l h3 => lift (sliceO (.ref p0) k l h3) h3) = _
  rw [e2, bind_ok, e3, bind_ok, ho h3 p0 e5]
  rfl
theorem o_slO (e : α → D) (l : List α) (lo hi : Option Int) (h : Hh) (p : Nat) (hp : h[p]? = some (oL e l)) : sliceO (.ref p) lo hi h = some (eL e (cutG l lo hi)) := by
  show (seqL (.ref p) h).map (fun ds => D.lst (cutG ds lo hi)) = _
  have : seqL (.ref p) h = some (l.map e) := by
    show (match h[p]? with | some (O.lst ds) => some ds | _ => none) = _
    rw [hp]; rfl
  rw [this]
  show some (D.lst (cutG (l.map e) lo hi)) = _
  rw [cut_map]; rfl
theorem ql_mapO {i : Nat} {es : List D} {mi : MI} {T : Tg} {vs : List Nat} {el : ME} {xs : List β} {e : β → D} {e2 : γ → D} {f : β → γ} (hi : QIo F s mi i (xs.map e) es) (hx : Hs s i (.lst es)) (hT : ∀ i ∈ T.slots, i ∈ vs) (hv : noC s vs = true) (hb : ∀ x ∈ xs, Bd T (e x))
    (he : ∀ x ∈ xs, QX F (bS T (e x) (wipeS s vs)) el (e2 (f x)) (bS T (e x) (wipeS s vs))) : QL F s (aComp mi T (fun _ h => .ok true h) el vs) e2 (xs.map f) s := by
  have := ql_compO (p := fun _ => true) (e2 := e2) (f := f) (t := fun _ h => .ok true h) hi hx hT hv hb (fun x _ env h S => ⟨h, rfl, S⟩) (fun x m _ => he x m)
  rw [filter_tt] at this
  exact this
end
end MR

/-! Q12: what is never come to; a def taken from a dict by a word; kinds of deeds. -/
namespace MR
open PySem PySem.Spec PyProof.Rows L2
section
variable {S L R X α : Type} {k : Kf L R X} {s s1 s2 : SEnv} {E : S → SEnv} {c : Ctl S L R X} {m : MS}
theorem qs_dead (h : False) : QS k s m E c := h.elim
/-- the def that stands at a word, and what it gives -/
def FR {R : Type} (eR : R → D) (tbl : List (Str × MF)) (ds : List D) (w : Wd) (v : R) : Prop := ∃ q, tbl.find? (fun p => decide (p.1 = w.val)) = some q ∧ ∀ h, q.2 ds h = .ok (eR v) h
theorem fr_nil {eR : R → D} {ds : List D} {w : Wd} {v : R} (h : False) : FR eR [] ds w v := h.elim
theorem fr_cons {eR : R → D} {z : Str} {G : MF} {tbl : List (Str × MF)} {ds : List D} {w : Wd} {v1 v2 : R} (wd : Wd) (hz : z = wd.val) (h1 : w = wd → ∀ h, G ds h = .ok (eR v1) h) (h2 : decide (w = wd) = false → FR eR tbl ds w v2) : FR eR ((z, G) :: tbl) ds w (if decide (w = wd) = true then v1 else v2) := by
  by_cases hw : w = wd
  · rw [if_pos (decide_eq_true hw)]
    refine ⟨(z, G), ?_, h1 hw⟩
    rw [List.find?_cons, hw, hz]
    simp
  · rw [if_neg (by simpa using hw)]
    obtain ⟨q, h3, h4⟩ := h2 (decide_eq_false hw)
    refine ⟨q, ?_, h4⟩
    rw [List.find?_cons]
    have : ¬ z = w.val := fun e => hw (Wd.val_inj (e.symm.trans hz))
    simp only [this, decide_false]
    exact h3
theorem qs_fnret {F : Fr} {EX : X → Exn → Prop} {EL : L → SEnv} {eR : R → D} [NR eR] {i : Nat} {tbl : List (Str × MF)} {mk : ME} {ms : MA} {w : Wd} {ds : List D} {v : R} (hi : i < s.length) (hk : QX F s mk (eW w) s1) (ha : QA F s1 ms ds s2) (hf : FR eR tbl ds w v) : QS (⟨F, ZF F eR, EX, EL⟩ : Kf L R X) s (sFnRet i tbl mk ms) E (.rt v) := fun env h Sx => by
  obtain ⟨h1, e1, S1⟩ := hk env h Sx
  obtain ⟨h2, e2, S2⟩ := ha env h1 S1
  obtain ⟨q, f1, f2⟩ := hf
  unfold sFnRet
  rw [if_pos (by rw [Sx.len]; exact hi), e1]
  show OutOk _ _ (match tbl.find? (fun p => decide (p.1 = w.val)) with
    | some q => (match eCall q.2 ms env h1 with
      | .ok d h2 => RS.rt d h2
      | _ => .stuck)
    | none => .stuck) _
  rw [f1]
  have : eCall q.2 ms env h1 = .ok (eR v) h2 := by
    unfold eCall
    rw [e2, bind_ok, f2]
  simp only
  rw [this]
  exact ⟨frz_e _ _ _, S2.agree⟩
theorem o_isiDT (d : Deed) (h : Hh) : isiO [eDd d, .glb (.ty "tuple")] h = some (.bl true) := by
  have : ∃ xs, eDd d = .tup xs := by cases d <;> exact ⟨_, rfl⟩
  obtain ⟨xs, e⟩ := this
  rw [e, ev_isi, ev_tyT]; show (kitB "tuple" "tuple").map D.bl = _; rw [kit_tuple.2.2.1]; rfl
theorem o_isiWS (w : Wd) (h : Hh) : isiO [eW w, .glb (.ty "str")] h = some (.bl true) := by
  show isiO [.str w.val, .glb (.ty "str")] h = _
  rw [ev_isi, ev_tyS]; show (kitB "str" "str").map D.bl = _; rw [kit_str.2.2.2.1]; rfl
theorem o_isiII (i : Int) (h : Hh) : isiO [.int i, .glb (.ty "int")] h = some (.bl true) := by
  rw [ev_isi, ev_tyI]; show (kitB "int" "int").map D.bl = _; rw [kit_int.2.2.2.2.2]; rfl
theorem o_isiIB (i : Int) (h : Hh) : isiO [.int i, .glb (.ty "bool")] h = some (.bl false) := by
  rw [ev_isi, ev_tyI]; show (kitB "int" "bool").map D.bl = _; rw [kit_int.2.2.2.2.1]; rfl
end
end MR

/-! Q13: own objects: the thing itself and what it holds stand at places of their own. -/
namespace MR
open PySem PySem.Spec PyProof.Rows L2
section
variable {F : Fr} {s s' s0 s1 s2 s3 : SEnv} {env env' : DEnv} {h h' : Hh} {i j p q : Nat} {o o' : O} {d d2 d3 : D} {A B : ME} {ms : MA} {ds : List D}
/-- a place that is in use -/
def Ud (s : SEnv) (env : DEnv) (p : Nat) : Prop := (∃ (i : Nat) (o : O), Hs s i o ∧ env[i]? = some (some (D.ref p))) ∨ ∃ (i : Nat) (o : O), s[i]? = some (some (Sl.hid p o))
theorem Sat.ud_lt (S : Sat F s env h) (u : Ud s env p) : p < h.length := by
  rcases u with ⟨i, o, x, e⟩ | ⟨i, o, x⟩
  · obtain ⟨r, e1, e2⟩ := S.cell i o x
    rw [e] at e1
    cases e1
    exact (List.getElem?_eq_some_iff.mp e2).1
  · exact (List.getElem?_eq_some_iff.mp (S.hid i p o x)).1
theorem Sat.grow (S : Sat F s env h) (hl : h.length ≤ h'.length) (hk : ∀ j, j < h.length → h'[j]? = h[j]?) : Sat F s env h' := by
  have e : h' = h ++ h'.drop h.length := prefix_of hl hk
  rw [e]
  exact S.app _
/-- a further place is told -/
theorem Sat.addH (S : Sat F s env h) (j q : Nat) (o : O) (hq : h[q]? = some o) (nu : ¬ Ud s env q) : Sat F (s.set j (some (.hid q o))) env h := by
  have hs : ∀ {i a}, Hs (s.set j (some (.hid q o))) i a → Hs s i a := fun {i a} x => by
    rcases x with x | ⟨r, x⟩
    · by_cases n : j = i
      · subst n; have := (set_get x).1; cases this
      · rw [List.getElem?_set_ne n] at x; exact .inl x
    · by_cases n : j = i
      · subst n; have := (set_get x).1; cases this
      · rw [List.getElem?_set_ne n] at x; exact .inr ⟨r, x⟩
  have hh : ∀ {i r a}, (s.set j (some (.hid q o)))[i]? = some (some (Sl.hid r a)) → (i = j ∧ r = q ∧ a = o) ∨ (i ≠ j ∧ s[i]? = some (some (Sl.hid r a))) := fun {i r a} x => by
    by_cases n : j = i
    · subst n; have := (set_get x).1; cases this; exact .inl ⟨rfl, rfl, rfl⟩
    · rw [List.getElem?_set_ne n] at x; exact .inr ⟨fun e => n e.symm, x⟩
  exact {
    len := by rw [S.len, List.length_set]
    le := S.le
    keep := S.keep
    val := fun i d e => by
      by_cases n : j = i
      · subst n; have := (set_get e).1; cases this
      · rw [List.getElem?_set_ne n] at e; exact S.val i d e
    cell := fun i a x => S.cell i a (hs x)
    own := fun i a r x e => by
      by_cases n : j = i
      · subst n; have := (set_get x).1; cases this
      · rw [List.getElem?_set_ne n] at x; exact S.own i a r x e
    bor := fun i r a x => by
      by_cases n : j = i
      · subst n; have := (set_get x).1; cases this
      · rw [List.getElem?_set_ne n] at x; exact S.bor i r a x
    sep := fun i k a b r n x y e1 e2 => S.sep i k a b r n (hs x) (hs y) e1 e2
    hid := fun i r a x => by
      rcases hh x with ⟨_, rfl, rfl⟩ | ⟨_, y⟩
      · exact hq
      · exact S.hid i r a y
    hsep := fun i k r a b n x y => by
      rcases hh x with ⟨ei, e, _⟩ | ⟨ni, x'⟩
      · rcases hh y with ⟨ek, _, _⟩ | ⟨_, y'⟩
        · exact n (ei.trans ek.symm)
        · subst e; exact nu (.inr ⟨k, b, y'⟩)
      · rcases hh y with ⟨_, e, _⟩ | ⟨_, y'⟩
        · subst e; exact nu (.inr ⟨i, a, x'⟩)
        · exact S.hsep i k r a b n x' y'
    hcs := fun i k r a b x e y => by
      rcases hh y with ⟨_, e2, _⟩ | ⟨_, y'⟩
      · subst e2; exact nu (.inl ⟨i, a, hs x, e⟩)
      · exact S.hcs i k r a b (hs x) e y' }
theorem ud_addH {j q r : Nat} {o : O} (u : Ud (s.set j (some (.hid q o))) env r) : Ud s env r ∨ r = q := by
  rcases u with ⟨i, a, x, e⟩ | ⟨i, a, x⟩
  · left; left
    refine ⟨i, a, ?_, e⟩
    by_cases n : j = i
    · subst n
      rcases x with x | ⟨t, x⟩ <;> (have := (set_get x).1; cases this)
    · exact hs_set_v x n
  · by_cases n : j = i
    · subst n; have := (set_get x).1; cases this; exact .inr rfl
    · rw [List.getElem?_set_ne n] at x; exact .inl (.inr ⟨i, a, x⟩)
theorem ud_setV {i r : Nat} {d : D} (u : Ud (s.set i (some (.v d))) (env.set i (some d)) r) : Ud s env r := by
  rcases u with ⟨k, a, x, e⟩ | ⟨k, a, x⟩
  · have n := hs_set_plain (.inr ⟨d, rfl⟩) x
    rw [List.getElem?_set_ne n] at e
    exact .inl ⟨k, a, hs_set_v x n, e⟩
  · exact .inr ⟨k, a, (hid_set (fun _ _ z => by cases z) x).2⟩
/-- what stands at a place is changed -/
theorem Sat.changeH (S : Sat F s env h) (x : s[j]? = some (some (Sl.hid q o))) (hB : F.h0.length ≤ q ∨ q ∈ F.B) (o' : O) : Sat F (s.set j (some (.hid q o'))) env (h.set q o') := by
  have hq : q < h.length := (List.getElem?_eq_some_iff.mp (S.hid j q o x)).1
  have hs : ∀ {i a}, Hs (s.set j (some (.hid q o'))) i a → Hs s i a := fun {i a} y => by
    by_cases n : j = i
    · subst n
      rcases y with y | ⟨t, y⟩ <;> (have := (set_get y).1; cases this)
    · exact hs_set_v y n
  have hh : ∀ {i r a}, (s.set j (some (.hid q o')))[i]? = some (some (Sl.hid r a)) → (i = j ∧ r = q ∧ a = o') ∨ (i ≠ j ∧ s[i]? = some (some (Sl.hid r a))) := fun {i r a} y => by
    by_cases n : j = i
    · subst n; have := (set_get y).1; cases this; exact .inl ⟨rfl, rfl, rfl⟩
    · rw [List.getElem?_set_ne n] at y; exact .inr ⟨fun e => n e.symm, y⟩
  have pl : ∀ {i : Nat} {c : Sl}, (∀ r a, c ≠ .hid r a) → (s.set j (some (.hid q o')))[i]? = some (some c) → s[i]? = some (some c) := fun {i c} nc y => by
    by_cases n : j = i
    · subst n; have := (set_get y).1; cases this; exact absurd rfl (nc _ _)
    · rw [List.getElem?_set_ne n] at y; exact y
  exact {
    len := by rw [S.len, List.length_set]
    le := by rw [List.length_set]; exact S.le
    keep := fun k a b => by
      rw [List.getElem?_set_ne (fun e => by subst e; rcases hB with z | z; omega; exact b z)]
      exact S.keep k a b
    val := fun i d e => S.val i d (pl (fun _ _ z => by cases z) e)
    cell := fun i a y => by
      obtain ⟨r, e1, e2⟩ := S.cell i a (hs y)
      refine ⟨r, e1, ?_⟩
      rw [List.getElem?_set_ne (fun e => by subst e; exact S.hcs i j q a o (hs y) e1 x)]
      exact e2
    own := fun i a r y e => S.own i a r (pl (fun _ _ z => by cases z) y) e
    bor := fun i r a y => S.bor i r a (pl (fun _ _ z => by cases z) y)
    sep := fun i k a b r n y z e1 e2 => S.sep i k a b r n (hs y) (hs z) e1 e2
    hid := fun i r a y => by
      rcases hh y with ⟨_, rfl, rfl⟩ | ⟨n, y'⟩
      · exact List.getElem?_set_self hq
      · rw [List.getElem?_set_ne (fun e => by subst e; exact S.hsep i j q a o n y' x)]
        exact S.hid i r a y'
    hsep := fun i k r a b n y z => by
      rcases hh y with ⟨ei, e, _⟩ | ⟨ni, y'⟩
      · rcases hh z with ⟨ek, _, _⟩ | ⟨nk, z'⟩
        · exact n (ei.trans ek.symm)
        · subst e; exact S.hsep k j r b o nk z' x
      · rcases hh z with ⟨_, e, _⟩ | ⟨_, z'⟩
        · subst e; exact S.hsep i j r a o ni y' x
        · exact S.hsep i k r a b n y' z'
    hcs := fun i k r a b y e z => by
      rcases hh z with ⟨_, e2, _⟩ | ⟨_, z'⟩
      · subst e2; exact S.hcs i j r a o (hs y) e x
      · exact S.hcs i k r a b (hs y) e z' }

/-! ### several places at once: (slot, place, what stands there) -/
def layH (xs : List (Nat × Nat × O)) (s : SEnv) : SEnv := xs.foldl (fun s x => s.set x.1 (some (.hid x.2.1 x.2.2))) s
def setH (cs : List (Nat × O)) (h : Hh) : Hh := cs.foldl (fun h x => h.set x.1 x.2) h
def CellsAt (h : Hh) (cs : List (Nat × O)) : Prop := (cs.map (·.1)).Nodup ∧ ∀ c ∈ cs, h[c.1]? = some c.2
/-- these slots tell these places -/
inductive Hid (s : SEnv) : List (Nat × Nat × O) → Prop where
  | nil : Hid s []
  | cons {j q : Nat} {o : O} {xs : List (Nat × Nat × O)} : s[j]? = some (some (Sl.hid q o)) → Hid s xs → Hid s ((j, q, o) :: xs)
theorem Hid.all : ∀ {xs : List (Nat × Nat × O)}, Hid s xs → ∀ x ∈ xs, s[x.1]? = some (some (Sl.hid x.2.1 x.2.2))
  | _, .nil, _, m => nomatch m
  | _, .cons e t, x, m => by
    rcases List.mem_cons.mp m with rfl | m
    · exact e
    · exact t.all x m
theorem Sat.cells (S : Sat F s env h) : ∀ {xs : List (Nat × Nat × O)}, Hid s xs → (xs.map (·.1)).Nodup → CellsAt h (xs.map (·.2))
  | _, .nil, _ => ⟨List.nodup_nil, fun _ m => nomatch m⟩
  | _, .cons (j := j) (q := q) (o := o) (xs := xs) e t, n => by
    rw [List.map_cons, List.nodup_cons] at n
    obtain ⟨a, b⟩ := S.cells t n.2
    refine ⟨?_, fun c m => ?_⟩
    · rw [List.map_cons, List.map_cons, List.nodup_cons]
      refine ⟨fun m => ?_, a⟩
      rw [List.map_map] at m
      obtain ⟨x, mx, ex⟩ := List.mem_map.mp m
      have ex : x.2.1 = q := ex
      have := t.all x mx
      rw [ex] at this
      exact S.hsep j x.1 q o x.2.2 (fun z => n.1 (by subst z; exact List.mem_map.mpr ⟨x, mx, rfl⟩)) e this
    · rcases List.mem_cons.mp m with rfl | m
      · exact S.hid j q o e
      · exact b c m
/-- the same places hold something else -/
inductive Chg (s : SEnv) (F : Fr) : List (Nat × Nat × O) → Prop where
  | nil : Chg s F []
  | cons {j q : Nat} {o o' : O} {xs : List (Nat × Nat × O)} : s[j]? = some (some (Sl.hid q o)) → (F.h0.length ≤ q ∨ q ∈ F.B) → Chg s F xs → Chg s F ((j, q, o') :: xs)
theorem Chg.set {xs : List (Nat × Nat × O)} {j q : Nat} {o : O} (c : Chg s F xs) (n : j ∉ xs.map (·.1)) : Chg (s.set j (some (.hid q o))) F xs := by
  induction c with
  | nil => exact .nil
  | cons e b t ih =>
    rw [List.map_cons, List.mem_cons, not_or] at n
    exact .cons (by rw [List.getElem?_set_ne n.1]; exact e) b (ih n.2)
theorem Sat.changeHs : ∀ {xs : List (Nat × Nat × O)} {s : SEnv} {h : Hh}, Sat F s env h → Chg s F xs → (xs.map (·.1)).Nodup → Sat F (layH xs s) env (setH (xs.map (·.2)) h)
  | [], _, _, S, _, _ => S
  | (j, q, o') :: xs, s, h, S, .cons e b t, n => by
    rw [List.map_cons, List.nodup_cons] at n
    exact Sat.changeHs (xs := xs) (s := s.set j (some (.hid q o'))) (h := h.set q o') (S.changeH e b o') (t.set n.1) n.2
theorem Sat.addHs : ∀ {xs : List (Nat × Nat × O)} {s : SEnv}, Sat F s env h → (∀ x ∈ xs, h[x.2.1]? = some x.2.2) → (xs.map (·.2.1)).Nodup → (∀ x ∈ xs, ¬ Ud s env x.2.1) → Sat F (layH xs s) env h
  | [], _, S, _, _, _ => S
  | (j, q, o) :: xs, s, S, hx, n, nu => by
    rw [List.map_cons, List.nodup_cons] at n
    refine Sat.addHs (xs := xs) (s := s.set j (some (.hid q o))) (S.addH j q o (hx _ List.mem_cons_self) (nu _ List.mem_cons_self)) (fun x m => hx x (List.mem_cons_of_mem _ m)) n.2 fun x m u => ?_
    rcases ud_addH u with u | e
    · exact nu x (List.mem_cons_of_mem _ m) u
    · exact n.1 (by rw [← e]; exact List.mem_map.mpr ⟨x, m, rfl⟩)

/-! ### expressions -/
theorem q_fld {C f : Str} {fs : List (Str × D)} (hA : QX F s A (.ref q) s1) (hx : s1[j]? = some (some (Sl.hid q (.ins C fs)))) (e : fs.lookup f = some d) : QX F s (eFld C f A) d s1 := fun env h S => by
  obtain ⟨h1, e1, S1⟩ := hA env h S
  refine ⟨h1, ?_, S1⟩
  unfold eFld
  rw [e1, bind_ok]
  show lift (match h1[q]? with | some (O.ins y fs) => if y = C then fs.lookup f else none | _ => none) h1 = _
  rw [S1.hid j q _ hx]
  show lift (if C = C then fs.lookup f else none) h1 = _
  rw [if_pos rfl, e]; rfl
theorem q_opH1 {f : Op2} (hA : QX F s A (.ref q) s1) (hB : QX F s1 B d2 s2) (hx : s2[j]? = some (some (Sl.hid q o))) (ho : ∀ h p, h[p]? = some o → f (.ref p) d2 h = some d3) : QX F s (eOp2 f A B) d3 s2 := fun env h S => by
  obtain ⟨h1, e1, S1⟩ := hA env h S
  obtain ⟨h2, e2, S2⟩ := hB env h1 S1
  refine ⟨h2, ?_, S2⟩
  unfold eOp2
  rw [e1, bind_ok, e2, bind_ok, ho h2 q (S2.hid j q o hx)]; rfl
theorem q_opH2 {f : Op2} (hA : QX F s A d2 s1) (hB : QX F s1 B (.ref q) s2) (hx : s2[j]? = some (some (Sl.hid q o))) (ho : ∀ h p, h[p]? = some o → f d2 (.ref p) h = some d3) : QX F s (eOp2 f A B) d3 s2 := fun env h S => by
  obtain ⟨h1, e1, S1⟩ := hA env h S
  obtain ⟨h2, e2, S2⟩ := hB env h1 S1
  refine ⟨h2, ?_, S2⟩
  unfold eOp2
  rw [e1, bind_ok, e2, bind_ok, ho h2 q (S2.hid j q o hx)]; rfl
theorem q_opNH {f : OpN} (hA : QX F s A (.ref q) s1) (hx : s1[j]? = some (some (Sl.hid q o))) (ho : ∀ h p, h[p]? = some o → f [.ref p] h = some d) : QX F s (eOpN f (aCons A aNil)) d s1 := fun env h S => by
  obtain ⟨h1, e1, S1⟩ := hA env h S
  refine ⟨h1, ?_, S1⟩
  unfold eOpN aCons aNil
  rw [e1, bind_ok, bind_ok, bind_ok, ho h1 q (S1.hid j q o hx)]; rfl
theorem q_methH {ok : D → Hh → Bool} {f : OpM} {o0 : O} (hA : QX F s A (.ref q) s0) (hx0 : s0[j]? = some (some (Sl.hid q o0))) (hk : ∀ h p, h[p]? = some o0 → ok (.ref p) h = true) (hB : QA F s0 ms ds s1) (hx : s1[j]? = some (some (Sl.hid q o))) (hb : F.h0.length ≤ q ∨ q ∈ F.B)
    (ho : ∀ h p, h[p]? = some o → f (.ref p) ds h = some (d, h.set p o')) : QX F s (eMeth ok f A ms) d (s1.set j (some (.hid q o'))) := fun env h S => by
  obtain ⟨h0, e0, S0⟩ := hA env h S
  obtain ⟨h1, e1, S1⟩ := hB env h0 S0
  refine ⟨h1.set q o', ?_, S1.changeH hx hb o'⟩
  unfold eMeth
  rw [e0, bind_ok, if_pos (hk h0 q (S0.hid j q o0 hx0)), e1, bind_ok, ho h1 q (S1.hid j q o hx)]
  rfl
theorem isL_at {α : Type} {e : α → D} {l : List α} (h : Hh) (p : Nat) (hp : h[p]? = some (oL e l)) : isL (.ref p) h = true := by
  show (match h[p]? with | some (O.lst ds) => some ds | _ => none : Option (List D)).isSome = true
  rw [hp]; rfl
theorem ql_seqH {α : Type} {e : α → D} {l : List α} (hA : QX F s A (.ref q) s1) (hx : s1[j]? = some (some (Sl.hid q (oL e l)))) : QL F s (aSeq A) e l s1 := fun env h S => by
  obtain ⟨h1, e1, S1⟩ := hA env h S
  refine ⟨h1, ?_, S1⟩
  unfold aSeq
  rw [e1, bind_ok]
  show lift (seqL (.ref q) h1) h1 = _
  rw [ev_seqLR, S1.hid j q _ hx]; rfl
theorem q_sliceH {lo hi : MO} {k l : Option Int} (hA : QX F s A (.ref q) s1) (hl : QO F s1 lo k s2) (hh : QO F s2 hi l s3) (hx : s3[j]? = some (some (Sl.hid q o))) (ho : ∀ h p, h[p]? = some o → sliceO (.ref p) k l h = some d2) : QX F s (eSlice A lo hi) d2 s3 := fun env h S => by
  obtain ⟨h1, e1, S1⟩ := hA env h S
  obtain ⟨h2, e2, S2⟩ := hl env h1 S1
  obtain ⟨h3, e3, S3⟩ := hh env h2 S2
  exact ⟨h3, by unfold eSlice; rw [e1, bind_ok, e2, bind_ok, e3, bind_ok, ho h3 q (S3.hid j q o hx)]; rfl, S3⟩
/-- a call by which places change -/
theorem q_callH {G : MF} {xs ys : List (Nat × Nat × O)} (hB : QA F s ms ds s1) (hx : Hid s1 xs) (hn : (xs.map (·.1)).Nodup) (hy : Chg s1 F ys) (hm : (ys.map (·.1)).Nodup) (ho : ∀ h, CellsAt h (xs.map (·.2)) → G ds h = .ok d (setH (ys.map (·.2)) h)) : QX F s (eCall G ms) d (layH ys s1) := fun env h S => by
  obtain ⟨h1, e1, S1⟩ := hB env h S
  refine ⟨_, ?_, S1.changeHs hy hm⟩
  unfold eCall
  rw [e1, bind_ok, ho h1 (S1.cells hx hn)]
theorem q_callHp {G : MF} {xs : List (Nat × Nat × O)} (hB : QA F s ms ds s1) (hx : Hid s1 xs) (hn : (xs.map (·.1)).Nodup) (ho : ∀ h, CellsAt h (xs.map (·.2)) → G ds h = .ok d h) : QX F s (eCall G ms) d s1 := fun env h S => by
  obtain ⟨h1, e1, S1⟩ := hB env h S
  refine ⟨_, ?_, S1⟩
  unfold eCall
  rw [e1, bind_ok, ho h1 (S1.cells hx hn)]
theorem isIns_at {C m : Str} {fs : List (Str × D)} (hm : (fs.lookup m).isNone = true) (hp : h[p]? = some (.ins C fs)) : isIns C m (.ref p) h = true := by
  show (match h[p]? with | some (O.ins y fs) => decide (y = C) && (fs.lookup m).isNone | _ => false) = true
  rw [hp]
  show (decide (C = C) && (fs.lookup m).isNone) = true
  rw [hm]; simp
theorem q_mtd {C m : Str} {G : MF} {fs : List (Str × D)} {xs ys : List (Nat × Nat × O)} (hA : QX F s A (.ref p) s0) (hp : s0[j]? = some (some (Sl.hid p (.ins C fs)))) (hm : (fs.lookup m).isNone = true) (hB : QA F s0 ms ds s1) (hx : Hid s1 xs) (hn : (xs.map (·.1)).Nodup) (hy : Chg s1 F ys) (hm2 : (ys.map (·.1)).Nodup)
    (ho : ∀ h, CellsAt h (xs.map (·.2)) → G (.ref p :: ds) h = .ok d (setH (ys.map (·.2)) h)) : QX F s (eMtd C m G A ms) d (layH ys s1) := fun env h S => by
  obtain ⟨h0, e0, S0⟩ := hA env h S
  obtain ⟨h1, e1, S1⟩ := hB env h0 S0
  refine ⟨_, ?_, S1.changeHs hy hm2⟩
  unfold eMtd
  rw [e0, bind_ok, if_pos (isIns_at hm (S0.hid j p _ hp)), e1, bind_ok, ho h1 (S1.cells hx hn)]
theorem q_mtdP {C m : Str} {G : MF} {fs : List (Str × D)} {xs : List (Nat × Nat × O)} (hA : QX F s A (.ref p) s0) (hp : s0[j]? = some (some (Sl.hid p (.ins C fs)))) (hm : (fs.lookup m).isNone = true) (hB : QA F s0 ms ds s1) (hx : Hid s1 xs) (hn : (xs.map (·.1)).Nodup)
    (ho : ∀ h, CellsAt h (xs.map (·.2)) → G (.ref p :: ds) h = .ok d h) : QX F s (eMtd C m G A ms) d s1 := fun env h S => by
  obtain ⟨h0, e0, S0⟩ := hA env h S
  obtain ⟨h1, e1, S1⟩ := hB env h0 S0
  refine ⟨_, ?_, S1⟩
  unfold eMtd
  rw [e0, bind_ok, if_pos (isIns_at hm (S0.hid j p _ hp)), e1, bind_ok, ho h1 (S1.cells hx hn)]

/-! ### walks over what an object holds -/
def QIh (F : Fr) (s : SEnv) (m : MI) (q : Nat) (ds es : List D) (s' : SEnv) : Prop := ∀ env h, Sat F s env h → ∃ h', m env h = .ok ⟨ds, some (q, es)⟩ h' ∧ Sat F s' env h'
variable {α β γ : Type}
theorem qi_H {e : α → D} {l : List α} (hA : QX F s A (.ref q) s1) (hx : s1[j]? = some (some (Sl.hid q (oL e l)))) : QIh F s (iOf A) q (l.map e) (l.map e) s1 := fun env h S => by
  obtain ⟨h1, e1, S1⟩ := hA env h S
  refine ⟨h1, ?_, S1⟩
  unfold iOf
  rw [e1, bind_ok]
  show lift (srcOf (.ref q) h1) h1 = _
  rw [ev_srcR, S1.hid j q _ hx]
  rfl
theorem qi_enumH {e : α → D} {l : List α} (hA : QX F s A (.ref q) s1) (hx : s1[j]? = some (some (Sl.hid q (oL e l)))) : QIh F s (iA enm (aCons A aNil)) q ((enumT l).map (eW2 D.int e)) (l.map e) s1 := fun env h S => by
  obtain ⟨h1, e1, S1⟩ := hA env h S
  refine ⟨h1, ?_, S1⟩
  unfold iA aCons aNil
  rw [e1, bind_ok, bind_ok, bind_ok]
  show lift ((srcOf (.ref q) h1).map fun src => (⟨enumD src.items, src.live⟩ : Src)) h1 = _
  rw [ev_srcR, S1.hid j q _ hx]
  show Res.ok (⟨enumD (l.map e), some (q, l.map e)⟩ : Src) h1 = _
  rw [enum_map]
theorem gOk_hid {es : List D} (hx : s[j]? = some (some (Sl.hid q (.lst es)))) {env : DEnv} : ∀ h, Sat F s env h → gOk (some (q, es)) h := fun h S => gOk_cell (S.hid j q _ hx)
theorem ql_compH {es : List D} {mi : MI} {T : Tg} {vs : List Nat} {t : MT} {el : ME} {xs : List β} {e : β → D} {e2 : γ → D} {f : β → γ} {pr : β → Bool} (hi : QIh F s mi q (xs.map e) es s1) (hx : s1[j]? = some (some (Sl.hid q (.lst es)))) (hT : ∀ i ∈ T.slots, i ∈ vs) (hv : noC s1 vs = true) (hb : ∀ x ∈ xs, Bd T (e x))
    (ht : ∀ x ∈ xs, QT F (bS T (e x) (wipeS s1 vs)) t (pr x) (bS T (e x) (wipeS s1 vs))) (he : ∀ x ∈ xs, pr x = true → QX F (bS T (e x) (wipeS s1 vs)) el (e2 (f x)) (bS T (e x) (wipeS s1 vs))) : QL F s (aComp mi T t el vs) e2 ((xs.filter pr).map f) s1 := fun env h S => by
  obtain ⟨h1, e1, S1⟩ := hi env h S
  obtain ⟨h2, e2', S2⟩ := comp_run (g := some (q, es)) hT hv (gOk_hid hx) xs hb ht he h1 S1
  exact ⟨h2, by unfold aComp; rw [e1, bind_ok, e2']; rfl, S2⟩
theorem ql_mapH {es : List D} {mi : MI} {T : Tg} {vs : List Nat} {el : ME} {xs : List β} {e : β → D} {e2 : γ → D} {f : β → γ} (hi : QIh F s mi q (xs.map e) es s1) (hx : s1[j]? = some (some (Sl.hid q (.lst es)))) (hT : ∀ i ∈ T.slots, i ∈ vs) (hv : noC s1 vs = true) (hb : ∀ x ∈ xs, Bd T (e x))
    (he : ∀ x ∈ xs, QX F (bS T (e x) (wipeS s1 vs)) el (e2 (f x)) (bS T (e x) (wipeS s1 vs))) : QL F s (aComp mi T (fun _ h => .ok true h) el vs) e2 (xs.map f) s1 := by
  have := ql_compH (pr := fun _ => true) (e2 := e2) (f := f) (t := fun _ h => .ok true h) hi hx hT hv hb (fun x _ env h S => ⟨h, rfl, S⟩) (fun x m _ => he x m)
  rw [filter_tt] at this
  exact this

/-! ### statements -/
variable {S S' S1 L R X T : Type} {k : Kf L R X} {E : S → SEnv} {b : MS} {c : Ctl S L R X}
theorem qs_forH {es : List D} {e : α → D} {xs : List α} {Tt : Tg} {mi : MI} {f : α → S → Ctl S S R X} {ok : α → S → Prop} {s0 : S} (hi : QIh k.F s mi q (xs.map e) es s1) (w : Weak s1 (E s0)) (hx : ∀ st, (E st)[j]? = some (some (Sl.hid q (.lst es)))) (hb : ∀ x ∈ xs, Bd Tt (e x))
    (hs : ∀ x ∈ xs, ∀ st, ok x st → QS (⟨k.F, k.Z, k.EX, E⟩ : Kf S R X) (bS Tt (e x) (E st)) b E (f x st)) (hok : okFor f ok xs s0) : QS k s (sFor mi Tt b) E (forC f xs s0) := fun env h Sx => by
  obtain ⟨h1, e1, S1⟩ := hi env h Sx
  unfold sFor
  rw [e1]
  exact for_run (fun env h st S => gOk_hid (hx st) h S) xs s0 hb hs hok env h1 (S1.weak w)
/-- x.f = e -/
theorem sFld_run {C f : Str} {fs fs' : List (Str × D)} {h : Hh} {v : D} (S1 : Sat F s1 env h) (hi : s1[i]? = some (some (Sl.v (.ref p)))) (hx : s1[j]? = some (some (Sl.hid p (.ins C fs)))) (hl : fs.length < 1000) (he : putA f v fs = fs') : fldSet C f env[i]? v h = some (h.set p (.ins C fs')) := by
  rw [S1.val i _ hi]
  show (match h[p]? with | some (O.ins z fs) => if z = C ∧ fs.length < 1000 then some (h.set p (.ins C (putA f v fs))) else none | _ => none) = _
  rw [S1.hid j p _ hx]
  show (if C = C ∧ fs.length < 1000 then some (h.set p (.ins C (putA f v fs))) else none) = _
  rw [if_pos ⟨rfl, hl⟩, he]
theorem qs_fld {C f : Str} {fs fs' : List (Str × D)} (hA : QX k.F s A d s1) (hi : s1[i]? = some (some (Sl.v (.ref p)))) (hx : s1[j]? = some (some (Sl.hid p (.ins C fs)))) (hl : fs.length < 1000) (he : putA f d fs = fs') (hb : k.F.h0.length ≤ p ∨ p ∈ k.F.B) (h2 : QS k (s1.set j (some (.hid p (.ins C fs')))) b E c) : QS k s (sSeq (sFld C f i A) b) E c := fun env h Sx => by
  obtain ⟨h1, e1, S1⟩ := hA env h Sx
  have := h2 env _ (S1.changeH hx hb (.ins C fs'))
  unfold sSeq sFld
  rw [e1]
  show OutOk k E (RS.seq (match fldSet C f env[i]? d h1 with | some h2 => .nx env h2 | none => .stuck) b) c
  rw [sFld_run S1 hi hx hl he]
  exact this
/-- x.f = a new thing -/
def QW (F : Fr) (s : SEnv) (m : ME) (o : O) (s' : SEnv) : Prop := ∀ env h, Sat F s env h → ∃ h1, m env h = .ok (.ref h1.length) (h1 ++ [o]) ∧ Sat F s' env h1
theorem qw_new {e : α → D} {l : List α} (hA : QL F s ms e l s1) : QW F s (eNew ms) (oL e l) s1 := fun env h S => by
  obtain ⟨h1, e1, S1⟩ := hA env h S
  exact ⟨h1, by unfold eNew; rw [e1]; rfl, S1⟩
theorem qs_fldN {C f : Str} {i2 : Nat} {fs : List (Str × D)} {fs' : Nat → List (Str × D)} (hA : QW k.F s A o s1) (hi : s1[i]? = some (some (Sl.v (.ref p)))) (hx : s1[j]? = some (some (Sl.hid p (.ins C fs)))) (hl : fs.length < 1000) (he : ∀ q, putA f (.ref q) fs = fs' q) (hb : k.F.h0.length ≤ p ∨ p ∈ k.F.B) (hj : i2 ≠ i ∧ i2 ≠ j)
    (h2 : ∀ q, k.F.h0.length ≤ q → QS k ((s1.set j (some (.hid p (.ins C (fs' q))))).set i2 (some (.hid q o))) b E c) : QS k s (sSeq (sFld C f i A) b) E c := fun env h Sx => by
  obtain ⟨h1, e1, S1⟩ := hA env h Sx
  have Sg := S1.app [o]
  have S3 := Sg.changeH hx hb (.ins C (fs' h1.length))
  have hp : p < h1.length := (List.getElem?_eq_some_iff.mp (S1.hid j p _ hx)).1
  have nu : ¬ Ud (s1.set j (some (.hid p (.ins C (fs' h1.length))))) env h1.length := fun u => by
    rcases ud_addH u with u | e
    · exact absurd (S1.ud_lt u) (Nat.lt_irrefl _)
    · omega
  have hq : ((h1 ++ [o]).set p (.ins C (fs' h1.length)))[h1.length]? = some o := by
    rw [List.getElem?_set_ne (by omega)]; simp
  have := h2 h1.length S1.le env _ (S3.addH i2 h1.length o hq nu)
  unfold sSeq sFld
  rw [e1]
  show OutOk k E (RS.seq (match fldSet C f env[i]? (.ref h1.length) (h1 ++ [o]) with | some h2 => .nx env h2 | none => .stuck) b) c
  rw [sFld_run Sg hi hx hl (he h1.length)]
  exact this
/-- a new object for a name -/
def QN (F : Fr) (s : SEnv) (A : ME) (mk : List Nat → O) (os : List O) (s1 : SEnv) : Prop := ∀ env h, Sat F s env h → ∃ h1 h' p cs, A env h = .ok (.ref p) h' ∧ Sat F s1 env h1 ∧ h1.length ≤ h'.length ∧ (∀ j, j < h1.length → h'[j]? = h1[j]?) ∧ cs.map (·.2) = os ∧
  CellsAt h' ((p, mk (cs.map (·.1))) :: cs) ∧ h1.length ≤ p ∧ ∀ c ∈ cs, h1.length ≤ c.1
/-- what an __init__ leaves -/
def MadeOk (G : MF) (C : Str) (ds : List D) (mk : List Nat → O) (os : List O) : Prop := ∀ h p, h[p]? = some (.ins C []) → ∃ h' cs, G (.ref p :: ds) h = .ok .non h' ∧ h.length ≤ h'.length ∧ (∀ j, j < h.length → j ≠ p → h'[j]? = h[j]?) ∧ cs.map (·.2) = os ∧
  CellsAt h' ((p, mk (cs.map (·.1))) :: cs) ∧ ∀ c ∈ cs, h.length ≤ c.1
theorem qn_make {C : Str} {G : MF} {mk : List Nat → O} {os : List O} (hB : QA F s ms ds s1) (hG : MadeOk G C ds mk os) : QN F s (eMake C G ms) mk os s1 := fun env h S => by
  obtain ⟨h1, e1, S1⟩ := hB env h S
  obtain ⟨h', cs, e2, hl, hk, hm, hc, hq⟩ := hG (h1 ++ [.ins C []]) h1.length (by simp)
  rw [List.length_append] at hl
  refine ⟨h1, h', h1.length, cs, ?_, S1, by have : [O.ins C []].length = 1 := rfl; omega, fun j hj => ?_, hm, hc, Nat.le_refl _, fun c m => ?_⟩
  · unfold eMake
    rw [e1, bind_ok, e2]; rfl
  · rw [hk j (by rw [List.length_append]; omega) (by omega), List.getElem?_append_left hj]
  · have := hq c m
    rw [List.length_append] at this; omega
/-- a def that hands back a new object -/
def GivesOk (G : MF) (ds : List D) (mk : List Nat → O) (os : List O) : Prop := ∀ h, ∃ h' p cs, G ds h = .ok (.ref p) h' ∧ h.length ≤ h'.length ∧ (∀ j, j < h.length → h'[j]? = h[j]?) ∧ cs.map (·.2) = os ∧ CellsAt h' ((p, mk (cs.map (·.1))) :: cs) ∧ h.length ≤ p ∧ ∀ c ∈ cs, h.length ≤ c.1
theorem qn_call {G : MF} {mk : List Nat → O} {os : List O} (hB : QA F s ms ds s1) (hG : GivesOk G ds mk os) : QN F s (eCall G ms) mk os s1 := fun env h S => by
  obtain ⟨h1, e1, S1⟩ := hB env h S
  obtain ⟨h', p, cs, e2, r⟩ := hG h1
  exact ⟨h1, h', p, cs, by unfold eCall; rw [e1, bind_ok, e2], S1, r⟩
def zip3 : List Nat → List Nat → List O → List (Nat × Nat × O)
  | j :: js, q :: qs, o :: os => (j, q, o) :: zip3 js qs os
  | _, _, _ => []
theorem zip3_snd : ∀ (js : List Nat) (cs : List (Nat × O)), js.length = cs.length → (zip3 js (cs.map (·.1)) (cs.map (·.2))).map (·.2) = cs
  | [], [], _ => rfl
  | j :: js, c :: cs, h => by
    show c :: (zip3 js (cs.map (·.1)) (cs.map (·.2))).map (·.2) = c :: cs
    rw [zip3_snd js cs (by simpa using h)]
  | [], _ :: _, h => by simp at h
  | _ :: _, [], h => by simp at h
theorem qs_obj {j0 : Nat} {js : List Nat} {mk : List Nat → O} {os : List O} (hA : QN k.F s A mk os s1) (hj : js.length = os.length) (h2 : ∀ p qs, qs.length = os.length → k.F.h0.length ≤ p → (∀ q ∈ qs, k.F.h0.length ≤ q) → QS k (layH ((j0, p, mk qs) :: zip3 js qs os) (s1.set i (some (.v (.ref p))))) b E c) : QS k s (sSeq (sAsg A (gName i)) b) E c := fun env h Sx => by
  obtain ⟨h1, h', p, cs, e1, S1, hl, hk, hm, hc, hp, hq⟩ := hA env h Sx
  have S2 := (S1.grow hl hk).setV i (.ref p)
  have ez : ((j0, p, mk (cs.map (·.1))) :: zip3 js (cs.map (·.1)) os).map (·.2) = (p, mk (cs.map (·.1))) :: cs := by
    rw [List.map_cons, ← hm, zip3_snd js cs (by rw [hj, ← hm, List.length_map])]
  have S3 := S2.addHs (xs := (j0, p, mk (cs.map (·.1))) :: zip3 js (cs.map (·.1)) os)
    (fun x m => hc.2 x.2 (by rw [← ez]; exact List.mem_map_of_mem m))
    (by
      have := hc.1
      rw [← ez, List.map_map] at this
      exact this)
    (fun x m u => by
      have := S1.ud_lt (ud_setV u)
      have mm : x.2 ∈ (p, mk (cs.map (·.1))) :: cs := by rw [← ez]; exact List.mem_map_of_mem m
      rcases List.mem_cons.mp mm with e | mm
      · rw [e] at this; omega
      · have := hq _ mm; omega)
  have le := S1.le
  have := h2 p (cs.map (·.1)) (by rw [← hm]; simp) (by omega) (fun q m => by
    obtain ⟨c, mc, rfl⟩ := List.mem_map.mp m
    have := hq c mc; omega) _ _ S3
  unfold sSeq sAsg
  rw [e1]
  exact this
/-- something is done by which places change -/
theorem qs_doH {r : T} {Ev : T → SEnv} {c2 : T → Ctl S L R X} {ok : T → Prop} (hA : QX k.F s A d (Ev r)) (hok : ok r) (h2 : ∀ r, ok r → QS k (Ev r) b E (c2 r)) : QS k s (sSeq (sDrop A) b) E (letC r c2) := qs_do hA hok h2

/-! ### defs -/
theorem not_ud_beg {N : List Str} {env : DEnv} : ¬ Ud (begS N ds) env p := fun u => by
  have val : ∀ (i : Nat) (c : Sl), (begS N ds)[i]? = some (some c) → ∃ d, c = .v d := fun i c e => by
    unfold begS at e
    by_cases hi : i < ds.length
    · rw [List.getElem?_append_left (by simpa using hi), List.getElem?_map, List.getElem?_eq_getElem hi] at e
      cases e
      exact ⟨_, rfl⟩
    · rw [List.getElem?_append_right (by simpa using hi), List.getElem?_replicate] at e
      split at e <;> cases e
  rcases u with ⟨i, o, x, _⟩ | ⟨i, o, x⟩
  · rcases x with x | ⟨r, x⟩ <;> (obtain ⟨d, e⟩ := val _ _ x; cases e)
  · obtain ⟨d, e⟩ := val _ _ x; cases e
theorem begH_sat {N : List Str} {xs : List (Nat × Nat × O)} (hN : ds.length ≤ N.length) (hF : F.h0 = h) (hx : CellsAt h (xs.map (·.2))) : Sat F (layH xs (begS N ds)) (startD N ds) h :=
  (beg_sat hN hF).addHs (fun x m => hx.2 x.2 (List.mem_map_of_mem m)) (by have := hx.1; rw [List.map_map] at this; exact this) fun x m u => not_ud_beg u
/-- a def that looks at objects -/
theorem fn_frzH {n : Nat} {N : List Str} {eR : R → D} [Inhabited R] {xs : List (Nat × Nat × O)} {c : Ctl Empty Empty R Empty} (hc : CellsAt h (xs.map (·.2))) (hq : QS (⟨⟨h, []⟩, ZF ⟨h, []⟩ eR, fun x _ => x.elim, fun l => l.elim⟩ : Kf Empty R Empty) (layH xs (begS N ds)) b (fun x => x.elim) c)
    (hn : ds.length = n := by rfl) (hN : ds.length ≤ N.length := by decide) : frzF (runF n N b) ds h = .ok (eR c.get) h := by
  have o := hq (startD N ds) h (begH_sat hN rfl hc)
  cases c with
  | nx x => exact x.elim
  | bk x => exact x.elim
  | ct x => exact x.elim
  | er x => exact x.elim
  | rt r =>
    cases e : b (startD N ds) h with
    | rt d h' =>
      rw [e] at o
      obtain ⟨o0, o1, o2⟩ := o
      have e0 := prefix_of o1 fun j hj => o2 j hj (by simp)
      have e1 : runF n N b ds h = .ok d (h ++ h'.drop h.length) := by
        rw [run_eq hn, e, ev_out_rt, ← e0]
      refine frzF_of e1 ?_
      rw [← e0]
      exact o0
    | nx d h' => rw [e] at o; exact o.elim
    | bk d h' => rw [e] at o; exact o.elim
    | ct d h' => rw [e] at o; exact o.elim
    | er x d h' => rw [e] at o; exact o.elim
    | stuck => rw [e] at o; exact o.elim
/-- a body that falls off its end -/
theorem run_end {n : Nat} {N : List Str} {h : Hh} : runF n N b ds h = runF n N (sSeq b sRetN) ds h := by
  unfold runF
  split
  · unfold sSeq sRetN RS.seq
    cases b (startD N ds) h <;> rfl
  · rfl
/-- an __init__ -/
def ZI {R : Type} (F : Fr) (p : Nat) (mk : R → List Nat → O) (os : R → List O) : R → D → Hh → Prop := fun r d h => d = .non ∧ Agree F h ∧ ∃ cs : List (Nat × O), cs.map (·.2) = os r ∧ CellsAt h ((p, mk r (cs.map (·.1))) :: cs) ∧ ∀ c ∈ cs, F.h0.length ≤ c.1
theorem qs_endI {F : Fr} {EX : X → Exn → Prop} {EL : L → SEnv} {mk : R → List Nat → O} {os : R → List O} {v : R} {j : Nat} {xs : List (Nat × Nat × O)} (hx : Hid s ((j, p, mk v (xs.map (·.2.1))) :: xs)) (hn : (j :: xs.map (·.1)).Nodup) (ho : os v = xs.map (·.2.2)) (hq : ∀ x ∈ xs, F.h0.length ≤ x.2.1) :
    QS (⟨F, ZI F p mk os, EX, EL⟩ : Kf L R X) s sRetN E (.rt v) := fun env h Sx => by
  have hc := Sx.cells hx hn
  refine ⟨rfl, Sx.agree, xs.map (·.2), by rw [ho, List.map_map]; rfl, by rw [List.map_map]; exact hc, fun c m => ?_⟩
  obtain ⟨x, mx, rfl⟩ := List.mem_map.mp m
  exact hq x mx
theorem fn_init {n : Nat} {N : List Str} {C : Str} {j : Nat} {mk : R → List Nat → O} {os : R → List O} [Inhabited R] {c : Ctl Empty Empty R Empty}
    (hq : ∀ h p, QS (⟨⟨h, [p]⟩, ZI ⟨h, [p]⟩ p mk os, fun x _ => x.elim, fun l => l.elim⟩ : Kf Empty R Empty) (layH [(j, p, .ins C [])] (begS N (.ref p :: ds))) (sSeq b sRetN) (fun x => x.elim) c)
    (hn : ds.length + 1 = n := by rfl) (hN : ds.length + 1 ≤ N.length := by decide) : MadeOk (runF n N b) C ds (mk c.get) (os c.get) := fun h p hp => by
  have o := hq h p (startD N (.ref p :: ds)) h (begH_sat hN rfl ⟨by simp, fun c m => by rcases List.mem_cons.mp m with rfl | m; exact hp; cases m⟩)
  cases c with
  | nx x => exact x.elim
  | bk x => exact x.elim
  | ct x => exact x.elim
  | er x => exact x.elim
  | rt r =>
    cases e : sSeq b sRetN (startD N (.ref p :: ds)) h with
    | rt d h' =>
      rw [e] at o
      obtain ⟨rfl, ⟨o1, o2⟩, cs, m1, m2, m3⟩ := o
      refine ⟨h', cs, ?_, o1, fun j hj hjp => o2 j hj (by simpa using hjp), m1, m2, m3⟩
      rw [run_end, run_eq (ds := .ref p :: ds) hn, e, ev_out_rt]
    | nx d h' => rw [e] at o; exact o.elim
    | bk d h' => rw [e] at o; exact o.elim
    | ct d h' => rw [e] at o; exact o.elim
    | er x d h' => rw [e] at o; exact o.elim
    | stuck => rw [e] at o; exact o.elim
/-- a def by which places change -/
def ZM {R T : Type} (F : Fr) (eR : R → D) (nw : T → List (Nat × O)) : R × T → D → Hh → Prop := fun r d h => d = eR r.1 ∧ Agree F h ∧ ∀ x ∈ nw r.2, h[x.1]? = some x.2
theorem qs_retM {F : Fr} {EX : X → Exn → Prop} {EL : L → SEnv} {eR : R → D} {nw : T → List (Nat × O)} {v : R} {t : T} {xs : List (Nat × Nat × O)} (hA : QX F s A (eR v) s1) (hx : Hid s1 xs) (hn : nw t = xs.map (·.2)) : QS (⟨F, ZM F eR nw, EX, EL⟩ : Kf L (R × T) X) s (sRet A) E (.rt (v, t)) := fun env h Sx => by
  obtain ⟨h1, e1, S1⟩ := hA env h Sx
  unfold sRet
  rw [e1]
  refine ⟨rfl, S1.agree, fun x m => ?_⟩
  rw [hn] at m
  obtain ⟨y, my, rfl⟩ := List.mem_map.mp m
  exact S1.hid _ _ _ (hx.all y my)
theorem qs_endM {F : Fr} {EX : X → Exn → Prop} {EL : L → SEnv} {nw : T → List (Nat × O)} {t : T} {xs : List (Nat × Nat × O)} (hx : Hid s xs) (hn : nw t = xs.map (·.2)) : QS (⟨F, ZM F eN nw, EX, EL⟩ : Kf L (Unit × T) X) s sRetN E (.rt ((), t)) := fun env h Sx => by
  refine ⟨rfl, Sx.agree, fun x m => ?_⟩
  rw [hn] at m
  obtain ⟨y, my, rfl⟩ := List.mem_map.mp m
  exact Sx.hid _ _ _ (hx.all y my)
theorem setH_ne : ∀ {cs : List (Nat × O)} {h : Hh} {j : Nat}, j ∉ cs.map (·.1) → (setH cs h)[j]? = h[j]?
  | [], _, _, _ => rfl
  | c :: cs, h, j, n => by
    rw [List.map_cons, List.mem_cons, not_or] at n
    show (setH cs (h.set c.1 c.2))[j]? = _
    rw [setH_ne n.2, List.getElem?_set_ne (Ne.symm n.1)]
theorem setH_len : ∀ {cs : List (Nat × O)} {h : Hh}, (setH cs h).length = h.length
  | [], _ => rfl
  | c :: cs, h => by
    show (setH cs (h.set c.1 c.2)).length = _
    rw [setH_len, List.length_set]
theorem setH_at : ∀ {cs : List (Nat × O)} {h : Hh} {c : Nat × O}, (cs.map (·.1)).Nodup → c ∈ cs → c.1 < h.length → (setH cs h)[c.1]? = some c.2
  | a :: cs, h, c, n, m, hl => by
    rw [List.map_cons, List.nodup_cons] at n
    show (setH cs (h.set a.1 a.2))[c.1]? = _
    rcases List.mem_cons.mp m with rfl | m
    · rw [setH_ne n.1, List.getElem?_set_self hl]
    · exact setH_at n.2 m (by rw [List.length_set]; exact hl)
theorem fn_mut {n : Nat} {N : List Str} {eR : R → D} [NR eR] {nw : T → List (Nat × O)} [Inhabited R] [Inhabited T] {xs : List (Nat × Nat × O)} {c : Ctl Empty Empty (R × T) Empty} (hc : CellsAt h (xs.map (·.2)))
    (hq : QS (⟨⟨h, xs.map (·.2.1)⟩, ZM ⟨h, xs.map (·.2.1)⟩ eR nw, fun x _ => x.elim, fun l => l.elim⟩ : Kf Empty (R × T) Empty) (layH xs (begS N ds)) b (fun x => x.elim) c)
    (ha : ∀ t, (nw t).map (·.1) = xs.map (·.2.1)) (hb : ∀ t, ∀ x ∈ nw t, x ∈ xs.map (·.2) ∨ O.bel h.length x.2) (hn : ds.length = n := by rfl) (hN : ds.length ≤ N.length := by decide) :
    dropF (runF n N b) ds h = .ok (eR c.get.1) (setH (nw c.get.2) h) := by
  have o := hq (startD N ds) h (begH_sat hN rfl hc)
  cases c with
  | nx x => exact x.elim
  | bk x => exact x.elim
  | ct x => exact x.elim
  | er x => exact x.elim
  | rt r =>
    cases e1 : b (startD N ds) h with
    | rt d h' =>
      rw [e1] at o
      obtain ⟨e2, ⟨o1, o2⟩, o3⟩ := o
      have nd : ((nw r.2).map (·.1)).Nodup := by
        have := hc.1
        rw [List.map_map] at this
        rw [ha]; exact this
      have lt : ∀ x ∈ nw r.2, x.1 < h.length := fun x m => by
        have : x.1 ∈ xs.map (·.2.1) := by rw [← ha r.2]; exact List.mem_map_of_mem m
        obtain ⟨y, my, ey⟩ := List.mem_map.mp this
        have := hc.2 y.2 (List.mem_map_of_mem my)
        rw [← ey]
        exact (List.getElem?_eq_some_iff.mp this).1
      have e3 : runF n N b ds h = .ok (eR r.1) h' := by
        rw [run_eq hn, e1, ev_out_rt, e2]
      have e4 : h'.take h.length = setH (nw r.2) h := by
        apply List.ext_getElem?
        intro j
        by_cases hj : j < h.length
        · rw [List.getElem?_take_of_lt hj]
          by_cases hm : j ∈ (nw r.2).map (·.1)
          · obtain ⟨x, mx, rfl⟩ := List.mem_map.mp hm
            rw [setH_at nd mx hj, o3 x mx]
          · rw [setH_ne hm]
            exact o2 j hj (by rw [ha] at hm; exact hm)
        · rw [List.getElem?_eq_none (by rw [List.length_take]; omega), List.getElem?_eq_none (by rw [setH_len]; omega)]
      show _ = Res.ok (eR r.1) (setH (nw r.2) h)
      rw [← e4]
      refine dropF_of e3 (NR.nr _ _) o1 fun i ob hi e5 => ?_
      by_cases hm : i ∈ (nw r.2).map (·.1)
      · obtain ⟨x, mx, rfl⟩ := List.mem_map.mp hm
        rw [o3 x mx] at e5
        cases e5
        rcases hb r.2 x mx with z | z
        · left; exact hc.2 x z
        · right; exact z
      · left
        rw [← o2 i hi (by rw [ha] at hm; exact hm)]; exact e5
    | nx d h' => rw [e1] at o; exact o.elim
    | bk d h' => rw [e1] at o; exact o.elim
    | ct d h' => rw [e1] at o; exact o.elim
    | er x d h' => rw [e1] at o; exact o.elim
    | stuck => rw [e1] at o; exact o.elim
theorem fn_mutE {n : Nat} {N : List Str} {eR : R → D} [NR eR] {nw : T → List (Nat × O)} [Inhabited R] [Inhabited T] {xs : List (Nat × Nat × O)} {c : Ctl Empty Empty (R × T) Empty} (hc : CellsAt h (xs.map (·.2)))
    (hq : QS (⟨⟨h, xs.map (·.2.1)⟩, ZM ⟨h, xs.map (·.2.1)⟩ eR nw, fun x _ => x.elim, fun l => l.elim⟩ : Kf Empty (R × T) Empty) (layH xs (begS N ds)) (sSeq b sRetN) (fun x => x.elim) c)
    (ha : ∀ t, (nw t).map (·.1) = xs.map (·.2.1)) (hb : ∀ t, ∀ x ∈ nw t, x ∈ xs.map (·.2) ∨ O.bel h.length x.2) (hn : ds.length = n := by rfl) (hN : ds.length ≤ N.length := by decide) :
    dropF (runF n N b) ds h = .ok (eR c.get.1) (setH (nw c.get.2) h) := by
  have e : runF n N b = runF n N (sSeq b sRetN) := by funext ds h; exact run_end
  rw [e]
  exact fn_mut hc hq ha hb hn hN
theorem bel_oL {e : α → D} [NR e] (n : Nat) (l : List α) : O.bel n (oL e l) := bels_map _ _
/-- a try whose body raises nothing -/
theorem qs_thru {m : MS} (h : QS k s m E c) (hc : ∀ x, c ≠ .er x) : QS k s (sThru m) E c := fun env h' Sx => by
  have o := h env h' Sx
  unfold sThru
  cases e : m env h' with
  | er y env1 h1 =>
    rw [e] at o
    cases c with
    | er x => exact absurd rfl (hc x)
    | _ => exact o.elim
  | nx env1 h1 => rw [e] at o; exact o
  | rt d h1 => rw [e] at o; exact o
  | bk d h1 => rw [e] at o; exact o
  | ct d h1 => rw [e] at o; exact o
  | stuck => rw [e] at o; exact o
end
end MR
namespace MR
open PySem PySem.Spec PyProof.Rows L2
section
variable {S L R X ρ : Type} {k : Kf L R X} {s s1 : SEnv} {E : S → SEnv} {a b m : MS} {c : Ctl S L R X} {A : ME} {i : Nat}
theorem qs_assoc (h : QS k s (sSeq a (sSeq b m)) E c) : QS k s (sSeq (sSeq a b) m) E c := fun env h0 S => by
  have := h env h0 S
  have e : sSeq (sSeq a b) m env h0 = sSeq a (sSeq b m) env h0 := by
    unfold sSeq RS.seq
    cases a env h0 <;> rfl
  rw [e]; exact this
theorem qs_objL {j0 : Nat} {js : List Nat} {r : ρ} {mk : ρ → List Nat → O} {os : ρ → List O} {c2 : ρ → Ctl S L R X} {ok : ρ → Prop} (hA : QN k.F s A (mk r) (os r) s1) (hj : ∀ r, js.length = (os r).length) (hok : ok r)
    (h2 : ∀ r, ok r → ∀ p qs, qs.length = (os r).length → k.F.h0.length ≤ p → (∀ q ∈ qs, k.F.h0.length ≤ q) → QS k (layH ((j0, p, mk r qs) :: zip3 js qs (os r)) (s1.set i (some (.v (.ref p))))) b E (c2 r)) : QS k s (sSeq (sAsg A (gName i)) b) E (letC r c2) :=
  qs_obj hA (hj r) (h2 r hok)
end
end MR
namespace MR
open PySem PySem.Spec PyProof.Rows L2
section
variable {S L R X ρ : Type} {k : Kf L R X} {s s1 : SEnv} {E : S → SEnv} {a b m : MS} {c : Ctl S L R X} {A : ME} {i j p : Nat}
theorem qs_fldNL {C f : Str} {i2 : Nat} {fs : List (Str × D)} {fs' : Nat → List (Str × D)} {r : ρ} {o : ρ → O} {c2 : ρ → Ctl S L R X} {ok : ρ → Prop} (hA : QW k.F s A (o r) s1) (hi : s1[i]? = some (some (Sl.v (.ref p)))) (hx : s1[j]? = some (some (Sl.hid p (.ins C fs)))) (hl : fs.length < 1000) (he : ∀ q, putA f (.ref q) fs = fs' q)
    (hb : k.F.h0.length ≤ p ∨ p ∈ k.F.B) (hj : i2 ≠ i ∧ i2 ≠ j) (hok : ok r) (h2 : ∀ r, ok r → ∀ q, k.F.h0.length ≤ q → QS k ((s1.set j (some (.hid p (.ins C (fs' q))))).set i2 (some (.hid q (o r)))) b E (c2 r)) : QS k s (sSeq (sFld C f i A) b) E (letC r c2) :=
  qs_fldN hA hi hx hl he hb hj (h2 r hok)
/-- try: a statement that raises nothing -/
theorem qs_thruL {k : Kf L R Empty} {c : Ctl S L R Empty} {t : MS} (h : QS k s (sSeq t b) E c) : QS k s (sSeq (sThru t) b) E c := fun env h0 S => by
  have := h env h0 S
  have e : sSeq (sThru t) b env h0 = sSeq t b env h0 := by
    unfold sSeq sThru RS.seq at *
    cases e : t env h0 with
    | er x e1 h1 =>
      rw [e] at this
      cases c with
      | er y => exact y.elim
      | _ => exact this.elim
    | _ => rfl
  rw [e]; exact this
end
end MR

/-! Q14: dicts by numbers. -/
namespace MR
open PySem PySem.Spec PyProof.Rows L2

section
variable {S S' S1 S2 L R X α β γ δ ρ : Type}
def mapI (e : α → D) (l : List (Int × α)) : List (Key × D) := l.map fun p => (.inl p.1, e p.2)
def oI (e : α → D) (l : List (Int × α)) : O := .dK (mapI e l)
theorem keyI_eq (a b : Int) : ((Sum.inl a : Key) = Sum.inl b) ↔ a = b := ⟨fun h => Sum.inl.inj h, fun h => by rw [h]⟩
theorem put_mapI (e : α → D) (l : List (Int × α)) (k : Int) (v : α) : putG (mapI e l) (.inl k) (e v) = mapI e (putG l k v) := by
  unfold putG mapI
  have h1 : ((l.map fun p : Int × α => ((Sum.inl p.1 : Key), e p.2)).any fun kv => decide (kv.1 = Sum.inl k)) = l.any fun kv => decide (kv.1 = k) := by
    rw [List.any_map]
    congr 1
    funext p
    show decide ((Sum.inl p.1 : Key) = Sum.inl k) = decide (p.1 = k)
    by_cases h : p.1 = k
    · rw [decide_eq_true h, decide_eq_true ((keyI_eq _ _).mpr h)]
    · rw [decide_eq_false h, decide_eq_false fun z => h ((keyI_eq _ _).mp z)]
  rw [h1]
  split
  · rw [List.map_map, List.map_map]
    congr 1
    funext p
    show (if (Sum.inl p.1 : Key) = Sum.inl k then ((Sum.inl p.1 : Key), e v) else (Sum.inl p.1, e p.2)) = ((Sum.inl (if p.1 = k then (p.1, v) else p).1 : Key), e (if p.1 = k then (p.1, v) else p).2)
    by_cases h : p.1 = k
    · rw [if_pos h, if_pos ((keyI_eq _ _).mpr h)]
    · rw [if_neg h, if_neg fun z => h ((keyI_eq _ _).mp z)]
  · rw [List.map_append]; rfl
theorem merge_mapI (e : α → D) : ∀ (m l : List (Int × α)), mergeG (mapI e l) (mapI e m) = mapI e (mergeG l m)
  | [], l => rfl
  | p :: m, l => by
    show mergeG (putG (mapI e l) (.inl p.1) (e p.2)) (mapI e m) = mapI e (mergeG (putG l p.1 p.2) m)
    rw [put_mapI, merge_mapI e m]
theorem get_mapI (e : α → D) (k : Int) : ∀ l : List (Int × α), getG (mapI e l) (.inl k) = (getG l k).map e
  | [] => rfl
  | p :: l => by
    have ih := get_mapI e k l
    unfold getG mapI at ih ⊢
    rw [List.map_cons, List.find?_cons, List.find?_cons]
    by_cases h : p.1 = k
    · rw [show decide ((Sum.inl p.1 : Key) = Sum.inl k) = true from decide_eq_true ((keyI_eq _ _).mpr h), show decide (p.1 = k) = true from decide_eq_true h]; rfl
    · rw [show decide ((Sum.inl p.1 : Key) = Sum.inl k) = false from decide_eq_false fun z => h ((keyI_eq _ _).mp z), show decide (p.1 = k) = false from decide_eq_false h]; exact ih
theorem prs_map (e : α → D) : ∀ l : List (Int × α), prsOf (l.map (eT2 D.int e)) = some (mapI e l)
  | [] => rfl
  | p :: l => by
    rw [List.map_cons]
    show (match keyD (.int p.1), prsOf (l.map (eT2 D.int e)) with | some k, some ks => some ((k, e p.2) :: ks) | _, _ => none) = _
    rw [prs_map e l]; rfl
variable {F : Fr} {s s1 s2 : SEnv} {A B C : ME} {i : Nat} {E : S → SEnv} {k : Kf L R X} {b : MS}
/-- x = dict(pairs) -/
theorem qs_newI {e : α → D} {l : List (Int × α)} {c2 : List (Int × α) → Ctl S L R X} {ok : List (Int × α) → Prop} (hA : QX k.F s A (eL (eT2 D.int e) l) s) (hok : ok (mergeG [] l)) (h2 : ∀ x, ok x → QS k (s.set i (some (.own (oI e x)))) b E (c2 x)) : QS k s (sSeq (sAsg (eDictOf A) (gName i)) b) E (letC (mergeG [] l) c2) := fun env h Sx => by
  obtain ⟨h1, e1, S1⟩ := hA env h Sx
  have := h2 _ hok _ _ (S1.setO i (oI e (mergeG [] l)))
  have e2 : eDictOf A env h = .ok (.ref h1.length) (h1 ++ [oI e (mergeG [] l)]) := by
    unfold eDictOf
    rw [e1, bind_ok]
    show (match (some (l.map (eT2 D.int e))).bind prsOf with | some kvs => Res.ok (D.ref h1.length) (h1 ++ [O.dK (mergeG [] kvs)]) | none => Res.stuck) = _
    rw [Option.bind_some, prs_map]
    have := merge_mapI e l []
    rw [show mapI e [] = [] from rfl] at this
    show Res.ok (D.ref h1.length) (h1 ++ [O.dK (mergeG [] (mapI e l))]) = _
    rw [this]; rfl
  unfold sSeq sAsg
  rw [e2]
  exact this
theorem qs_newIV {e : α → D} {l : List (Int × α)} {g2 : List (Int × α) → S} {ok : List (Int × α) → Prop} (hA : QX k.F s A (eL (eT2 D.int e) l) s) (hok : ok (mergeG [] l)) (h2 : ∀ x, ok x → QS k (s.set i (some (.own (oI e x)))) b E (.nx (g2 x))) : QS k s (sSeq (sAsg (eDictOf A) (gName i)) b) E (.nx (letC (mergeG [] l) g2)) := qs_newI (c2 := fun x => .nx (g2 x)) hA hok h2
theorem getO_I {e : α → D} {l : List (Int × α)} {h : Hh} {p : Nat} (hp : h[p]? = some (oI e l)) (j : Int) : getO (.ref p) (.int j) h = some ((getG l j).map e) := by
  have f := dictOf_ref (kvs := mapI e l) hp
  unfold getO
  rw [f]
  show some (getG (mapI e l) (.inl j)) = _
  rw [get_mapI]
/-- x.get(k, y) -/
theorem q_dget2I {e : α → D} {l : List (Int × α)} {j : Int} {x : α} (hx : Hs s i (oI e l)) (hB : QX F s B (.int j) s) (hC : QX F s C (e x) s) : QX F s (eDGet2 (eSlot i) B C) (e ((getG l j).getD x)) s := fun env h S => by
  obtain ⟨p, e0, e00⟩ := S.cell i _ hx
  obtain ⟨h1, e1, S1⟩ := hB env h S
  obtain ⟨h2, e2, S2⟩ := hC env h1 S1
  obtain ⟨p', e3, e4⟩ := S2.cell i _ hx
  rw [e0] at e3
  cases e3
  refine ⟨h2, ?_, S2⟩
  have f1 := dictOf_ref (kvs := mapI e l) e00
  unfold eDGet2 eSlot
  rw [e0]
  show (if (dictOf (.ref p) h).isSome = true then _ else _) = _
  rw [f1, if_pos (show (some (mapI e l)).isSome = true from rfl), e1, bind_ok, e2, bind_ok, getO_I e4]
  cases getG l j <;> rfl
/-- x.get(k) -/
theorem q_dget1I {e : α → D} {l : List (Int × α)} {j : Int} (hx : Hs s i (oI e l)) (hB : QX F s B (.int j) s) : QX F s (eDGet1 (eSlot i) B) (eO e (getG l j)) s := fun env h S => by
  obtain ⟨p, e0, e00⟩ := S.cell i _ hx
  obtain ⟨h1, e1, S1⟩ := hB env h S
  obtain ⟨p', e3, e4⟩ := S1.cell i _ hx
  rw [e0] at e3
  cases e3
  refine ⟨h1, ?_, S1⟩
  have f1 := dictOf_ref (kvs := mapI e l) e00
  unfold eDGet1 eSlot
  rw [e0]
  show (if (dictOf (.ref p) h).isSome = true then _ else _) = _
  rw [f1, if_pos (show (some (mapI e l)).isSome = true from rfl), e1, bind_ok, getO_I e4]
  cases getG l j <;> rfl
end
end MR

/-! Q15: len(set(xs)). -/
namespace MR
open PySem PySem.Spec PyProof.Rows L2
section
variable {F : Fr} {s s1 : SEnv} {A : ME}
theorem ints_map : ∀ l : List Int, intsOf (l.map D.int) = some l
  | [] => rfl
  | x :: l => by
    rw [List.map_cons, ev_intsOf, ints_map l]; rfl
theorem q_lenSet {d : D} {n : Int} (hA : QX F s A d s1) (ho : ∀ h, lenSetO d h = some (.int n)) : QX F s (eLenSet A) (.int n) s1 := fun env h S => by
  obtain ⟨h1, e1, S1⟩ := hA env h S
  refine ⟨h1, ?_, S1⟩
  unfold eLenSet
  rw [e1, bind_ok, ho]; rfl
theorem o_setI (l : List Int) (hl : l.length < 64) (h : Hh) : lenSetO (eL D.int l) h = some (.int (setN l)) := by
  show (match intsOf (l.map D.int) with | some ns => if ns.length < 64 then some (D.int (setN ns)) else none | none => _) = _
  rw [ints_map]
  exact if_pos hl
theorem o_setW (l : List Wd) (hl : l.length ≤ 1) (h : Hh) : lenSetO (eL eW l) h = some (.int l.length) := by
  match l, hl with
  | [], _ => rfl
  | [w], _ => rfl
theorem o_isiTup (xs : List D) (h : Hh) : isiO [.tup xs, .glb (.ty "tuple")] h = some (.bl true) := by
  rw [ev_isi, ev_tyT]; show (kitB "tuple" "tuple").map D.bl = _; rw [kit_tuple.2.2.1]; rfl
theorem setN_nodup {l : List Int} (h : l.Nodup) : setN l = l.length := by
  have key : ∀ (k : Nat), k ≤ l.length → firstMet (fun i => l.getD i 0) k = l.take k := by
    intro k
    induction k with
    | zero => intro _; rfl
    | succ k ih =>
      intro hk
      rw [firstMet_succ, ih (by omega)]
      have e : l.getD k 0 = l[k] := by rw [List.getD_eq_getElem?_getD, List.getElem?_eq_getElem (by omega)]; rfl
      rw [e]
      unfold step_dedup
      have no : (l.take k).any (· == l[k]) = false := by
        rw [List.any_eq_false]
        intro x hx hz
        have hz : x = l[k] := by simpa using hz
        obtain ⟨j, hj, rfl⟩ := List.mem_iff_getElem.mp hx
        rw [List.getElem_take] at hz
        have hj2 : j < k := by rw [List.length_take] at hj; omega
        have hn := List.pairwise_iff_getElem.mp h j k (by omega) (by omega) hj2
        exact hn hz
      rw [no, List.take_succ_eq_append_getElem (by omega)]
      rfl
  unfold setN
  rw [key l.length (Nat.le_refl _), List.take_length]
end
end MR

/-! Q16: sorted(xs). -/
namespace MR
open PySem PySem.Spec PyProof.Rows L2
theorem o_sort (l : List Int) (hl : l.length < 64) (h : Hh) : sortO [eL D.int l] h = some (eL D.int (sortI l)) := by
  show (intsOf (l.map D.int)).bind (fun ns => if ns.length < 64 then some (D.lst ((sortI ns).map D.int)) else none) = _
  rw [ints_map]
  exact if_pos hl
theorem o_sortO (l : List Int) (hl : l.length < 64) (h : Hh) (p : Nat) (hp : h[p]? = some (oL D.int l)) : sortO [.ref p] h = some (eL D.int (sortI l)) := by
  have e : seqL (.ref p) h = some (l.map D.int) := by
    show (match h[p]? with | some (O.lst xs) => some xs | _ => none) = _
    rw [hp]; rfl
  show ((seqL (.ref p) h).bind intsOf).bind (fun ns => if ns.length < 64 then some (D.lst ((sortI ns).map D.int)) else none) = _
  rw [e, Option.bind_some, ints_map]
  exact if_pos hl
end MR

/-! Q17: texts. -/
namespace MR
open PySem PySem.Spec PyProof.Rows L2

/-- texts of signs that there are -/
structure Tx where
  val : Str
  ok : PyData.strOk val = true
theorem Tx.ext {a b : Tx} (h : a.1 = b.1) : a = b := by
  cases a; cases b
  cases h; rfl
instance : DecidableEq Tx := fun a b => if h : a.1 = b.1 then isTrue (Tx.ext h) else isFalse fun z => h (by rw [z])
def eX : Tx → D := fun t => .str t.1
theorem ok_iff {x : Str} : PyData.strOk x = true ↔ ∀ c ∈ x.cps.toList, c < 0x110000 := by
  unfold PyData.strOk
  rw [← Array.all_toList, List.all_eq_true]
  constructor
  · intro h c hc; exact of_decide_eq_true (h c hc)
  · intro h c hc; exact decide_eq_true (h c hc)
theorem cps_app (a b : Str) : (a ++ b).cps = a.cps ++ b.cps := rfl
theorem str_ext {a b : Str} (h : a.cps.toList = b.cps.toList) : a = b := by
  cases a; cases b
  exact congrArg Str.mk (Array.toList_inj.mp h)
theorem str_assoc (a b c : Str) : a ++ b ++ c = a ++ (b ++ c) := str_ext (by rw [cps_app, cps_app, cps_app, cps_app, Array.append_assoc])
theorem str_nil (a : Str) : a ++ Str.empty = a := str_ext (by rw [cps_app]; show (a.cps ++ (#[] : Array Nat)).toList = _; simp)
theorem nil_str (a : Str) : Str.empty ++ a = a := str_ext (by rw [cps_app]; show ((#[] : Array Nat) ++ a.cps).toList = _; simp)
theorem ok_app {a b : Str} (ha : PyData.strOk a = true) (hb : PyData.strOk b = true) : PyData.strOk (a ++ b) = true := by
  rw [ok_iff] at *
  intro c hc
  rw [cps_app, Array.toList_append] at hc
  rcases List.mem_append.mp hc with h | h
  · exact ha c h
  · exact hb c h
theorem ok_of (s : String) : PyData.strOk (Str.ofString s) = true := by
  rw [ok_iff]
  intro c hc
  have e : (Str.ofString s).cps.toList = s.toList.map Char.toNat := by
    show (cpsOfBytes 0 0 s.toByteArray.data.toList).toArray.toList = _
    rw [cpsOfBytes_string]
  rw [e] at hc
  obtain ⟨x, _, rfl⟩ := List.mem_map.mp hc
  have h := x.valid
  simp only [UInt32.isValidChar, Nat.isValidChar] at h
  show x.val.toNat < _
  omega
theorem ok_empty : PyData.strOk Str.empty = true := by decide +kernel
theorem ok_join {s : Str} (hs : PyData.strOk s = true) : ∀ ys : List Str, (∀ y ∈ ys, PyData.strOk y = true) → PyData.strOk (Str.join s ys) = true
  | [], _ => ok_empty
  | [x], h => h x List.mem_cons_self
  | x :: y :: r, h => ok_app (ok_app (h x List.mem_cons_self) hs) (ok_join hs (y :: r) fun z m => h z (List.mem_cons_of_mem _ m))
def Tx.len (t : Tx) : Nat := t.1.length
def tW (w : Wd) : Tx := ⟨w.val, w.ok⟩
def tS (s : String) : Tx := ⟨Str.ofString s, ok_of s⟩
def tZ : Tx := ⟨Str.empty, ok_empty⟩
instance : Inhabited Tx := ⟨tZ⟩
def tI (i : Int) : Tx := ⟨Str.ofString (toString i), ok_of _⟩
def tApp (a b : Tx) : Tx := ⟨a.1 ++ b.1, ok_app a.2 b.2⟩
def tRep (t : Tx) (k : Int) : Tx := if k = 1 then t else tZ
def tJoin (s : Tx) (ys : List Tx) : Tx := ⟨Str.join s.1 (ys.map (·.1)), ok_join s.2 _ fun y m => by
  obtain ⟨t, _, rfl⟩ := List.mem_map.mp m
  exact t.2⟩
theorem len_app (a b : Tx) : (tApp a b).len = a.len + b.len := Str.length_append _ _
instance : NR eX := ⟨fun _ _ => rfl⟩
instance : NN eX := ⟨fun _ _ _ => rfl⟩
instance : FitE eX := ⟨1, fun t => t.2⟩
instance pyE_x : PyE eX := ⟨0, fun t => PyData.str t.1, fun _ => rfl, fun t => t.2, fun _ => Nat.le_refl _, fun a b => by
  show (a.1 == b.1) = _
  rw [deq]
  by_cases h : a = b
  · subst h; simp
  · rw [decide_eq_false h, decide_eq_false fun z => h (Tx.ext z)], fun a => ⟨rfl, rfl⟩⟩
section
variable {F : Fr} {s s1 s2 : SEnv} {A B : ME} {α : Type} {i : Nat}
theorem q_w2t {w : Wd} (h : QX F s A (eW w) s1) : QX F s A (eX (tW w)) s1 := h
theorem o_addX (a b : Tx) (k : a.len + b.len ≤ 16777216) (h : Hh) : addO (eX a) (eX b) h = some (eX (tApp a b)) := by
  show (if a.1.length + b.1.length ≤ sizeLine then some (D.str (a.1 ++ b.1)) else none) = _
  exact if_pos k
theorem o_iaddX (a b : Tx) (k : a.len + b.len ≤ 16777216) (h : Hh) : iaddO (eX a) (eX b) h = some (eX (tApp a b)) := by
  show (if a.1.length + b.1.length ≤ sizeLine then some (D.str (a.1 ++ b.1)) else none) = _
  exact if_pos k
theorem o_mulX (a : Tx) (n : Int) (k : 0 ≤ n ∧ n ≤ 1) (h : Hh) : mulC (eX a) (.int n) h = some (eX (tRep a n)) := by
  show (if 0 ≤ n ∧ n ≤ 1 then some (D.str (if n = 1 then a.1 else Str.empty)) else none) = _
  rw [if_pos k]
  unfold tRep
  by_cases h1 : n = 1
  · rw [if_pos h1, if_pos h1]; rfl
  · rw [if_neg h1, if_neg h1]; rfl
theorem o_str (n : Int) (k : n.natAbs.log2 < 1920) (h : Hh) : str1O [.int n] h = some (eX (tI n)) := if_pos k
theorem o_isiX (t : Tx) (h : Hh) : isiO [eX t, .glb (.ty "str")] h = some (.bl true) := by
  show isiO [.str t.1, .glb (.ty "str")] h = _
  rw [ev_isi, ev_tyS]; show (kitB "str" "str").map D.bl = _; rw [kit_str.2.2.2.1]; rfl
/-! f-strings -/
theorem q_fmtX {t : Tx} (hA : QX F s A (eX t) s1) (k : t.len ≤ 16777216) : QX F s (eFmt A) (eX t) s1 := fun env h S => by
  obtain ⟨h1, e1, S1⟩ := hA env h S
  refine ⟨h1, ?_, S1⟩
  unfold eFmt
  rw [e1, bind_ok]
  show lift (if t.1.length ≤ sizeLine then some (D.str t.1) else none) h1 = _
  rw [if_pos (show t.1.length ≤ sizeLine from k)]; rfl
theorem q_fmtI {n : Int} (hA : QX F s A (.int n) s1) (k : n.natAbs.log2 < 1920) : QX F s (eFmt A) (eX (tI n)) s1 := fun env h S => by
  obtain ⟨h1, e1, S1⟩ := hA env h S
  refine ⟨h1, ?_, S1⟩
  unfold eFmt
  rw [e1, bind_ok]
  show lift (if n.natAbs.log2 < 1920 then some (D.str (toString n)) else none) h1 = _
  rw [if_pos k]; rfl
/-- the parts of an f-string -/
def QJ (F : Fr) (s : SEnv) (ms : List ME) (ts : List Tx) : Prop := ∀ acc : Tx, (∀ l r : List Tx, ts = l ++ r → acc.len + (l.map Tx.len).sum ≤ 16777216) → QX F s (eJs ms acc.1) (eX (ts.foldl tApp acc)) s
theorem qj_nil : QJ F s [] [] := fun acc k env h S => ⟨h, rfl, S⟩
theorem qj_cons {t : Tx} {ms : List ME} {ts : List Tx} (hA : QX F s A (eX t) s) (hj : QJ F s ms ts) : QJ F s (A :: ms) (t :: ts) := fun acc k env h S => by
  obtain ⟨h1, e1, S1⟩ := hA env h S
  have kk : (tApp acc t).len ≤ 16777216 := by
    have := k [t] ts rfl
    rw [len_app]; simpa using this
  obtain ⟨h2, e2, S2⟩ := hj (tApp acc t) (fun l r e => by
    have := k (t :: l) r (by rw [e]; rfl)
    rw [List.map_cons, List.sum_cons] at this
    rw [len_app]; omega) env h1 S1
  refine ⟨h2, ?_, S2⟩
  show ((A env h).bind fun d h1 => match d with
    | .str y => if (acc.1 ++ y).length ≤ sizeLine then eJs ms (acc.1 ++ y) env h1 else .stuck
    | _ => .stuck) = _
  rw [e1, bind_ok]
  show (if (acc.1 ++ t.1).length ≤ sizeLine then eJs ms (acc.1 ++ t.1) env h1 else .stuck) = _
  rw [if_pos (show (acc.1 ++ t.1).length ≤ sizeLine from kk)]
  exact e2
theorem q_joined {ms : List ME} {ts : List Tx} (hj : QJ F s ms ts) (k : (ts.map Tx.len).sum ≤ 16777216) : QX F s (eJoined ms) (eX (ts.foldl tApp tZ)) s := hj tZ fun l r e => by
  have : (ts.map Tx.len).sum = (l.map Tx.len).sum + (r.map Tx.len).sum := by rw [e, List.map_append, List.sum_append]
  have : tZ.len = 0 := rfl
  omega
/-! join -/
theorem strs_map (ys : List Tx) : strsOf (ys.map eX) = some (ys.map (·.1)) := by
  induction ys with
  | nil => rfl
  | cons y ys ih =>
    show (strsOf (ys.map eX)).map (y.1 :: ·) = _
    rw [ih]; rfl
theorem strs_mapW (ys : List Wd) : strsOf (ys.map eW) = some ((ys.map tW).map (·.1)) := by
  induction ys with
  | nil => rfl
  | cons y ys ih =>
    show (strsOf (ys.map eW)).map (y.val :: ·) = _
    rw [ih]; rfl
def JoinB (a : Tx) (ys : List Tx) : Prop := (ys.map Tx.len).sum + ys.length * a.len ≤ 16777216
theorem join_of {a : Tx} {ys : List Tx} {x : D} {h : Hh} {ds : List D} (e1 : seqD x h = some ds) (e2 : strsOf ds = some (ys.map (·.1))) (k : JoinB a ys) : joinO a.1 x h = some (eX (tJoin a ys)) := by
  unfold joinO
  rw [e1, Option.bind_some, e2, Option.bind_some]
  have e : ((ys.map (·.1)).map (·.length)).sum + (ys.map (·.1)).length * a.1.length = (ys.map Tx.len).sum + ys.length * a.len := by
    rw [List.map_map, List.length_map]; rfl
  rw [if_pos (by rw [e]; exact k)]
  unfold Txt.join
  rw [StrLaws.glued_eq_join]; rfl
theorem q_join {a : Tx} {ys : List Tx} {x : D} (hA : QX F s A (eX a) s1) (hB : QX F s1 B x s2) (hx : ∀ h, ∃ ds, seqD x h = some ds ∧ strsOf ds = some (ys.map (·.1))) (k : JoinB a ys) : QX F s (eJoin A B) (eX (tJoin a ys)) s2 := fun env h S => by
  obtain ⟨h1, e1, S1⟩ := hA env h S
  obtain ⟨h2, e2, S2⟩ := hB env h1 S1
  refine ⟨h2, ?_, S2⟩
  unfold eJoin
  rw [e1, bind_ok]
  show ((B env h1).bind fun x h2 => lift (joinO a.1 x h2) h2) = _
  rw [e2, bind_ok]
  obtain ⟨ds, z1, z2⟩ := hx h2
  rw [join_of z1 z2 k]; rfl
theorem sx_S (ys : List Tx) (h : Hh) : ∃ ds, seqD (eS eX ys) h = some ds ∧ strsOf ds = some (ys.map (·.1)) := ⟨_, rfl, strs_map ys⟩
theorem sx_L (ys : List Tx) (h : Hh) : ∃ ds, seqD (eL eX ys) h = some ds ∧ strsOf ds = some (ys.map (·.1)) := ⟨_, rfl, strs_map ys⟩
theorem sx_SW (ys : List Wd) (h : Hh) : ∃ ds, seqD (eS eW ys) h = some ds ∧ strsOf ds = some ((ys.map tW).map (·.1)) := ⟨_, rfl, strs_mapW ys⟩
theorem sx_LW (ys : List Wd) (h : Hh) : ∃ ds, seqD (eL eW ys) h = some ds ∧ strsOf ds = some ((ys.map tW).map (·.1)) := ⟨_, rfl, strs_mapW ys⟩
theorem q_joinO {a : Tx} {ys : List Tx} (hA : QX F s A (eX a) s1) (hx : Hs s1 i (oL eX ys)) (k : JoinB a ys) : QX F s (eJoin A (eSlot i)) (eX (tJoin a ys)) s1 := fun env h S => by
  obtain ⟨h1, e1, S1⟩ := hA env h S
  obtain ⟨p, e2, e3⟩ := S1.cell i _ hx
  refine ⟨h1, ?_, S1⟩
  unfold eJoin eSlot
  rw [e1, bind_ok]
  show (Res.bind (match env[i]? with | some (some d) => Res.ok d h1 | _ => .stuck) fun x h2 => lift (joinO a.1 x h2) h2) = _
  rw [e2]
  show lift (joinO a.1 (.ref p) h1) h1 = _
  have z1 : seqD (.ref p) h1 = some (ys.map eX) := by
    show (match h1[p]? with | some (O.lst xs) => some xs | _ => none) = _
    rw [e3]; rfl
  rw [join_of z1 (strs_map ys) k]; rfl
/-! a dict of texts of the module -/
theorem find_val (w : Wd) : ∀ tbl : List (Wd × Tx), ((tbl.map fun p => (p.1.val, p.2.1)).find? fun q => decide (q.1 = w.val)).map (fun q => D.str q.2) = (getG tbl w).map eX
  | [] => rfl
  | p :: tbl => by
    have ih := find_val w tbl
    unfold getG at ih ⊢
    rw [List.map_cons, List.find?_cons, List.find?_cons]
    by_cases h : p.1 = w
    · rw [show decide (p.1.val = w.val) = true from decide_eq_true (by rw [h]), show decide (p.1 = w) = true from decide_eq_true h]; rfl
    · rw [show decide (p.1.val = w.val) = false from decide_eq_false fun z => h (Wd.val_inj z), show decide (p.1 = w) = false from decide_eq_false h]; exact ih
theorem q_verb {w : Wd} {tbl : List (Str × Str)} {tw : List (Wd × Tx)} (hA : QX F s A (eW w) s1) (k : (getG tw w).isSome = true) (ht : tbl = tw.map fun p => (p.1.val, p.2.1)) : QX F s (eVerb tbl A) (eX ((getG tw w).getD default)) s1 := fun env h S => by
  obtain ⟨h1, e1, S1⟩ := hA env h S
  refine ⟨h1, ?_, S1⟩
  unfold eVerb
  rw [e1, bind_ok]
  show lift ((tbl.find? fun q => decide (q.1 = w.val)).map fun q => D.str q.2) h1 = _
  rw [ht, find_val]
  cases hg : getG tw w with
  | none => rw [hg] at k; cases k
  | some x => rfl
theorem getO_D {e : α → D} {l : List (Wd × α)} {h : Hh} {p : Nat} (hp : h[p]? = some (oD e l)) (j : Wd) : getO (.ref p) (eW j) h = some ((getG l j).map e) := by
  have f := dictOf_ref (kvs := mapD e l) hp
  unfold getO
  rw [f]
  show some (getG (mapD e l) (.inr j.val)) = _
  rw [get_map]
theorem q_dget2D {C : ME} {e : α → D} {l : List (Wd × α)} {j : Wd} {x : α} (hx : Hs s i (oD e l)) (hB : QX F s B (eW j) s) (hC : QX F s C (e x) s) : QX F s (eDGet2 (eSlot i) B C) (e ((getG l j).getD x)) s := fun env h S => by
  obtain ⟨p, e0, e00⟩ := S.cell i _ hx
  obtain ⟨h1, e1, S1⟩ := hB env h S
  obtain ⟨h2, e2, S2⟩ := hC env h1 S1
  obtain ⟨p', e3, e4⟩ := S2.cell i _ hx
  rw [e0] at e3
  cases e3
  refine ⟨h2, ?_, S2⟩
  have f1 := dictOf_ref (kvs := mapD e l) e00
  unfold eDGet2 eSlot
  rw [e0]
  show (if (dictOf (.ref p) h).isSome = true then _ else _) = _
  rw [f1, if_pos (show (some (mapD e l)).isSome = true from rfl), e1, bind_ok, e2, bind_ok, getO_D e4]
  cases getG l j <;> rfl
/-- what stands behind a deed's guest -/
def _root_.MR.Deed.tail : Deed → List (Option Int)
  | .ask _ _ l => [l]
  | _ => []
theorem o_tail (d : Deed) (h : Hh) : sliceO (eDd d) (some 2) none h = some (eS (eO D.int) d.tail) := by
  cases d <;> rfl
/-- str(None or a number) -/
def tO (o : Option Int) : Tx := match o with
  | none => tS "None"
  | some i => tI i
theorem o_strO (o : Option Int) (k : o.isSome = true → (o.getD default).natAbs.log2 < 1920) (h : Hh) : str1O [eO D.int o] h = some (eX (tO o)) := by
  cases o with
  | none => rfl
  | some i => exact if_pos (k rfl)
/-- a stroke for None -/
def eDash : Option Int → D := fun o => match o with
  | none => .str "-"
  | some i => .int i
def tD (o : Option Int) : Tx := match o with
  | none => tS "-"
  | some i => tI i
instance : NR eDash := ⟨fun a n => by cases a <;> rfl⟩
theorem q_fmtD {o : Option Int} (hA : QX F s A (eDash o) s1) (k : o.isSome = true → (o.getD default).natAbs.log2 < 1920) : QX F s (eFmt A) (eX (tD o)) s1 := by
  cases o with
  | none => exact q_fmtX (t := tS "-") hA (by decide +kernel)
  | some i => exact q_fmtI hA (k rfl)
section
variable {S L R X : Type} {k : Kf L R X} {E : S → SEnv} {b : MS} {c : Ctl S L R X}
theorem qs_dash {v : Option Int} (hx : s[i]? = some (some (Sl.v (eO D.int v)))) (hA : QX k.F s A (.str "-") s) (h2 : QS k (s.set i (some (.v (eDash v)))) b E c) : QS k s (sSeq (sIf (tE (eOp2 (isNO false) (eSlot i) (eC .non))) (sAsg A (gName i)) sNext) b) E c := fun env h Sx => by
  have e0 := Sx.val i _ hx
  cases v with
  | none =>
    obtain ⟨h1, e1, S1⟩ := hA env h Sx
    have := h2 _ _ (S1.setV i (.str "-"))
    have t : tE (eOp2 (isNO false) (eSlot i) (eC .non)) env h = .ok true h := by
      unfold tE eOp2 eSlot
      rw [e0]; rfl
    unfold sSeq sIf
    rw [t]
    show OutOk k E ((sAsg A (gName i) env h).seq b) c
    unfold sAsg
    rw [e1]
    exact this
  | some n =>
    have es : s.set i (some (.v (eDash (some n)))) = s := by
      have hi := (List.getElem?_eq_some_iff.mp hx)
      obtain ⟨hi, hv⟩ := hi
      apply List.ext_getElem?
      intro j
      rw [List.getElem?_set]
      split
      · rename_i hj
        subst hj
        first | (rw [if_pos hi, hx]; rfl) | (rw [hx]; rfl)
      · rfl
    rw [es] at h2
    have := h2 env h Sx
    have t : tE (eOp2 (isNO false) (eSlot i) (eC .non)) env h = .ok false h := by
      unfold tE eOp2 eSlot
      rw [e0]; rfl
    unfold sSeq sIf
    rw [t]
    exact this
end
end
end MR

section
set_option maxHeartbeats 4000000
namespace LK
open MR PySem PySem.Spec PyProof.Rows L2
def topS (i : Nat) : Stmt := PySem.Challenge.pw_manyreaders_k02_rooms_or_none.main.body.getD i (.Pass ⟨0, 0, 0, 0⟩)
abbrev c_PLACES : D := .tup [.str "out", .str "reads", .str "rising", .str "writes", .str "raised"]
abbrev c_WANTS : D := .tup [.str "read", .str "write"]
abbrev c_MOST_TICKS : D := .int 9
abbrev c_MOST_MARK : D := .int 999
/-! ### is_between -/
abbrev s_is_between : Stmt := topS 1
abbrev N_is_between : List Str := ["thing", "low", "high"]
theorem sc_is_between : FnScope N_is_between ["thing", "low", "high"] (defScope s_is_between) := ⟨rfl, rfl, rfl, by decide +kernel, rfl, by decide +kernel, by decide +kernel⟩
noncomputable def b_is_between : MS :=
 (sRet (eAnd (eOpN isiO (aCons (eSlot 0) (aCons (eC (.glb (.ty "int"))) aNil))) (eAnd (eNot (eOpN isiO (aCons (eSlot 0) (aCons (eC (.glb (.ty "bool"))) aNil)))) (eChain leO leO (eSlot 1) (eSlot 0) (eSlot 2)))))
noncomputable def F_is_between : MF := runF 3 N_is_between b_is_between
/-! ### is_one_of -/
abbrev s_is_one_of : Stmt := topS 7
abbrev N_is_one_of : List Str := ["thing", "words"]
theorem sc_is_one_of : FnScope N_is_one_of ["thing", "words"] (defScope s_is_one_of) := ⟨rfl, rfl, rfl, by decide +kernel, rfl, by decide +kernel, by decide +kernel⟩
noncomputable def b_is_one_of : MS :=
 (sRet (eAnd (eOpN isiO (aCons (eSlot 0) (aCons (eC (.glb (.ty "str"))) aNil))) (eOp2 (inO false) (eSlot 0) (eSlot 1))))
noncomputable def F_is_one_of : MF := runF 2 N_is_one_of b_is_one_of
/-! ### is_left -/
abbrev s_is_left : Stmt := topS 8
abbrev N_is_left : List Str := ["thing"]
theorem sc_is_left : FnScope N_is_left ["thing"] (defScope s_is_left) := ⟨rfl, rfl, rfl, by decide +kernel, rfl, by decide +kernel, by decide +kernel⟩
noncomputable def b_is_left : MS :=
 (sRet (eOr (eOp2 (isNO false) (eSlot 0) (eC .non)) (eCall F_is_between (aCons (eSlot 0) (aCons (eC (.int 1)) (aCons (eC c_MOST_TICKS) aNil))))))
noncomputable def F_is_left : MF := runF 1 N_is_left b_is_left
/-! ### is_entry -/
abbrev s_is_entry : Stmt := topS 9
abbrev N_is_entry : List Str := ["n", "thing", "guest", "want", "mark", "left"]
theorem sc_is_entry : FnScope N_is_entry ["n", "thing"] (defScope s_is_entry) := ⟨rfl, rfl, rfl, by decide +kernel, rfl, by decide +kernel, by decide +kernel⟩
noncomputable def b_is_entry : MS :=
 (sSeq (sIf (tOr (tNot (tE (eOpN isiO (aCons (eSlot 1) (aCons (eC (.glb (.ty "tuple"))) aNil))))) (tE (eOp2 neO (eOpN lenO (aCons (eSlot 1) aNil)) (eC (.int 4))))) (sRet (eC (.bl false))) sNext)
 (sSeq (sAsg (eSlot 1) (gTup 4 (gCons (gName 2) (gCons (gName 3) (gCons (gName 4) (gCons (gName 5) gNil))))))
 (sSeq (sIf (tOr (tNot (tE (eCall F_is_between (aCons (eSlot 2) (aCons (eC (.int 0)) (aCons (eOp2 subO (eSlot 0) (eC (.int 1))) aNil)))))) (tNot (tE (eCall F_is_one_of (aCons (eSlot 3) (aCons (eC c_WANTS) aNil)))))) (sRet (eC (.bl false))) sNext)
 (sRet (eAnd (eCall F_is_between (aCons (eSlot 4) (aCons (eC (.int 0)) (aCons (eC c_MOST_MARK) aNil)))) (eCall F_is_left (aCons (eSlot 5) aNil)))))))
noncomputable def F_is_entry : MF := runF 2 N_is_entry b_is_entry
/-! ### are_waits -/
abbrev s_are_waits : Stmt := topS 10
abbrev N_are_waits : List Str := ["n", "within", "thing", "guests", "one", "guest"]
theorem sc_are_waits : FnScope N_are_waits ["n", "within", "thing"] (defScope s_are_waits) := ⟨rfl, rfl, rfl, by decide +kernel, rfl, by decide +kernel, by decide +kernel⟩
noncomputable def b_are_waits : MS :=
 (sSeq (sIf (tOr (tNot (tE (eOpN isiO (aCons (eSlot 2) (aCons (eC (.glb (.ty "tuple"))) aNil))))) (tNot (tE (eOpN allO (aCons (eFrz (aComp (iOf (eSlot 2)) (.name 4) (fun _ h => .ok true h) (eCall F_is_entry (aCons (eSlot 0) (aCons (eSlot 4) aNil))) [4])) aNil))))) (sRet (eC (.bl false))) sNext)
 (sSeq (sAsg (eFrz (aComp (iOf (eSlot 2)) (.name 4) (fun _ h => .ok true h) (eOp2 ixA (eSlot 4) (eC (.int 0))) [4])) (gName 3))
 (sRet (eAnd (eOp2 eqO (eLenSet (eSlot 3)) (eOpN lenO (aCons (eSlot 3) aNil))) (eOpN allO (aCons (eFrz (aComp (iOf (eSlot 3)) (.name 5) (fun _ h => .ok true h) (eOp2 eqO (eOp2 ixA (eSlot 1) (eSlot 5)) (eC (.str "out"))) [5])) aNil))))))
noncomputable def F_are_waits : MF := runF 3 N_are_waits b_are_waits
/-! ### is_room -/
abbrev s_is_room : Stmt := topS 11
abbrev N_is_room : List Str := ["n", "thing", "place"]
theorem sc_is_room : FnScope N_is_room ["n", "thing"] (defScope s_is_room) := ⟨rfl, rfl, rfl, by decide +kernel, rfl, by decide +kernel, by decide +kernel⟩
noncomputable def b_is_room : MS :=
 (sSeq (sIf (tOr (tNot (tE (eOpN isiO (aCons (eSlot 1) (aCons (eC (.glb (.ty "tuple"))) aNil))))) (tOr (tE (eOp2 neO (eOpN lenO (aCons (eSlot 1) aNil)) (eC (.int 2)))) (tOr (tNot (tE (eOpN isiO (aCons (eOp2 ixA (eSlot 1) (eC (.int 0))) (aCons (eC (.glb (.ty "tuple"))) aNil))))) (tE (eOp2 neO (eOpN lenO (aCons (eOp2 ixA (eSlot 1) (eC (.int 0))) aNil)) (eSlot 0)))))) (sRet (eC (.bl false))) sNext)
 (sRet (eAnd (eOpN allO (aCons (eFrz (aComp (iOf (eOp2 ixA (eSlot 1) (eC (.int 0)))) (.name 2) (fun _ h => .ok true h) (eCall F_is_one_of (aCons (eSlot 2) (aCons (eC c_PLACES) aNil))) [2])) aNil)) (eCall F_are_waits (aCons (eSlot 0) (aCons (eOp2 ixA (eSlot 1) (eC (.int 0))) (aCons (eOp2 ixA (eSlot 1) (eC (.int 1))) aNil)))))))
noncomputable def F_is_room : MF := runF 2 N_is_room b_is_room
/-! ### empty -/
abbrev s_empty : Stmt := topS 12
abbrev N_empty : List Str := ["n"]
theorem sc_empty : FnScope N_empty ["n"] (defScope s_empty) := ⟨rfl, rfl, rfl, by decide +kernel, rfl, by decide +kernel, by decide +kernel⟩
noncomputable def b_empty : MS :=
 (sRet (eTup (aCons (eOp2 mulB (eTup (aCons (eC (.str "out")) aNil)) (eSlot 0)) (aCons (eTup aNil) aNil))))
noncomputable def F_empty : MF := frzF (runF 1 N_empty b_empty)
/-! ### _law_cell_at -/
abbrev s__law_cell_at : Stmt := topS 14
abbrev N__law_cell_at : List Str := ["_law_script", "_law_k"]
theorem sc__law_cell_at : FnScope N__law_cell_at ["_law_script", "_law_k"] (defScope s__law_cell_at) := ⟨rfl, rfl, rfl, by decide +kernel, rfl, by decide +kernel, by decide +kernel⟩
noncomputable def b__law_cell_at : MS :=
 (sSeq (sIf (tE (eOp2 ltO (eSlot 1) (eOpN lenO (aCons (eSlot 0) aNil)))) (sRet (eOp2 ixA (eSlot 0) (eSlot 1))) sNext)
 (sRet (eC (.int 0))))
noncomputable def F__law_cell_at : MF := runF 2 N__law_cell_at b__law_cell_at
/-! ### _law_far -/
abbrev s__law_far : Stmt := topS 16
abbrev N__law_far : List Str := ["_law_far_here", "_law_k"]
theorem sc__law_far : FnScope N__law_far [] (defScope s__law_far) := ⟨rfl, rfl, rfl, by decide +kernel, rfl, by decide +kernel, by decide +kernel⟩
noncomputable def L__law_far_0 : MS :=
 (sAsg (eOp2 mulB (eSlot 0) (eOp2 powO (eC (.int 10)) (eC (.int 60)))) (gName 0))
noncomputable def b__law_far : MS :=
 (sSeq (sAsg (eC (.int 1)) (gName 0))
 (sSeq (sFor (iA rng1 (aCons (eC (.int 10)) aNil)) (.name 1) L__law_far_0)
 (sRet (eSlot 0))))
noncomputable def F__law_far : MF := runF 0 N__law_far b__law_far
/-! ### _law_left -/
abbrev s__law_left : Stmt := topS 15
abbrev N__law_left : List Str := ["_law_script", "_law_k", "_law_cell", "_law_seed"]
theorem sc__law_left : FnScope N__law_left ["_law_script", "_law_k"] (defScope s__law_left) := ⟨rfl, rfl, rfl, by decide +kernel, rfl, by decide +kernel, by decide +kernel⟩
noncomputable def b__law_left : MS :=
 (sSeq (sAsg (eCall F__law_cell_at (aCons (eSlot 0) (aCons (eOp2 modO (eSlot 1) (eOpN max2O (aCons (eC (.int 1)) (aCons (eOpN lenO (aCons (eSlot 0) aNil)) aNil)))) aNil))) (gName 2))
 (sSeq (sAsg (eOp2 modO (eOp2 mulB (eOp2 addO (eOp2 addO (eOp2 modO (eSlot 2) (eC (.int 2147483629))) (eOp2 mulB (eOp2 mulB (eC (.int 7919)) (eSlot 1)) (eSlot 1))) (eC (.int 11))) (eC (.int 48271))) (eC (.int 2147483647))) (gName 3))
 (sSeq (sAsg (eOp2 modO (eOp2 addO (eOp2 addO (eOp2 mulB (eSlot 3) (eC (.int 39373))) (eOp2 mulB (eC (.int 7)) (eSlot 1))) (eC (.int 1))) (eC (.int 2147483629))) (gName 3))
 (sSeq (sIf (tE (eOp2 ltO (eSlot 2) (eOp2 powO (eC (.int 10)) (eC (.int 18))))) (sAsg (eC (.int 0)) (gName 2)) sNext)
 (sRet (eNew (aCons (eOp2 modO (eSlot 2) (eCall F__law_far aNil)) (aCons (eSlot 3) (aCons (eC (.int 0)) aNil)))))))))
noncomputable def F__law_left : MF := runF 2 N__law_left b__law_left
/-! ### _law_pick -/
abbrev s__law_pick : Stmt := topS 17
abbrev N__law_pick : List Str := ["_law_left_here", "_law_many", "_law_digit"]
theorem sc__law_pick : FnScope N__law_pick ["_law_left_here", "_law_many"] (defScope s__law_pick) := ⟨rfl, rfl, rfl, by decide +kernel, rfl, by decide +kernel, by decide +kernel⟩
noncomputable def b__law_pick : MS :=
 (sSeq (sIf (tE (eOp2 gtO (eOp2 ixA (eSlot 0) (eC (.int 0))) (eC (.int 0)))) (sSeq (sAsg (eOp2 modO (eOp2 ixA (eSlot 0) (eC (.int 0))) (eSlot 1)) (gName 2))
 (sSeq (sAsg (eOp2 fdivO (eOp2 ixA (eSlot 0) (eC (.int 0))) (eSlot 1)) (gSubD (eSlot 0) (eC (.int 0)) setO))
 (sRet (eSlot 2)))) sNext)
 (sSeq (sAsg (eOp2 addO (eOp2 ixA (eSlot 0) (eC (.int 2))) (eC (.int 1))) (gSubD (eSlot 0) (eC (.int 2)) setO))
 (sSeq (sAsg (eOp2 modO (eOp2 addO (eOp2 addO (eOp2 mulB (eOp2 ixA (eSlot 0) (eC (.int 1))) (eC (.int 48271))) (eC (.int 12345))) (eOp2 mulB (eC (.int 7)) (eOp2 ixA (eSlot 0) (eC (.int 2))))) (eC (.int 2147483647))) (gSubD (eSlot 0) (eC (.int 1)) setO))
 (sRet (eOp2 modO (eOp2 fdivO (eOp2 modO (eOp2 mulB (eOp2 ixA (eSlot 0) (eC (.int 1))) (eOp2 ixA (eSlot 0) (eC (.int 1)))) (eC (.int 1999999973))) (eC (.int 64))) (eSlot 1))))))
noncomputable def F__law_pick : MF := runF 2 N__law_pick b__law_pick
/-! ### _law_whole -/
abbrev s__law_whole : Stmt := topS 18
abbrev N__law_whole : List Str := ["_law_thing"]
theorem sc__law_whole : FnScope N__law_whole ["_law_thing"] (defScope s__law_whole) := ⟨rfl, rfl, rfl, by decide +kernel, rfl, by decide +kernel, by decide +kernel⟩
noncomputable def b__law_whole : MS :=
 (sRet (eAnd (eOpN isiO (aCons (eSlot 0) (aCons (eC (.glb (.ty "int"))) aNil))) (eNot (eOpN isiO (aCons (eSlot 0) (aCons (eC (.glb (.ty "bool"))) aNil))))))
noncomputable def F__law_whole : MF := runF 1 N__law_whole b__law_whole
/-! ### _law_right -/
abbrev s__law_right : Stmt := topS 19
abbrev N__law_right : List Str := ["_law_told", "_law_due"]
theorem sc__law_right : FnScope N__law_right ["_law_told", "_law_due"] (defScope s__law_right) := ⟨rfl, rfl, rfl, by decide +kernel, rfl, by decide +kernel, by decide +kernel⟩
noncomputable def b__law_right : MS :=
 (sRet (eAnd (eOpN isiO (aCons (eSlot 0) (aCons (eC (.glb (.ty "bool"))) aNil))) (eOp2 eqO (eSlot 0) (eSlot 1))))
noncomputable def F__law_right : MF := runF 2 N__law_right b__law_right
/-! ### _law_any_room -/
abbrev s__law_any_room : Stmt := topS 20
abbrev N__law_any_room : List Str := ["_law_left_here", "_law_n", "_law_words", "_law_within", "_law_waits", "_law_guest", "_law_mark", "_law_rest", "_law_entry_here"]
theorem sc__law_any_room : FnScope N__law_any_room ["_law_left_here", "_law_n"] (defScope s__law_any_room) := ⟨rfl, rfl, rfl, by decide +kernel, rfl, by decide +kernel, by decide +kernel⟩
noncomputable def L__law_any_room_0 : MS :=
 (sIf (tAnd (tE (eOp2 eqO (eOp2 ixA (eSlot 3) (eSlot 5)) (eC (.str "out")))) (tE (eOp2 gtO (eCall F__law_pick (aCons (eSlot 0) (aCons (eC (.int 3)) aNil))) (eC (.int 0))))) (sSeq (sAsg (eOp2 ixA (eFrz (aCons (eC (.int 0)) (aCons (eC (.int 0)) (aCons (eC (.int 1)) (aCons (eC (.int 2)) (aCons (eC (.int 9)) (aCons (eC (.int 999)) aNil))))))) (eCall F__law_pick (aCons (eSlot 0) (aCons (eC (.int 6)) aNil)))) (gName 6))
 (sSeq (sAsg (eOp2 ixA (eFrz (aCons (eC .non) (aCons (eC .non) (aCons (eC (.int 1)) (aCons (eC (.int 2)) (aCons (eC (.int 9)) aNil)))))) (eCall F__law_pick (aCons (eSlot 0) (aCons (eC (.int 5)) aNil)))) (gName 7))
 (sSeq (sAsg (eTup (aCons (eSlot 5) (aCons (eOp2 ixA (eFrz (aCons (eC (.str "read")) (aCons (eC (.str "write")) aNil))) (eCall F__law_pick (aCons (eSlot 0) (aCons (eC (.int 2)) aNil)))) (aCons (eSlot 6) (aCons (eSlot 7) aNil))))) (gName 8))
 (sDrop (eMeth isL insertO (eSlot 4) (aCons (eCall F__law_pick (aCons (eSlot 0) (aCons (eOp2 addO (eOpN lenO (aCons (eSlot 4) aNil)) (eC (.int 1))) aNil))) (aCons (eSlot 8) aNil))))))) sNext)
noncomputable def b__law_any_room : MS :=
 (sSeq (sAsg (eFrz (aCons (eC (.str "out")) (aCons (eC (.str "out")) (aCons (eC (.str "out")) (aCons (eC (.str "reads")) (aCons (eC (.str "reads")) (aCons (eC (.str "rising")) (aCons (eC (.str "writes")) (aCons (eC (.str "raised")) aNil))))))))) (gName 2))
 (sSeq (sAsg (eOpN tupleO (aCons (eFrz (aComp (iA rng1 (aCons (eSlot 1) aNil)) (.name 5) (fun _ h => .ok true h) (eOp2 ixA (eSlot 2) (eCall F__law_pick (aCons (eSlot 0) (aCons (eC (.int 8)) aNil)))) [5])) aNil)) (gName 3))
 (sSeq (sAsg (eNew aNil) (gName 4))
 (sSeq (sFor (iA rng1 (aCons (eSlot 1) aNil)) (.name 5) L__law_any_room_0)
 (sRet (eTup (aCons (eSlot 3) (aCons (eOpN tupleO (aCons (eSlot 4) aNil)) aNil))))))))
noncomputable def F__law_any_room : MF := dropF (runF 2 N__law_any_room b__law_any_room)
/-! ### _law_entry -/
abbrev s__law_entry : Stmt := topS 21
abbrev N__law_entry : List Str := ["_law_n", "_law_thing"]
theorem sc__law_entry : FnScope N__law_entry ["_law_n", "_law_thing"] (defScope s__law_entry) := ⟨rfl, rfl, rfl, by decide +kernel, rfl, by decide +kernel, by decide +kernel⟩
noncomputable def b__law_entry : MS :=
 (sSeq (sIf (tOr (tNot (tE (eOpN isiO (aCons (eSlot 1) (aCons (eC (.glb (.ty "tuple"))) aNil))))) (tOr (tE (eOp2 neO (eOpN lenO (aCons (eSlot 1) aNil)) (eC (.int 4)))) (tNot (tE (eCall F__law_whole (aCons (eOp2 ixA (eSlot 1) (eC (.int 0))) aNil)))))) (sRet (eC (.bl false))) sNext)
 (sSeq (sIf (tOr (tNot (tE (eOpN isiO (aCons (eOp2 ixA (eSlot 1) (eC (.int 1))) (aCons (eC (.glb (.ty "str"))) aNil))))) (tE (eOp2 (inO true) (eOp2 ixA (eSlot 1) (eC (.int 1))) (eTup (aCons (eC (.str "read")) (aCons (eC (.str "write")) aNil)))))) (sRet (eC (.bl false))) sNext)
 (sSeq (sIf (tOr (tNot (tE (eCall F__law_whole (aCons (eOp2 ixA (eSlot 1) (eC (.int 2))) aNil)))) (tNot (tE (eChain leO ltO (eC (.int 0)) (eOp2 ixA (eSlot 1) (eC (.int 2))) (eC (.int 1000)))))) (sRet (eC (.bl false))) sNext)
 (sSeq (sIf (tNot (tE (eChain leO ltO (eC (.int 0)) (eOp2 ixA (eSlot 1) (eC (.int 0))) (eSlot 0)))) (sRet (eC (.bl false))) sNext)
 (sRet (eOr (eOp2 (isNO false) (eOp2 ixA (eSlot 1) (eC (.int 3))) (eC .non)) (eAnd (eCall F__law_whole (aCons (eOp2 ixA (eSlot 1) (eC (.int 3))) aNil)) (eChain ltO ltO (eC (.int 0)) (eOp2 ixA (eSlot 1) (eC (.int 3))) (eC (.int 10))))))))))
noncomputable def F__law_entry : MF := runF 2 N__law_entry b__law_entry
/-! ### _law_fine -/
abbrev s__law_fine : Stmt := topS 22
abbrev N__law_fine : List Str := ["_law_n", "_law_thing", "_law_within", "_law_waits", "_law_word", "_law_guests", "_law_entry_here", "_law_guest"]
theorem sc__law_fine : FnScope N__law_fine ["_law_n", "_law_thing"] (defScope s__law_fine) := ⟨rfl, rfl, rfl, by decide +kernel, rfl, by decide +kernel, by decide +kernel⟩
noncomputable def L__law_fine_0 : MS :=
 (sIf (tOr (tNot (tE (eOpN isiO (aCons (eSlot 4) (aCons (eC (.glb (.ty "str"))) aNil))))) (tE (eOp2 (inO true) (eSlot 4) (eTup (aCons (eC (.str "out")) (aCons (eC (.str "reads")) (aCons (eC (.str "rising")) (aCons (eC (.str "writes")) (aCons (eC (.str "raised")) aNil))))))))) (sRet (eC (.bl false))) sNext)
noncomputable def b__law_fine : MS :=
 (sSeq (sIf (tOr (tNot (tE (eOpN isiO (aCons (eSlot 1) (aCons (eC (.glb (.ty "tuple"))) aNil))))) (tE (eOp2 neO (eOpN lenO (aCons (eSlot 1) aNil)) (eC (.int 2))))) (sRet (eC (.bl false))) sNext)
 (sSeq (sAsg (eSlot 1) (gTup 2 (gCons (gName 2) (gCons (gName 3) gNil))))
 (sSeq (sIf (tOr (tNot (tE (eOpN isiO (aCons (eSlot 2) (aCons (eC (.glb (.ty "tuple"))) aNil))))) (tOr (tE (eOp2 neO (eOpN lenO (aCons (eSlot 2) aNil)) (eSlot 0))) (tNot (tE (eOpN isiO (aCons (eSlot 3) (aCons (eC (.glb (.ty "tuple"))) aNil))))))) (sRet (eC (.bl false))) sNext)
 (sSeq (sFor (iOf (eSlot 2)) (.name 4) L__law_fine_0)
 (sSeq (sIf (tNot (tE (eOpN allO (aCons (eFrz (aComp (iOf (eSlot 3)) (.name 6) (fun _ h => .ok true h) (eCall F__law_entry (aCons (eSlot 0) (aCons (eSlot 6) aNil))) [6])) aNil)))) (sRet (eC (.bl false))) sNext)
 (sSeq (sAsg (eOpN sortO (aCons (eFrz (aComp (iOf (eSlot 3)) (.name 6) (fun _ h => .ok true h) (eOp2 ixA (eSlot 6) (eC (.int 0))) [6])) aNil)) (gName 5))
 (sRet (eOp2 eqO (eSlot 5) (eFrz (aComp (iA rng1 (aCons (eSlot 0) aNil)) (.name 7) (tAnd (tE (eOp2 (inO false) (eSlot 7) (eSlot 5))) (tE (eOp2 eqO (eOp2 ixA (eSlot 2) (eSlot 7)) (eC (.str "out"))))) (eSlot 7) [7]))))))))))
noncomputable def F__law_fine : MF := runF 2 N__law_fine b__law_fine
/-! ### _law_spoilt -/
abbrev s__law_spoilt : Stmt := topS 23
abbrev N__law_spoilt : List Str := ["_law_left_here", "_law_room", "_law_within", "_law_waits", "_law_some", "_law_odd", "_law_way", "_law_at", "_law_ways", "_law_entry_here", "_law_spot", "_law_bent"]
theorem sc__law_spoilt : FnScope N__law_spoilt ["_law_left_here", "_law_room"] (defScope s__law_spoilt) := ⟨rfl, rfl, rfl, by decide +kernel, rfl, by decide +kernel, by decide +kernel⟩
noncomputable def b__law_spoilt : MS :=
 (sSeq (sAsg (eSlot 1) (gTup 2 (gCons (gName 2) (gCons (gName 3) gNil))))
 (sSeq (sAsg (eFrz (aCons (eC .non) (aCons (eC (.bl true)) (aCons (eC (.bl false)) (aCons (eC (.int 0)) (aCons (eC (.int 1)) (aCons (eNeg (eC (.int 1))) (aCons (eC (.int 9)) (aCons (eC (.int 10)) (aCons (eC (.int 5)) (aCons (eC (.int 1000)) (aCons (eC (.str "")) (aCons (eC (.str "out")) (aCons (eC (.str "reads")) (aCons (eC (.str "Out")) (aCons (eC (.str "read")) (aCons (eC (.str "write")) aNil))))))))))))))))) (gName 4))
 (sSeq (sAsg (eOp2 addO (eSlot 4) (eFrz (aCons (eC (.str "up")) (aCons (eC (.str "writes")) (aCons (eTup aNil) (aCons (eFrz aNil) aNil)))))) (gName 4))
 (sSeq (sAsg (eOp2 ixA (eSlot 4) (eCall F__law_pick (aCons (eSlot 0) (aCons (eC (.int 20)) aNil)))) (gName 5))
 (sSeq (sAsg (eCall F__law_pick (aCons (eSlot 0) (aCons (eC (.int 10)) aNil))) (gName 6))
 (sSeq (sAsg (eCall F__law_pick (aCons (eSlot 0) (aCons (eOpN lenO (aCons (eSlot 2) aNil)) aNil))) (gName 7))
 (sSeq (sIf (tE (eOp2 ltO (eSlot 6) (eC (.int 3)))) (sRet (eTup (aCons (eOp2 addO (eOp2 addO (eSlice (eSlot 2) oNone (oSome (eSlot 7))) (eTup (aCons (eSlot 5) aNil))) (eSlice (eSlot 2) (oSome (eOp2 addO (eSlot 7) (eC (.int 1)))) oNone)) (aCons (eSlot 3) aNil)))) sNext)
 (sSeq (sIf (tE (eOp2 eqO (eSlot 6) (eC (.int 3)))) (sSeq (sAsg (eFrz (aCons (eTup (aCons (eSlot 2) aNil)) (aCons (eTup (aCons (eSlot 3) (aCons (eSlot 2) aNil))) (aCons (eTup (aCons (eFrz (aSeq (eSlot 2))) (aCons (eSlot 3) aNil))) (aCons (eTup (aCons (eSlot 2) (aCons (eFrz (aSeq (eSlot 3))) aNil))) (aCons (eFrz (aSeq (eSlot 1))) aNil)))))) (gName 8))
 (sRet (eOp2 ixA (eSlot 8) (eCall F__law_pick (aCons (eSlot 0) (aCons (eC (.int 5)) aNil)))))) sNext)
 (sSeq (sIf (tOr (tE (eOp2 eqO (eSlot 6) (eC (.int 4)))) (tE (eOp2 eqO (eSlot 3) (eTup aNil)))) (sSeq (sAsg (eFrz (aCons (eTup (aCons (eSlot 2) (aCons (eOp2 addO (eSlot 3) (eSlice (eSlot 3) oNone (oSome (eC (.int 1))))) aNil))) (aCons (eTup (aCons (eOp2 addO (eSlot 2) (eTup (aCons (eC (.str "out")) aNil))) (aCons (eSlot 3) aNil))) (aCons (eTup (aCons (eSlice (eSlot 2) oNone (oSome (eNeg (eC (.int 1))))) (aCons (eSlot 3) aNil))) aNil)))) (gName 8))
 (sRet (eOp2 ixA (eSlot 8) (eCall F__law_pick (aCons (eSlot 0) (aCons (eC (.int 3)) aNil)))))) sNext)
 (sSeq (sAsg (eCall F__law_pick (aCons (eSlot 0) (aCons (eOpN lenO (aCons (eSlot 3) aNil)) aNil))) (gName 7))
 (sSeq (sAsg (eOp2 ixA (eSlot 3) (eSlot 7)) (gName 9))
 (sSeq (sAsg (eCall F__law_pick (aCons (eSlot 0) (aCons (eC (.int 4)) aNil))) (gName 10))
 (sSeq (sAsg (eOp2 addO (eOp2 addO (eSlice (eSlot 9) oNone (oSome (eSlot 10))) (eTup (aCons (eSlot 5) aNil))) (eSlice (eSlot 9) (oSome (eOp2 addO (eSlot 10) (eC (.int 1)))) oNone)) (gName 11))
 (sSeq (sIf (tE (eOp2 eqO (eSlot 6) (eC (.int 5)))) (sAsg (eOp2 ixA (eFrz (aCons (eFrz (aSeq (eSlot 9))) (aCons (eSlice (eSlot 9) oNone (oSome (eC (.int 3)))) (aCons (eOp2 addO (eSlot 9) (eTup (aCons (eC (.int 0)) aNil))) (aCons (eOp2 addO (eTup (aCons (eOpN lenO (aCons (eSlot 2) aNil)) aNil)) (eSlice (eSlot 9) (oSome (eC (.int 1))) oNone)) aNil))))) (eCall F__law_pick (aCons (eSlot 0) (aCons (eC (.int 4)) aNil)))) (gName 11)) sNext)
 (sRet (eTup (aCons (eSlot 2) (aCons (eOp2 addO (eOp2 addO (eSlice (eSlot 3) oNone (oSome (eSlot 7))) (eTup (aCons (eSlot 11) aNil))) (eSlice (eSlot 3) (oSome (eOp2 addO (eSlot 7) (eC (.int 1)))) oNone)) aNil))))))))))))))))))
noncomputable def F__law_spoilt : MF := runF 2 N__law_spoilt b__law_spoilt
/-! ### law -/
abbrev s_law : Stmt := topS 24
abbrev N_law : List Str := ["_law_script", "_law_k", "_law_left_here", "_law_n", "_law_room", "_law_some", "_law_thing", "_law_many", "_law_things"]
theorem sc_law : FnScope N_law ["_law_script"] (defScope s_law) := ⟨rfl, rfl, rfl, by decide +kernel, rfl, by decide +kernel, by decide +kernel⟩
noncomputable def L_law_0 : MS :=
 (sIf (tNot (tE (eCall F__law_right (aCons (eCall F_is_room (aCons (eSlot 7) (aCons (eSlot 6) aNil))) (aCons (eCall F__law_fine (aCons (eSlot 7) (aCons (eSlot 6) aNil))) aNil))))) (sRet (eC (.bl false))) sNext)
noncomputable def L_law_1 : MS :=
 (sFor (iOf (eFrz (aCons (eSlot 3) (aCons (eOpN max2O (aCons (eC (.int 1)) (aCons (eOp2 subO (eSlot 3) (eC (.int 1))) aNil))) (aCons (eOpN min2O (aCons (eC (.int 5)) (aCons (eOp2 addO (eSlot 3) (eC (.int 1))) aNil))) aNil))))) (.name 7) L_law_0)
noncomputable def L_law_2 : MS :=
 (sIf (tE (eOp2 (isBO true) (eCall F_is_room (aCons (eSlot 3) (aCons (eSlot 6) aNil))) (eC (.bl false)))) (sRet (eC (.bl false))) sNext)
noncomputable def L_law_3 : MS :=
 (sSeq (sAsg (eCall F__law_left (aCons (eSlot 0) (aCons (eSlot 1) aNil))) (gName 2))
 (sSeq (sAsg (eOp2 addO (eC (.int 1)) (eCall F__law_pick (aCons (eSlot 2) (aCons (eC (.int 5)) aNil)))) (gName 3))
 (sSeq (sAsg (eCall F__law_any_room (aCons (eSlot 2) (aCons (eSlot 3) aNil))) (gName 4))
 (sSeq (sIf (tOr (tE (eOp2 (isBO true) (eCall F_is_room (aCons (eSlot 3) (aCons (eSlot 4) aNil))) (eC (.bl true)))) (tE (eOp2 (isBO true) (eCall F_is_room (aCons (eSlot 3) (aCons (eCall F_empty (aCons (eSlot 3) aNil)) aNil))) (eC (.bl true))))) (sRet (eC (.bl false))) sNext)
 (sSeq (sAsg (eFrz (aCons (eSlot 4) (aCons (eCall F__law_spoilt (aCons (eSlot 2) (aCons (eSlot 4) aNil))) (aCons (eCall F__law_spoilt (aCons (eSlot 2) (aCons (eSlot 4) aNil))) (aCons (eCall F__law_spoilt (aCons (eSlot 2) (aCons (eSlot 4) aNil))) aNil))))) (gName 5))
 (sSeq (sFor (iOf (eSlot 5)) (.name 6) L_law_1)
 (sSeq (sAsg (eFrz (aCons (eC .non) (aCons (eC (.int 0)) (aCons (eC (.bl true)) (aCons (eC (.str "")) (aCons (eC (.str "room")) (aCons (eTup aNil) (aCons (eFrz aNil) (aCons (eDict0) (aCons (eTup (aCons (eTup aNil) (aCons (eTup aNil) aNil))) (aCons (eTup (aCons (eOp2 mulB (eTup (aCons (eC (.str "out")) aNil)) (eSlot 3)) aNil)) (aCons (eTup (aCons (eC (.str "out")) (aCons (eTup aNil) aNil))) aNil)))))))))))) (gName 8))
 (sFor (iOf (eOp2 addO (eSlot 8) (eFrz (aCons (eTup (aCons (eC .non) (aCons (eC .non) aNil))) aNil)))) (.name 6) L_law_2))))))))
noncomputable def b_law : MS :=
 (sSeq (sFor (iA rng1 (aCons (eOp2 addO (eC (.int 6)) (eOpN min2O (aCons (eC (.int 20)) (aCons (eOpN lenO (aCons (eSlot 0) aNil)) aNil)))) aNil)) (.name 1) L_law_3)
 (sRet (eC (.bl true))))
noncomputable def F_law : MF := runF 1 N_law b_law
/-! ### what the module holds -/
structure Txt (P : Program) (w : World) (K : PySem.W.Frag) (mg : Str → Option Value) where
  p_is_between : Fd K mg "is_between" s_is_between ["thing", "low", "high"]
  p_is_one_of : Fd K mg "is_one_of" s_is_one_of ["thing", "words"]
  p_is_left : Fd K mg "is_left" s_is_left ["thing"]
  p_is_entry : Fd K mg "is_entry" s_is_entry ["n", "thing"]
  p_are_waits : Fd K mg "are_waits" s_are_waits ["n", "within", "thing"]
  p_is_room : Fd K mg "is_room" s_is_room ["n", "thing"]
  p_empty : Fd K mg "empty" s_empty ["n"]
  p__law_cell_at : Fd K mg "_law_cell_at" s__law_cell_at ["_law_script", "_law_k"]
  p__law_far : Fd K mg "_law_far" s__law_far []
  p__law_left : Fd K mg "_law_left" s__law_left ["_law_script", "_law_k"]
  p__law_pick : Fd K mg "_law_pick" s__law_pick ["_law_left_here", "_law_many"]
  p__law_whole : Fd K mg "_law_whole" s__law_whole ["_law_thing"]
  p__law_right : Fd K mg "_law_right" s__law_right ["_law_told", "_law_due"]
  p__law_any_room : Fd K mg "_law_any_room" s__law_any_room ["_law_left_here", "_law_n"]
  p__law_entry : Fd K mg "_law_entry" s__law_entry ["_law_n", "_law_thing"]
  p__law_fine : Fd K mg "_law_fine" s__law_fine ["_law_n", "_law_thing"]
  p__law_spoilt : Fd K mg "_law_spoilt" s__law_spoilt ["_law_left_here", "_law_room"]
  p_law : Fd K mg "law" s_law ["_law_script"]
  c_PLACES : Cn P w K mg "PLACES" c_PLACES
  c_WANTS : Cn P w K mg "WANTS" c_WANTS
  c_MOST_TICKS : Cn P w K mg "MOST_TICKS" c_MOST_TICKS
  c_MOST_MARK : Cn P w K mg "MOST_MARK" c_MOST_MARK
  n_all : mg "all" = none
  n_bool : mg "bool" = none
  n_int : mg "int" = none
  n_isinstance : mg "isinstance" = none
  n_len : mg "len" = none
  n_list : mg "list" = none
  n_max : mg "max" = none
  n_min : mg "min" = none
  n_range : mg "range" = none
  n_set : mg "set" = none
  n_sorted : mg "sorted" = none
  n_str : mg "str" = none
  n_tuple : mg "tuple" = none
section
variable {P : Program} {w : World} {K : PySem.W.Frag} {mg : Str → Option Value}
theorem ok_is_between {base : Heap} (T : Txt P w K mg) : FnD P w K mg base 1 T.p_is_between.f T.p_is_between.fd ["thing", "low", "high"] F_is_between := by
  refine (fn_ok T.p_is_between.F sc_is_between fun cdv A outer s H E hr => ?_)
  have nd := sc_is_between.nd
  have hu1 := hu_of hr
  have hu := hr.units
  have hu65 := hu65 hr
  have hp : PassesOwn _ _ _ (cxOf (L2.CX P w) P w K mg base N_is_between "is_between" (defScope s_is_between) T.p_is_between.f cdv A outer s H E).xe := passes_of rfl
  exact (ss_one (ds_ret (de_and (de_callB call_isiA rz_isi (by rfl) T.n_isinstance (by decide +kernel) (dan_cons (de_slot 0) (dan_cons (de_tyN (T := "int") (by rfl) T.n_int (by decide +kernel)) dan_nil)).da) (de_and (de_not (de_callB call_isiA rz_isi (by rfl) T.n_isinstance (by decide +kernel) (dan_cons (de_slot 0) (dan_cons (de_tyN (T := "bool") (by rfl) T.n_bool (by decide +kernel)) dan_nil)).da)) (de_one (de_chain op_le op_le rz_le rz_le (de_slot 1) (de_slot 0) (de_slot 2)))))))
theorem ok_is_one_of {base : Heap} (T : Txt P w K mg) : FnD P w K mg base 1 T.p_is_one_of.f T.p_is_one_of.fd ["thing", "words"] F_is_one_of := by
  refine (fn_ok T.p_is_one_of.F sc_is_one_of fun cdv A outer s H E hr => ?_)
  have nd := sc_is_one_of.nd
  have hu1 := hu_of hr
  have hu := hr.units
  have hu65 := hu65 hr
  have hp : PassesOwn _ _ _ (cxOf (L2.CX P w) P w K mg base N_is_one_of "is_one_of" (defScope s_is_one_of) T.p_is_one_of.f cdv A outer s H E).xe := passes_of rfl
  exact (ss_one (ds_ret (de_and (de_callB call_isiA rz_isi (by rfl) T.n_isinstance (by decide +kernel) (dan_cons (de_slot 0) (dan_cons (de_tyN (T := "str") (by rfl) T.n_str (by decide +kernel)) dan_nil)).da) (de_one (de_cmp (op_inDT hu65) (rz_in false) (de_slot 0) (de_slot 1) (by rfl))))))
theorem ok_is_left {base : Heap} (T : Txt P w K mg) : FnD P w K mg base 2 T.p_is_left.f T.p_is_left.fd ["thing"] F_is_left := by
  refine (fn_ok T.p_is_left.F sc_is_left fun cdv A outer s H E hr => ?_)
  have nd := sc_is_left.nd
  have hu1 := hu_of hr
  have hu := hr.units
  have hu65 := hu65 hr
  have hp : PassesOwn _ _ _ (cxOf (L2.CX P w) P w K mg base N_is_left "is_left" (defScope s_is_left) T.p_is_left.f cdv A outer s H E).xe := passes_of rfl
  exact (ss_one (ds_ret (de_or (de_cmp op_isN rz_isN (de_slot 0) de_non (nomark _)) (de_one (de_call (ok_is_between T) (hr.mono (by decide)) (by rfl) T.p_is_between.g T.p_is_between.F.kp T.p_is_between.b (dan_cons (de_slot 0) (dan_cons de_int (dan_cons (de_cn (by rfl) T.c_MOST_TICKS) dan_nil))))))))
theorem ok_is_entry {base : Heap} (T : Txt P w K mg) : FnD P w K mg base 3 T.p_is_entry.f T.p_is_entry.fd ["n", "thing"] F_is_entry := by
  refine (fn_ok T.p_is_entry.F sc_is_entry fun cdv A outer s H E hr => ?_)
  have nd := sc_is_entry.nd
  have hu1 := hu_of hr
  have hu := hr.units
  have hu65 := hu65 hr
  have hp : PassesOwn _ _ _ (cxOf (L2.CX P w) P w K mg base N_is_entry "is_entry" (defScope s_is_entry) T.p_is_entry.f cdv A outer s H E).xe := passes_of rfl
  exact (ss_cons (ds_if (dt_w (dw_or (dt_not (dt_val (de_callB call_isiA rz_isi (by rfl) T.n_isinstance (by decide +kernel) (dan_cons (de_slot 1) (dan_cons (de_tyN (T := "tuple") (by rfl) T.n_tuple (by decide +kernel)) dan_nil)).da))) (dw_or1 (dt_cmp (op_neD hu) rz_ne (de_callB call_lenA rz_len (by rfl) T.n_len PySem.boot_len (dan_cons (de_slot 1) dan_nil).da) de_int (nomark _))))) (ss_one (ds_ret de_bl)) ss_nil)
 (ss_cons (ds_asg (de_slot 1) (dg_tup rfl (dgs_cons (dg_name nd) (dgs_cons (dg_name nd) (dgs_cons (dg_name nd) (dgs_cons (dg_name nd) dgs_nil))))))
 (ss_cons (ds_if (dt_w (dw_or (dt_not (dt_val (de_call (ok_is_between T) (hr.mono (by decide)) (by rfl) T.p_is_between.g T.p_is_between.F.kp T.p_is_between.b (dan_cons (de_slot 2) (dan_cons de_int (dan_cons (de_op op_sub rz_sub (de_slot 0) de_int) dan_nil)))))) (dw_or1 (dt_not (dt_val (de_call (ok_is_one_of T) (hr.mono (by decide)) (by rfl) T.p_is_one_of.g T.p_is_one_of.F.kp T.p_is_one_of.b (dan_cons (de_slot 3) (dan_cons (de_cn (by rfl) T.c_WANTS) dan_nil)))))))) (ss_one (ds_ret de_bl)) ss_nil)
 (ss_one (ds_ret (de_and (de_call (ok_is_between T) (hr.mono (by decide)) (by rfl) T.p_is_between.g T.p_is_between.F.kp T.p_is_between.b (dan_cons (de_slot 4) (dan_cons de_int (dan_cons (de_cn (by rfl) T.c_MOST_MARK) dan_nil)))) (de_one (de_call (ok_is_left T) (hr.mono (by decide)) (by rfl) T.p_is_left.g T.p_is_left.F.kp T.p_is_left.b (dan_cons (de_slot 5) dan_nil)))))))))
theorem ok_are_waits {base : Heap} (T : Txt P w K mg) : FnD P w K mg base 4 T.p_are_waits.f T.p_are_waits.fd ["n", "within", "thing"] F_are_waits := by
  refine (fn_ok T.p_are_waits.F sc_are_waits fun cdv A outer s H E hr => ?_)
  have nd := sc_are_waits.nd
  have hu1 := hu_of hr
  have hu := hr.units
  have hu65 := hu65 hr
  have hp : PassesOwn _ _ _ (cxOf (L2.CX P w) P w K mg base N_are_waits "are_waits" (defScope s_are_waits) T.p_are_waits.f cdv A outer s H E).xe := passes_of rfl
  exact (ss_cons (ds_if (dt_w (dw_or (dt_not (dt_val (de_callB call_isiA rz_isi (by rfl) T.n_isinstance (by decide +kernel) (dan_cons (de_slot 2) (dan_cons (de_tyN (T := "tuple") (by rfl) T.n_tuple (by decide +kernel)) dan_nil)).da))) (dw_or1 (dt_not (dt_val (de_callB (cr_all rfl) rz_all (by rfl) T.n_all (by decide +kernel) (dan_cons (de_frz (dl_comp (own := [("one", 4)]) rfl nd (di_seq (de_slot 2)) (blkOk_by (N := N_are_waits) (sc := defScope s_are_waits) (by decide +kernel)) (fun _ _ _ _ _ => (dtg_name nd)) (fun _ _ _ _ _ => dts_nil) (fun _ _ _ _ _ => (de_call (ok_is_entry T) (hr.mono (by decide)) (by rfl) T.p_is_entry.g T.p_is_entry.F.kp T.p_is_entry.b (dan_cons (de_slot 0) (dan_cons (de_slot 4) dan_nil)))))) dan_nil).da)))))) (ss_one (ds_ret de_bl)) ss_nil)
 (ss_cons (ds_setComp (own := [("one", 4)]) (m := eFrz _) (i := 3) frz_of rfl nd rfl rfl (sw_true rfl rfl rfl (by decide +kernel)) (di_seq (de_slot 2)) (blkOk_by (N := N_are_waits) (sc := defScope s_are_waits) (by decide +kernel)) (fun _ _ _ _ _ => (dtg_name nd)) (fun _ _ _ _ _ => dts_nil) (fun _ _ _ _ _ => (de_ixA hu1 (de_slot 4) de_int)))
 (ss_one (ds_ret (de_and (de_cmp (op_eqD hu) rz_eq (de_lenSet rfl (by rfl) T.n_len (by rfl) T.n_set (de_slot 3)) (de_callB call_lenA rz_len (by rfl) T.n_len PySem.boot_len (dan_cons (de_slot 3) dan_nil).da) (nomark _)) (de_one (de_callB (cr_all rfl) rz_all (by rfl) T.n_all (by decide +kernel) (dan_cons (de_frz (dl_comp (own := [("guest", 5)]) rfl nd (di_seq (de_slot 3)) (blkOk_by (N := N_are_waits) (sc := defScope s_are_waits) (by decide +kernel)) (fun _ _ _ _ _ => (dtg_name nd)) (fun _ _ _ _ _ => dts_nil) (fun _ _ _ _ _ => (de_cmp (op_eqD hu) rz_eq (de_ixA hu1 (de_slot 1) (de_slot 5)) de_str (nomark _))))) dan_nil).da)))))))
theorem ok_is_room {base : Heap} (T : Txt P w K mg) : FnD P w K mg base 5 T.p_is_room.f T.p_is_room.fd ["n", "thing"] F_is_room := by
  refine (fn_ok T.p_is_room.F sc_is_room fun cdv A outer s H E hr => ?_)
  have nd := sc_is_room.nd
  have hu1 := hu_of hr
  have hu := hr.units
  have hu65 := hu65 hr
  have hp : PassesOwn _ _ _ (cxOf (L2.CX P w) P w K mg base N_is_room "is_room" (defScope s_is_room) T.p_is_room.f cdv A outer s H E).xe := passes_of rfl
  exact (ss_cons (ds_if (dt_w (dw_or (dt_not (dt_val (de_callB call_isiA rz_isi (by rfl) T.n_isinstance (by decide +kernel) (dan_cons (de_slot 1) (dan_cons (de_tyN (T := "tuple") (by rfl) T.n_tuple (by decide +kernel)) dan_nil)).da))) (dw_or (dt_cmp (op_neD hu) rz_ne (de_callB call_lenA rz_len (by rfl) T.n_len PySem.boot_len (dan_cons (de_slot 1) dan_nil).da) de_int (nomark _)) (dw_or (dt_not (dt_val (de_callB call_isiA rz_isi (by rfl) T.n_isinstance (by decide +kernel) (dan_cons (de_ixA hu1 (de_slot 1) de_int) (dan_cons (de_tyN (T := "tuple") (by rfl) T.n_tuple (by decide +kernel)) dan_nil)).da))) (dw_or1 (dt_cmp (op_neD hu) rz_ne (de_callB call_lenA rz_len (by rfl) T.n_len PySem.boot_len (dan_cons (de_ixA hu1 (de_slot 1) de_int) dan_nil).da) (de_slot 0) (nomark _))))))) (ss_one (ds_ret de_bl)) ss_nil)
 (ss_one (ds_ret (de_and (de_callB (cr_all rfl) rz_all (by rfl) T.n_all (by decide +kernel) (dan_cons (de_frz (dl_comp (own := [("place", 2)]) rfl nd (di_seq (de_ixA hu1 (de_slot 1) de_int)) (blkOk_by (N := N_is_room) (sc := defScope s_is_room) (by decide +kernel)) (fun _ _ _ _ _ => (dtg_name nd)) (fun _ _ _ _ _ => dts_nil) (fun _ _ _ _ _ => (de_call (ok_is_one_of T) (hr.mono (by decide)) (by rfl) T.p_is_one_of.g T.p_is_one_of.F.kp T.p_is_one_of.b (dan_cons (de_slot 2) (dan_cons (de_cn (by rfl) T.c_PLACES) dan_nil)))))) dan_nil).da) (de_one (de_call (ok_are_waits T) (hr.mono (by decide)) (by rfl) T.p_are_waits.g T.p_are_waits.F.kp T.p_are_waits.b (dan_cons (de_slot 0) (dan_cons (de_ixA hu1 (de_slot 1) de_int) (dan_cons (de_ixA hu1 (de_slot 1) de_int) dan_nil)))))))))
theorem ok_empty {base : Heap} (T : Txt P w K mg) : FnD P w K mg base 1 T.p_empty.f T.p_empty.fd ["n"] F_empty := by
  refine (fn_ok T.p_empty.F sc_empty fun cdv A outer s H E hr => ?_).frz
  have nd := sc_empty.nd
  have hu1 := hu_of hr
  have hu := hr.units
  have hu65 := hu65 hr
  have hp : PassesOwn _ _ _ (cxOf (L2.CX P w) P w K mg base N_empty "empty" (defScope s_empty) T.p_empty.f cdv A outer s H E).xe := passes_of rfl
  exact (ss_one (ds_ret (de_tup (dan_cons (de_op op_mulB rz_mulB (de_tup (dan_cons de_str dan_nil)) (de_slot 0)) (dan_cons (de_tup dan_nil) dan_nil)))))
theorem ok__law_cell_at {base : Heap} (T : Txt P w K mg) : FnD P w K mg base 1 T.p__law_cell_at.f T.p__law_cell_at.fd ["_law_script", "_law_k"] F__law_cell_at := by
  refine (fn_ok T.p__law_cell_at.F sc__law_cell_at fun cdv A outer s H E hr => ?_)
  have nd := sc__law_cell_at.nd
  have hu1 := hu_of hr
  have hu := hr.units
  have hu65 := hu65 hr
  have hp : PassesOwn _ _ _ (cxOf (L2.CX P w) P w K mg base N__law_cell_at "_law_cell_at" (defScope s__law_cell_at) T.p__law_cell_at.f cdv A outer s H E).xe := passes_of rfl
  exact (ss_cons (ds_if (dt_cmp op_lt rz_lt (de_slot 1) (de_callB call_lenA rz_len (by rfl) T.n_len PySem.boot_len (dan_cons (de_slot 0) dan_nil).da) (nomark _)) (ss_one (ds_ret (de_ixA hu1 (de_slot 0) (de_slot 1)))) ss_nil)
 (ss_one (ds_ret de_int)))
theorem ok__law_far {base : Heap} (T : Txt P w K mg) : FnD P w K mg base 1 T.p__law_far.f T.p__law_far.fd [] F__law_far := by
  refine (fn_ok T.p__law_far.F sc__law_far fun cdv A outer s H E hr => ?_)
  have nd := sc__law_far.nd
  have hu1 := hu_of hr
  have hu := hr.units
  have hu65 := hu65 hr
  have hp : PassesOwn _ _ _ (cxOf (L2.CX P w) P w K mg base N__law_far "_law_far" (defScope s__law_far) T.p__law_far.f cdv A outer s H E).xe := passes_of rfl
  exact (ss_cons (ds_set nd de_int)
 (ss_cons (ds_for hp rfl (di_range1 (by rfl) T.n_range (dan_cons de_int dan_nil).da) (dtg_name nd) (ss_one (ds_set nd (de_op op_mulB rz_mulB (de_slot 0) (de_op op_pow rz_pow de_int de_int)))))
 (ss_one (ds_ret (de_slot 0)))))
theorem ok__law_left {base : Heap} (T : Txt P w K mg) : FnD P w K mg base 2 T.p__law_left.f T.p__law_left.fd ["_law_script", "_law_k"] F__law_left := by
  refine (fn_ok T.p__law_left.F sc__law_left fun cdv A outer s H E hr => ?_)
  have nd := sc__law_left.nd
  have hu1 := hu_of hr
  have hu := hr.units
  have hu65 := hu65 hr
  have hp : PassesOwn _ _ _ (cxOf (L2.CX P w) P w K mg base N__law_left "_law_left" (defScope s__law_left) T.p__law_left.f cdv A outer s H E).xe := passes_of rfl
  exact (ss_cons (ds_set nd (de_call (ok__law_cell_at T) (hr.mono (by decide)) (by rfl) T.p__law_cell_at.g T.p__law_cell_at.F.kp T.p__law_cell_at.b (dan_cons (de_slot 0) (dan_cons (de_op op_mod rz_mod (de_slot 1) (de_callB (call_max2 rfl) rz_max2 (by rfl) T.n_max (by decide +kernel) (dan_cons de_int (dan_cons (de_callB call_lenA rz_len (by rfl) T.n_len PySem.boot_len (dan_cons (de_slot 0) dan_nil).da) dan_nil)).da)) dan_nil))))
 (ss_cons (ds_set nd (de_op op_mod rz_mod (de_op op_mulB rz_mulB (de_op op_addA rz_add (de_op op_addA rz_add (de_op op_mod rz_mod (de_slot 2) de_int) (de_op op_mulB rz_mulB (de_op op_mulB rz_mulB de_int (de_slot 1)) (de_slot 1))) de_int) de_int) de_int))
 (ss_cons (ds_set nd (de_op op_mod rz_mod (de_op op_addA rz_add (de_op op_addA rz_add (de_op op_mulB rz_mulB (de_slot 3) de_int) (de_op op_mulB rz_mulB de_int (de_slot 1))) de_int) de_int))
 (ss_cons (ds_if (dt_cmp op_lt rz_lt (de_slot 2) (de_op op_pow rz_pow de_int de_int) (nomark _)) (ss_one (ds_set nd de_int)) ss_nil)
 (ss_one (ds_ret (de_new (dl_lst (dan_cons (de_op op_mod rz_mod (de_slot 2) (de_call0 (ok__law_far T) (hr.mono (by decide)) (by rfl) T.p__law_far.g T.p__law_far.F.kp T.p__law_far.b)) (dan_cons (de_slot 3) (dan_cons de_int dan_nil)))))))))))
theorem ok__law_pick {base : Heap} (T : Txt P w K mg) : FnD P w K mg base 1 T.p__law_pick.f T.p__law_pick.fd ["_law_left_here", "_law_many"] F__law_pick := by
  refine (fn_ok T.p__law_pick.F sc__law_pick fun cdv A outer s H E hr => ?_)
  have nd := sc__law_pick.nd
  have hu1 := hu_of hr
  have hu := hr.units
  have hu65 := hu65 hr
  have hp : PassesOwn _ _ _ (cxOf (L2.CX P w) P w K mg base N__law_pick "_law_pick" (defScope s__law_pick) T.p__law_pick.f cdv A outer s H E).xe := passes_of rfl
  exact (ss_cons (ds_if (dt_cmp op_gt rz_gt (de_ixA hu1 (de_slot 0) de_int) de_int (nomark _)) (ss_cons (ds_set nd (de_op op_mod rz_mod (de_ixA hu1 (de_slot 0) de_int) (de_slot 1)))
 (ss_cons (ds_asg (de_op op_fdiv rz_fdiv (de_ixA hu1 (de_slot 0) de_int) (de_slot 1)) (dg_sub (de_slot 0) de_int set_list rz_set))
 (ss_one (ds_ret (de_slot 2))))) ss_nil)
 (ss_cons (ds_asg (de_op op_addA rz_add (de_ixA hu1 (de_slot 0) de_int) de_int) (dg_sub (de_slot 0) de_int set_list rz_set))
 (ss_cons (ds_asg (de_op op_mod rz_mod (de_op op_addA rz_add (de_op op_addA rz_add (de_op op_mulB rz_mulB (de_ixA hu1 (de_slot 0) de_int) de_int) de_int) (de_op op_mulB rz_mulB de_int (de_ixA hu1 (de_slot 0) de_int))) de_int) (dg_sub (de_slot 0) de_int set_list rz_set))
 (ss_one (ds_ret (de_op op_mod rz_mod (de_op op_fdiv rz_fdiv (de_op op_mod rz_mod (de_op op_mulB rz_mulB (de_ixA hu1 (de_slot 0) de_int) (de_ixA hu1 (de_slot 0) de_int)) de_int) de_int) (de_slot 1)))))))
theorem ok__law_whole {base : Heap} (T : Txt P w K mg) : FnD P w K mg base 1 T.p__law_whole.f T.p__law_whole.fd ["_law_thing"] F__law_whole := by
  refine (fn_ok T.p__law_whole.F sc__law_whole fun cdv A outer s H E hr => ?_)
  have nd := sc__law_whole.nd
  have hu1 := hu_of hr
  have hu := hr.units
  have hu65 := hu65 hr
  have hp : PassesOwn _ _ _ (cxOf (L2.CX P w) P w K mg base N__law_whole "_law_whole" (defScope s__law_whole) T.p__law_whole.f cdv A outer s H E).xe := passes_of rfl
  exact (ss_one (ds_ret (de_and (de_callB call_isiA rz_isi (by rfl) T.n_isinstance (by decide +kernel) (dan_cons (de_slot 0) (dan_cons (de_tyN (T := "int") (by rfl) T.n_int (by decide +kernel)) dan_nil)).da) (de_one (de_not (de_callB call_isiA rz_isi (by rfl) T.n_isinstance (by decide +kernel) (dan_cons (de_slot 0) (dan_cons (de_tyN (T := "bool") (by rfl) T.n_bool (by decide +kernel)) dan_nil)).da))))))
theorem ok__law_right {base : Heap} (T : Txt P w K mg) : FnD P w K mg base 1 T.p__law_right.f T.p__law_right.fd ["_law_told", "_law_due"] F__law_right := by
  refine (fn_ok T.p__law_right.F sc__law_right fun cdv A outer s H E hr => ?_)
  have nd := sc__law_right.nd
  have hu1 := hu_of hr
  have hu := hr.units
  have hu65 := hu65 hr
  have hp : PassesOwn _ _ _ (cxOf (L2.CX P w) P w K mg base N__law_right "_law_right" (defScope s__law_right) T.p__law_right.f cdv A outer s H E).xe := passes_of rfl
  exact (ss_one (ds_ret (de_and (de_callB call_isiA rz_isi (by rfl) T.n_isinstance (by decide +kernel) (dan_cons (de_slot 0) (dan_cons (de_tyN (T := "bool") (by rfl) T.n_bool (by decide +kernel)) dan_nil)).da) (de_one (de_cmp (op_eqD hu) rz_eq (de_slot 0) (de_slot 1) (nomark _))))))
theorem ok__law_any_room {base : Heap} (T : Txt P w K mg) : FnD P w K mg base 2 T.p__law_any_room.f T.p__law_any_room.fd ["_law_left_here", "_law_n"] F__law_any_room := by
  refine (fn_ok T.p__law_any_room.F sc__law_any_room fun cdv A outer s H E hr => ?_).drop
  have nd := sc__law_any_room.nd
  have hu1 := hu_of hr
  have hu := hr.units
  have hu65 := hu65 hr
  have hp : PassesOwn _ _ _ (cxOf (L2.CX P w) P w K mg base N__law_any_room "_law_any_room" (defScope s__law_any_room) T.p__law_any_room.f cdv A outer s H E).xe := passes_of rfl
  exact (ss_cons (ds_set nd (de_frz (dl_lst (dan_cons de_str (dan_cons de_str (dan_cons de_str (dan_cons de_str (dan_cons de_str (dan_cons de_str (dan_cons de_str (dan_cons de_str dan_nil)))))))))))
 (ss_cons (ds_set nd (de_callTy call_tupF rz_tuple (by rfl) T.n_tuple (by decide +kernel) (dan_cons (de_frz (dl_comp (own := [("_law_guest", 5)]) rfl nd (di_range1 (by rfl) T.n_range (dan_cons (de_slot 1) dan_nil).da) (blkOk_by (N := N__law_any_room) (sc := defScope s__law_any_room) (by decide +kernel)) (fun _ _ _ _ _ => (dtg_name nd)) (fun _ _ _ _ _ => dts_nil) (fun _ _ _ _ _ => (de_ixA hu1 (de_slot 2) (de_call (ok__law_pick T) (hr.mono (by decide)) (by rfl) T.p__law_pick.g T.p__law_pick.F.kp T.p__law_pick.b (dan_cons (de_slot 0) (dan_cons de_int dan_nil))))))) dan_nil).da))
 (ss_cons (ds_set nd (de_new (dl_lst dan_nil)))
 (ss_cons (ds_for hp rfl (di_range1 (by rfl) T.n_range (dan_cons (de_slot 1) dan_nil).da) (dtg_name nd) (ss_one (ds_if (dt_w (dw_and (dt_cmp (op_eqD hu) rz_eq (de_ixA hu1 (de_slot 3) (de_slot 5)) de_str (nomark _)) (dw_and1 (dt_cmp op_gt rz_gt (de_call (ok__law_pick T) (hr.mono (by decide)) (by rfl) T.p__law_pick.g T.p__law_pick.F.kp T.p__law_pick.b (dan_cons (de_slot 0) (dan_cons de_int dan_nil))) de_int (nomark _))))) (ss_cons (ds_set nd (de_ixA hu1 (de_frz (dl_lst (dan_cons de_int (dan_cons de_int (dan_cons de_int (dan_cons de_int (dan_cons de_int (dan_cons de_int dan_nil)))))))) (de_call (ok__law_pick T) (hr.mono (by decide)) (by rfl) T.p__law_pick.g T.p__law_pick.F.kp T.p__law_pick.b (dan_cons (de_slot 0) (dan_cons de_int dan_nil)))))
 (ss_cons (ds_set nd (de_ixA hu1 (de_frz (dl_lst (dan_cons de_non (dan_cons de_non (dan_cons de_int (dan_cons de_int (dan_cons de_int dan_nil))))))) (de_call (ok__law_pick T) (hr.mono (by decide)) (by rfl) T.p__law_pick.g T.p__law_pick.F.kp T.p__law_pick.b (dan_cons (de_slot 0) (dan_cons de_int dan_nil)))))
 (ss_cons (ds_set nd (de_tup (dan_cons (de_slot 5) (dan_cons (de_ixA hu1 (de_frz (dl_lst (dan_cons de_str (dan_cons de_str dan_nil)))) (de_call (ok__law_pick T) (hr.mono (by decide)) (by rfl) T.p__law_pick.g T.p__law_pick.F.kp T.p__law_pick.b (dan_cons (de_slot 0) (dan_cons de_int dan_nil)))) (dan_cons (de_slot 6) (dan_cons (de_slot 7) dan_nil))))))
 (ss_one (ds_expr (de_meth PySem.F.plainAttrs_list PySem.F.slot_list_insert PySem.F.type_list_insert mt_insert rz_insert (de_slot 4) (dan_cons (de_call (ok__law_pick T) (hr.mono (by decide)) (by rfl) T.p__law_pick.g T.p__law_pick.F.kp T.p__law_pick.b (dan_cons (de_slot 0) (dan_cons (de_op op_addA rz_add (de_callB call_lenA rz_len (by rfl) T.n_len PySem.boot_len (dan_cons (de_slot 4) dan_nil).da) de_int) dan_nil))) (dan_cons (de_slot 8) dan_nil)).da)))))) ss_nil)))
 (ss_one (ds_ret (de_tup (dan_cons (de_slot 3) (dan_cons (de_callTy call_tupF rz_tuple (by rfl) T.n_tuple (by decide +kernel) (dan_cons (de_slot 4) dan_nil).da) dan_nil)))))))))
theorem ok__law_entry {base : Heap} (T : Txt P w K mg) : FnD P w K mg base 2 T.p__law_entry.f T.p__law_entry.fd ["_law_n", "_law_thing"] F__law_entry := by
  refine (fn_ok T.p__law_entry.F sc__law_entry fun cdv A outer s H E hr => ?_)
  have nd := sc__law_entry.nd
  have hu1 := hu_of hr
  have hu := hr.units
  have hu65 := hu65 hr
  have hp : PassesOwn _ _ _ (cxOf (L2.CX P w) P w K mg base N__law_entry "_law_entry" (defScope s__law_entry) T.p__law_entry.f cdv A outer s H E).xe := passes_of rfl
  exact (ss_cons (ds_if (dt_w (dw_or (dt_not (dt_val (de_callB call_isiA rz_isi (by rfl) T.n_isinstance (by decide +kernel) (dan_cons (de_slot 1) (dan_cons (de_tyN (T := "tuple") (by rfl) T.n_tuple (by decide +kernel)) dan_nil)).da))) (dw_or (dt_cmp (op_neD hu) rz_ne (de_callB call_lenA rz_len (by rfl) T.n_len PySem.boot_len (dan_cons (de_slot 1) dan_nil).da) de_int (nomark _)) (dw_or1 (dt_not (dt_val (de_call (ok__law_whole T) (hr.mono (by decide)) (by rfl) T.p__law_whole.g T.p__law_whole.F.kp T.p__law_whole.b (dan_cons (de_ixA hu1 (de_slot 1) de_int) dan_nil)))))))) (ss_one (ds_ret de_bl)) ss_nil)
 (ss_cons (ds_if (dt_w (dw_or (dt_not (dt_val (de_callB call_isiA rz_isi (by rfl) T.n_isinstance (by decide +kernel) (dan_cons (de_ixA hu1 (de_slot 1) de_int) (dan_cons (de_tyN (T := "str") (by rfl) T.n_str (by decide +kernel)) dan_nil)).da))) (dw_or1 (dt_cmp (op_notInDT hu65) (rz_in true) (de_ixA hu1 (de_slot 1) de_int) (de_tup (dan_cons de_str (dan_cons de_str dan_nil))) (by rfl))))) (ss_one (ds_ret de_bl)) ss_nil)
 (ss_cons (ds_if (dt_w (dw_or (dt_not (dt_val (de_call (ok__law_whole T) (hr.mono (by decide)) (by rfl) T.p__law_whole.g T.p__law_whole.F.kp T.p__law_whole.b (dan_cons (de_ixA hu1 (de_slot 1) de_int) dan_nil)))) (dw_or1 (dt_not (dt_chain op_le op_lt rz_le rz_lt de_int (de_ixA hu1 (de_slot 1) de_int) de_int))))) (ss_one (ds_ret de_bl)) ss_nil)
 (ss_cons (ds_if (dt_not (dt_chain op_le op_lt rz_le rz_lt de_int (de_ixA hu1 (de_slot 1) de_int) (de_slot 0))) (ss_one (ds_ret de_bl)) ss_nil)
 (ss_one (ds_ret (de_or (de_cmp op_isN rz_isN (de_ixA hu1 (de_slot 1) de_int) de_non (nomark _)) (de_one (de_and (de_call (ok__law_whole T) (hr.mono (by decide)) (by rfl) T.p__law_whole.g T.p__law_whole.F.kp T.p__law_whole.b (dan_cons (de_ixA hu1 (de_slot 1) de_int) dan_nil)) (de_one (de_chain op_lt op_lt rz_lt rz_lt de_int (de_ixA hu1 (de_slot 1) de_int) de_int)))))))))))
theorem ok__law_fine {base : Heap} (T : Txt P w K mg) : FnD P w K mg base 3 T.p__law_fine.f T.p__law_fine.fd ["_law_n", "_law_thing"] F__law_fine := by
  refine (fn_ok T.p__law_fine.F sc__law_fine fun cdv A outer s H E hr => ?_)
  have nd := sc__law_fine.nd
  have hu1 := hu_of hr
  have hu := hr.units
  have hu65 := hu65 hr
  have hp : PassesOwn _ _ _ (cxOf (L2.CX P w) P w K mg base N__law_fine "_law_fine" (defScope s__law_fine) T.p__law_fine.f cdv A outer s H E).xe := passes_of rfl
  exact (ss_cons (ds_if (dt_w (dw_or (dt_not (dt_val (de_callB call_isiA rz_isi (by rfl) T.n_isinstance (by decide +kernel) (dan_cons (de_slot 1) (dan_cons (de_tyN (T := "tuple") (by rfl) T.n_tuple (by decide +kernel)) dan_nil)).da))) (dw_or1 (dt_cmp (op_neD hu) rz_ne (de_callB call_lenA rz_len (by rfl) T.n_len PySem.boot_len (dan_cons (de_slot 1) dan_nil).da) de_int (nomark _))))) (ss_one (ds_ret de_bl)) ss_nil)
 (ss_cons (ds_asg (de_slot 1) (dg_tup rfl (dgs_cons (dg_name nd) (dgs_cons (dg_name nd) dgs_nil))))
 (ss_cons (ds_if (dt_w (dw_or (dt_not (dt_val (de_callB call_isiA rz_isi (by rfl) T.n_isinstance (by decide +kernel) (dan_cons (de_slot 2) (dan_cons (de_tyN (T := "tuple") (by rfl) T.n_tuple (by decide +kernel)) dan_nil)).da))) (dw_or (dt_cmp (op_neD hu) rz_ne (de_callB call_lenA rz_len (by rfl) T.n_len PySem.boot_len (dan_cons (de_slot 2) dan_nil).da) (de_slot 0) (nomark _)) (dw_or1 (dt_not (dt_val (de_callB call_isiA rz_isi (by rfl) T.n_isinstance (by decide +kernel) (dan_cons (de_slot 3) (dan_cons (de_tyN (T := "tuple") (by rfl) T.n_tuple (by decide +kernel)) dan_nil)).da))))))) (ss_one (ds_ret de_bl)) ss_nil)
 (ss_cons (ds_for hp rfl (di_seq (de_slot 2)) (dtg_name nd) (ss_one (ds_if (dt_w (dw_or (dt_not (dt_val (de_callB call_isiA rz_isi (by rfl) T.n_isinstance (by decide +kernel) (dan_cons (de_slot 4) (dan_cons (de_tyN (T := "str") (by rfl) T.n_str (by decide +kernel)) dan_nil)).da))) (dw_or1 (dt_cmp (op_notInDT hu65) (rz_in true) (de_slot 4) (de_tup (dan_cons de_str (dan_cons de_str (dan_cons de_str (dan_cons de_str (dan_cons de_str dan_nil)))))) (by rfl))))) (ss_one (ds_ret de_bl)) ss_nil)))
 (ss_cons (ds_if (dt_not (dt_val (de_callB (cr_all rfl) rz_all (by rfl) T.n_all (by decide +kernel) (dan_cons (de_frz (dl_comp (own := [("_law_entry_here", 6)]) rfl nd (di_seq (de_slot 3)) (blkOk_by (N := N__law_fine) (sc := defScope s__law_fine) (by decide +kernel)) (fun _ _ _ _ _ => (dtg_name nd)) (fun _ _ _ _ _ => dts_nil) (fun _ _ _ _ _ => (de_call (ok__law_entry T) (hr.mono (by decide)) (by rfl) T.p__law_entry.g T.p__law_entry.F.kp T.p__law_entry.b (dan_cons (de_slot 0) (dan_cons (de_slot 6) dan_nil)))))) dan_nil).da))) (ss_one (ds_ret de_bl)) ss_nil)
 (ss_cons (ds_set nd (de_callB cr_sorted rz_sorted (by rfl) T.n_sorted (by decide +kernel) (dan_cons (de_frz (dl_comp (own := [("_law_entry_here", 6)]) rfl nd (di_seq (de_slot 3)) (blkOk_by (N := N__law_fine) (sc := defScope s__law_fine) (by decide +kernel)) (fun _ _ _ _ _ => (dtg_name nd)) (fun _ _ _ _ _ => dts_nil) (fun _ _ _ _ _ => (de_ixA hu1 (de_slot 6) de_int)))) dan_nil).da))
 (ss_one (ds_ret (de_cmp (op_eqD hu) rz_eq (de_slot 5) (de_frz (dl_comp (own := [("_law_guest", 7)]) rfl nd (di_range1 (by rfl) T.n_range (dan_cons (de_slot 0) dan_nil).da) (blkOk_by (N := N__law_fine) (sc := defScope s__law_fine) (by decide +kernel)) (fun _ _ _ _ _ => (dtg_name nd)) (fun _ _ _ _ _ => (dts_one (dt_w (dw_and (dt_cmp (op_inDT hu65) (rz_in false) (de_slot 7) (de_slot 5) (by rfl)) (dw_and1 (dt_cmp (op_eqD hu) rz_eq (de_ixA hu1 (de_slot 2) (de_slot 7)) de_str (nomark _))))))) (fun _ _ _ _ _ => (de_slot 7)))) (nomark _))))))))))
theorem ok__law_spoilt {base : Heap} (T : Txt P w K mg) : FnD P w K mg base 2 T.p__law_spoilt.f T.p__law_spoilt.fd ["_law_left_here", "_law_room"] F__law_spoilt := by
  refine (fn_ok T.p__law_spoilt.F sc__law_spoilt fun cdv A outer s H E hr => ?_)
  have nd := sc__law_spoilt.nd
  have hu1 := hu_of hr
  have hu := hr.units
  have hu65 := hu65 hr
  have hp : PassesOwn _ _ _ (cxOf (L2.CX P w) P w K mg base N__law_spoilt "_law_spoilt" (defScope s__law_spoilt) T.p__law_spoilt.f cdv A outer s H E).xe := passes_of rfl
  exact (ss_cons (ds_asg (de_slot 1) (dg_tup rfl (dgs_cons (dg_name nd) (dgs_cons (dg_name nd) dgs_nil))))
 (ss_cons (ds_set nd (de_frz (dl_lst (dan_cons de_non (dan_cons de_bl (dan_cons de_bl (dan_cons de_int (dan_cons de_int (dan_cons (de_neg de_int) (dan_cons de_int (dan_cons de_int (dan_cons de_int (dan_cons de_int (dan_cons de_str (dan_cons de_str (dan_cons de_str (dan_cons de_str (dan_cons de_str (dan_cons de_str dan_nil)))))))))))))))))))
 (ss_cons (ds_set nd (de_op op_addA rz_add (de_slot 4) (de_frz (dl_lst (dan_cons de_str (dan_cons de_str (dan_cons (de_tup dan_nil) (dan_cons (de_frz (dl_lst dan_nil)) dan_nil))))))))
 (ss_cons (ds_set nd (de_ixA hu1 (de_slot 4) (de_call (ok__law_pick T) (hr.mono (by decide)) (by rfl) T.p__law_pick.g T.p__law_pick.F.kp T.p__law_pick.b (dan_cons (de_slot 0) (dan_cons de_int dan_nil)))))
 (ss_cons (ds_set nd (de_call (ok__law_pick T) (hr.mono (by decide)) (by rfl) T.p__law_pick.g T.p__law_pick.F.kp T.p__law_pick.b (dan_cons (de_slot 0) (dan_cons de_int dan_nil))))
 (ss_cons (ds_set nd (de_call (ok__law_pick T) (hr.mono (by decide)) (by rfl) T.p__law_pick.g T.p__law_pick.F.kp T.p__law_pick.b (dan_cons (de_slot 0) (dan_cons (de_callB call_lenA rz_len (by rfl) T.n_len PySem.boot_len (dan_cons (de_slot 2) dan_nil).da) dan_nil))))
 (ss_cons (ds_if (dt_cmp op_lt rz_lt (de_slot 6) de_int (nomark _)) (ss_one (ds_ret (de_tup (dan_cons (de_op op_addA rz_add (de_op op_addA rz_add (de_slice (de_slot 2) do_none (do_some (de_slot 7))) (de_tup (dan_cons (de_slot 5) dan_nil))) (de_slice (de_slot 2) (do_some (de_op op_addA rz_add (de_slot 7) de_int)) do_none)) (dan_cons (de_slot 3) dan_nil))))) ss_nil)
 (ss_cons (ds_if (dt_cmp (op_eqD hu) rz_eq (de_slot 6) de_int (nomark _)) (ss_cons (ds_set nd (de_frz (dl_lst (dan_cons (de_tup (dan_cons (de_slot 2) dan_nil)) (dan_cons (de_tup (dan_cons (de_slot 3) (dan_cons (de_slot 2) dan_nil))) (dan_cons (de_tup (dan_cons (de_frz (dl_list1 (by rfl) T.n_list (by decide +kernel) (de_slot 2))) (dan_cons (de_slot 3) dan_nil))) (dan_cons (de_tup (dan_cons (de_slot 2) (dan_cons (de_frz (dl_list1 (by rfl) T.n_list (by decide +kernel) (de_slot 3))) dan_nil))) (dan_cons (de_frz (dl_list1 (by rfl) T.n_list (by decide +kernel) (de_slot 1))) dan_nil))))))))
 (ss_one (ds_ret (de_ixA hu1 (de_slot 8) (de_call (ok__law_pick T) (hr.mono (by decide)) (by rfl) T.p__law_pick.g T.p__law_pick.F.kp T.p__law_pick.b (dan_cons (de_slot 0) (dan_cons de_int dan_nil))))))) ss_nil)
 (ss_cons (ds_if (dt_w (dw_or (dt_cmp (op_eqD hu) rz_eq (de_slot 6) de_int (nomark _)) (dw_or1 (dt_cmp (op_eqD hu) rz_eq (de_slot 3) (de_tup dan_nil) (nomark _))))) (ss_cons (ds_set nd (de_frz (dl_lst (dan_cons (de_tup (dan_cons (de_slot 2) (dan_cons (de_op op_addA rz_add (de_slot 3) (de_slice (de_slot 3) do_none (do_some de_int))) dan_nil))) (dan_cons (de_tup (dan_cons (de_op op_addA rz_add (de_slot 2) (de_tup (dan_cons de_str dan_nil))) (dan_cons (de_slot 3) dan_nil))) (dan_cons (de_tup (dan_cons (de_slice (de_slot 2) do_none (do_some (de_neg de_int))) (dan_cons (de_slot 3) dan_nil))) dan_nil))))))
 (ss_one (ds_ret (de_ixA hu1 (de_slot 8) (de_call (ok__law_pick T) (hr.mono (by decide)) (by rfl) T.p__law_pick.g T.p__law_pick.F.kp T.p__law_pick.b (dan_cons (de_slot 0) (dan_cons de_int dan_nil))))))) ss_nil)
 (ss_cons (ds_set nd (de_call (ok__law_pick T) (hr.mono (by decide)) (by rfl) T.p__law_pick.g T.p__law_pick.F.kp T.p__law_pick.b (dan_cons (de_slot 0) (dan_cons (de_callB call_lenA rz_len (by rfl) T.n_len PySem.boot_len (dan_cons (de_slot 3) dan_nil).da) dan_nil))))
 (ss_cons (ds_set nd (de_ixA hu1 (de_slot 3) (de_slot 7)))
 (ss_cons (ds_set nd (de_call (ok__law_pick T) (hr.mono (by decide)) (by rfl) T.p__law_pick.g T.p__law_pick.F.kp T.p__law_pick.b (dan_cons (de_slot 0) (dan_cons de_int dan_nil))))
 (ss_cons (ds_set nd (de_op op_addA rz_add (de_op op_addA rz_add (de_slice (de_slot 9) do_none (do_some (de_slot 10))) (de_tup (dan_cons (de_slot 5) dan_nil))) (de_slice (de_slot 9) (do_some (de_op op_addA rz_add (de_slot 10) de_int)) do_none)))
 (ss_cons (ds_if (dt_cmp (op_eqD hu) rz_eq (de_slot 6) de_int (nomark _)) (ss_one (ds_set nd (de_ixA hu1 (de_frz (dl_lst (dan_cons (de_frz (dl_list1 (by rfl) T.n_list (by decide +kernel) (de_slot 9))) (dan_cons (de_slice (de_slot 9) do_none (do_some de_int)) (dan_cons (de_op op_addA rz_add (de_slot 9) (de_tup (dan_cons de_int dan_nil))) (dan_cons (de_op op_addA rz_add (de_tup (dan_cons (de_callB call_lenA rz_len (by rfl) T.n_len PySem.boot_len (dan_cons (de_slot 2) dan_nil).da) dan_nil)) (de_slice (de_slot 9) (do_some de_int) do_none)) dan_nil)))))) (de_call (ok__law_pick T) (hr.mono (by decide)) (by rfl) T.p__law_pick.g T.p__law_pick.F.kp T.p__law_pick.b (dan_cons (de_slot 0) (dan_cons de_int dan_nil)))))) ss_nil)
 (ss_one (ds_ret (de_tup (dan_cons (de_slot 2) (dan_cons (de_op op_addA rz_add (de_op op_addA rz_add (de_slice (de_slot 3) do_none (do_some (de_slot 7))) (de_tup (dan_cons (de_slot 11) dan_nil))) (de_slice (de_slot 3) (do_some (de_op op_addA rz_add (de_slot 7) de_int)) do_none)) dan_nil)))))))))))))))))))
theorem ok_law {base : Heap} (T : Txt P w K mg) : FnD P w K mg base 6 T.p_law.f T.p_law.fd ["_law_script"] F_law := by
  refine (fn_ok T.p_law.F sc_law fun cdv A outer s H E hr => ?_)
  have nd := sc_law.nd
  have hu1 := hu_of hr
  have hu := hr.units
  have hu65 := hu65 hr
  have hp : PassesOwn _ _ _ (cxOf (L2.CX P w) P w K mg base N_law "law" (defScope s_law) T.p_law.f cdv A outer s H E).xe := passes_of rfl
  exact (ss_cons (ds_for hp rfl (di_range1 (by rfl) T.n_range (dan_cons (de_op op_addA rz_add de_int (de_callB (call_min2 rfl) rz_min2 (by rfl) T.n_min (by decide +kernel) (dan_cons de_int (dan_cons (de_callB call_lenA rz_len (by rfl) T.n_len PySem.boot_len (dan_cons (de_slot 0) dan_nil).da) dan_nil)).da)) dan_nil).da) (dtg_name nd) (ss_cons (ds_set nd (de_call (ok__law_left T) (hr.mono (by decide)) (by rfl) T.p__law_left.g T.p__law_left.F.kp T.p__law_left.b (dan_cons (de_slot 0) (dan_cons (de_slot 1) dan_nil))))
 (ss_cons (ds_set nd (de_op op_addA rz_add de_int (de_call (ok__law_pick T) (hr.mono (by decide)) (by rfl) T.p__law_pick.g T.p__law_pick.F.kp T.p__law_pick.b (dan_cons (de_slot 2) (dan_cons de_int dan_nil)))))
 (ss_cons (ds_set nd (de_call (ok__law_any_room T) (hr.mono (by decide)) (by rfl) T.p__law_any_room.g T.p__law_any_room.F.kp T.p__law_any_room.b (dan_cons (de_slot 2) (dan_cons (de_slot 3) dan_nil))))
 (ss_cons (ds_if (dt_w (dw_or (dt_cmp op_notBl rz_isNotB (de_call (ok_is_room T) (hr.mono (by decide)) (by rfl) T.p_is_room.g T.p_is_room.F.kp T.p_is_room.b (dan_cons (de_slot 3) (dan_cons (de_slot 4) dan_nil))) de_bl (nomark _)) (dw_or1 (dt_cmp op_notBl rz_isNotB (de_call (ok_is_room T) (hr.mono (by decide)) (by rfl) T.p_is_room.g T.p_is_room.F.kp T.p_is_room.b (dan_cons (de_slot 3) (dan_cons (de_call (ok_empty T) (hr.mono (by decide)) (by rfl) T.p_empty.g T.p_empty.F.kp T.p_empty.b (dan_cons (de_slot 3) dan_nil)) dan_nil))) de_bl (nomark _))))) (ss_one (ds_ret de_bl)) ss_nil)
 (ss_cons (ds_set nd (de_frz (dl_lst (dan_cons (de_slot 4) (dan_cons (de_call (ok__law_spoilt T) (hr.mono (by decide)) (by rfl) T.p__law_spoilt.g T.p__law_spoilt.F.kp T.p__law_spoilt.b (dan_cons (de_slot 2) (dan_cons (de_slot 4) dan_nil))) (dan_cons (de_call (ok__law_spoilt T) (hr.mono (by decide)) (by rfl) T.p__law_spoilt.g T.p__law_spoilt.F.kp T.p__law_spoilt.b (dan_cons (de_slot 2) (dan_cons (de_slot 4) dan_nil))) (dan_cons (de_call (ok__law_spoilt T) (hr.mono (by decide)) (by rfl) T.p__law_spoilt.g T.p__law_spoilt.F.kp T.p__law_spoilt.b (dan_cons (de_slot 2) (dan_cons (de_slot 4) dan_nil))) dan_nil)))))))
 (ss_cons (ds_for hp rfl (di_seq (de_slot 5)) (dtg_name nd) (ss_one (ds_for hp rfl (di_seq (de_frz (dl_lst (dan_cons (de_slot 3) (dan_cons (de_callB (call_max2 rfl) rz_max2 (by rfl) T.n_max (by decide +kernel) (dan_cons de_int (dan_cons (de_op op_sub rz_sub (de_slot 3) de_int) dan_nil)).da) (dan_cons (de_callB (call_min2 rfl) rz_min2 (by rfl) T.n_min (by decide +kernel) (dan_cons de_int (dan_cons (de_op op_addA rz_add (de_slot 3) de_int) dan_nil)).da) dan_nil)))))) (dtg_name nd) (ss_one (ds_if (dt_not (dt_val (de_call (ok__law_right T) (hr.mono (by decide)) (by rfl) T.p__law_right.g T.p__law_right.F.kp T.p__law_right.b (dan_cons (de_call (ok_is_room T) (hr.mono (by decide)) (by rfl) T.p_is_room.g T.p_is_room.F.kp T.p_is_room.b (dan_cons (de_slot 7) (dan_cons (de_slot 6) dan_nil))) (dan_cons (de_call (ok__law_fine T) (hr.mono (by decide)) (by rfl) T.p__law_fine.g T.p__law_fine.F.kp T.p__law_fine.b (dan_cons (de_slot 7) (dan_cons (de_slot 6) dan_nil))) dan_nil))))) (ss_one (ds_ret de_bl)) ss_nil)))))
 (ss_cons (ds_set nd (de_frz (dl_lst (dan_cons de_non (dan_cons de_int (dan_cons de_bl (dan_cons de_str (dan_cons de_str (dan_cons (de_tup dan_nil) (dan_cons (de_frz (dl_lst dan_nil)) (dan_cons de_dict0 (dan_cons (de_tup (dan_cons (de_tup dan_nil) (dan_cons (de_tup dan_nil) dan_nil))) (dan_cons (de_tup (dan_cons (de_op op_mulB rz_mulB (de_tup (dan_cons de_str dan_nil)) (de_slot 3)) dan_nil)) (dan_cons (de_tup (dan_cons de_str (dan_cons (de_tup dan_nil) dan_nil))) dan_nil))))))))))))))
 (ss_one (ds_for hp rfl (di_seq (de_op op_addA rz_add (de_slot 8) (de_frz (dl_lst (dan_cons (de_tup (dan_cons de_non (dan_cons de_non dan_nil))) dan_nil))))) (dtg_name nd) (ss_one (ds_if (dt_cmp op_notBl rz_isNotB (de_call (ok_is_room T) (hr.mono (by decide)) (by rfl) T.p_is_room.g T.p_is_room.F.kp T.p_is_room.b (dan_cons (de_slot 3) (dan_cons (de_slot 6) dan_nil))) de_bl (nomark _)) (ss_one (ds_ret de_bl)) ss_nil))))))))))))
 (ss_one (ds_ret de_bl)))
end
end LK
end
section
set_option maxHeartbeats 4000000
set_option synthInstance.maxSize 100000
set_option synthInstance.maxHeartbeats 400000
namespace LK
open MR PySem PySem.Spec PyProof.Rows L2
/-! ### the numbers that are left -/
set_option exponentiation.threshold 1000 in
theorem far_eq (h : Hh) : F__law_far [] h = .ok (.int (10 ^ 600)) h := by
  unfold F__law_far b__law_far L__law_far_0
  simp (decide := true) [rangeD, List.range, List.range.loop, mulE]
def v__law_cell_at (ns : List Int) (k : Int) : Int := if k < ns.length then (ns[k.toNat]?).getD 0 else 0
theorem t__law_cell_at (ns : List Int) (k : Int) (k0 : 0 ≤ k) (h : Hh) : F__law_cell_at [.scr ns, .int k] h = .ok (.int (v__law_cell_at ns k)) h := by
  unfold F__law_cell_at b__law_cell_at v__law_cell_at
  by_cases hk : k < ns.length
  · have e : (ns.map D.int)[k.toNat]? = some (.int (ns[k.toNat]'(by omega))) := by simp
    have e2 : (Option.map D.int ns[k.toNat]?) = some (.int (ns[k.toNat]'(by omega))) := by simpa using e
    have e3 : ns[k.toNat]? = some (ns[k.toNat]'(by omega)) := by simp
    simp [hk, k0, e2, e3]
  · simp [hk, k0]
/-- numbers that are left -/
def Lk (l : List Int) : Prop := ∃ a b c : Int, l = [a, b, c] ∧ 0 ≤ a ∧ 0 ≤ b ∧ b < 2147483648 ∧ 0 ≤ c
def v__law_left (ns : List Int) (k : Int) : List Int :=
  [(if v__law_cell_at ns (k % (if (ns.length : Int) > 1 then (ns.length : Int) else 1)) < 10 ^ 18 then 0 else v__law_cell_at ns (k % (if (ns.length : Int) > 1 then (ns.length : Int) else 1))) % (10 ^ 600), ((v__law_cell_at ns (k % (if (ns.length : Int) > 1 then (ns.length : Int) else 1)) % 2147483629 + 7919 * k * k + 11) * 48271 % 2147483647 * 39373 + 7 * k + 1) % 2147483629, 0]
def d__law_left (ns : List Int) (k : Int) : Prop := 0 ≤ k ∧ k < 1000000
theorem lk_left (ns : List Int) (k : Int) : Lk (v__law_left ns k) := ⟨_, _, _, rfl, Int.emod_nonneg _ (by decide), Int.emod_nonneg _ (by decide), Int.lt_trans (Int.emod_lt_of_pos _ (by decide)) (by decide), by decide⟩
set_option exponentiation.threshold 1000 in
theorem t__law_left (ns : List Int) (k : Int) (h : Hh) (ok : d__law_left ns k) : F__law_left [.scr ns, .int k] h = .ok (.ref h.length) (h ++ [oL D.int (v__law_left ns k)]) := by
  obtain ⟨k0, k1⟩ := ok
  have m0 : (0 : Int) < (if (ns.length : Int) > 1 then (ns.length : Int) else 1) := by split <;> omega
  have hv := fun h => t__law_cell_at ns (k % (if (ns.length : Int) > 1 then (ns.length : Int) else 1)) (Int.emod_nonneg _ (by omega)) h
  have m0' : (0 : Int) < (if 1 < (ns.length : Int) then (ns.length : Int) else 1) := m0
  unfold F__law_left b__law_left v__law_left oL
  generalize v__law_cell_at ns (k % (if (ns.length : Int) > 1 then (ns.length : Int) else 1)) = v at hv ⊢
  have p0 := Int.emod_nonneg v (show (2147483629 : Int) ≠ 0 by decide)
  have p1 := Int.emod_lt_of_pos v (show (0 : Int) < 2147483629 by decide)
  have far0 : (0 : Int) < 10 ^ 600 := by decide
  have s1 : -18446744073709551616 < k ∧ k < 18446744073709551616 := by omega
  generalize hs : (v % 2147483629 + 7919 * k * k + 11) * 48271 % 2147483647 = s
  generalize hq : (s * 39373 + 7 * k + 1) % 2147483629 = q
  generalize hF : (10 : Int) ^ 600 = far at far0 ⊢
  have fe : ∀ h, F__law_far [] h = .ok (.int far) h := fun h => by rw [far_eq, hF]
  clear hF
  simp [hv, m0', mulE, s1, hs, hq]
  by_cases hc : v < 1000000000000000000
  · simp [hc, fe, far0]
  · simp [hc, fe, far0]
def v__law_pick (l : List Int) (m : Int) : Int × List Int := match l with
  | [a, b, c] => if 0 < a then (a % m, [a / m, b, c]) else
    (((b * 48271 + 12345 + 7 * (c + 1)) % 2147483647) * ((b * 48271 + 12345 + 7 * (c + 1)) % 2147483647) % 1999999973 / 64 % m, [a, (b * 48271 + 12345 + 7 * (c + 1)) % 2147483647, c + 1])
  | l => (0, l)
def d__law_pick (l : List Int) (m : Int) : Prop := Lk l ∧ 0 < m ∧ m < 1073741824
theorem t__law_pick (l : List Int) (m : Int) (h : Hh) (p : Nat) (hp : h[p]? = some (oL D.int l)) (ok : d__law_pick l m) : F__law_pick (.ref p :: [.int m]) h = .ok (.int (v__law_pick l m).1) (h.set p (oL D.int (v__law_pick l m).2)) := by
  obtain ⟨⟨a, b, c, rfl, a0, b0, b1, c0⟩, m0, m1⟩ := ok
  have hl : p < h.length := (List.getElem?_eq_some_iff.mp hp).1
  unfold F__law_pick b__law_pick v__law_pick
  have e : h[p]? = some (.lst [.int a, .int b, .int c]) := hp
  by_cases ha : 0 < a
  · simp [e, ha, m0, m1, oL]
  · have q0 := Int.emod_nonneg (b * 48271 + 12345 + 7 * (c + 1)) (show (2147483647 : Int) ≠ 0 by decide)
    have q1 := Int.emod_lt_of_pos (b * 48271 + 12345 + 7 * (c + 1)) (show (0 : Int) < 2147483647 by decide)
    generalize hq : (b * 48271 + 12345 + 7 * (c + 1)) % 2147483647 = q at q0 q1
    have s1 : -18446744073709551616 < q ∧ q < 18446744073709551616 := by omega
    have g : ∀ o, (h.set p o)[p]? = some o := fun o => by simp [hl]
    clear hl
    simp [e, ha, m0, m1, mulE, hq, s1, g, oL]
theorem pk {l : List Int} {m : Int} (hl : Lk l) (m0 : 0 < m) : 0 ≤ (v__law_pick l m).1 ∧ (v__law_pick l m).1 < m ∧ Lk (v__law_pick l m).2 := by
  obtain ⟨a, b, c, rfl, a0, b0, b1, c0⟩ := hl
  unfold v__law_pick
  by_cases ha : 0 < a
  · simp only [ha, if_true]
    exact ⟨Int.emod_nonneg _ (by omega), Int.emod_lt_of_pos _ m0, a / m, b, c, rfl, Int.ediv_nonneg a0 (by omega), b0, b1, c0⟩
  · simp only [ha, if_false]
    exact ⟨Int.emod_nonneg _ (by omega), Int.emod_lt_of_pos _ m0, a, _, c + 1, rfl, a0, Int.emod_nonneg _ (by decide), Int.lt_trans (Int.emod_lt_of_pos _ (by decide)) (by decide), by omega⟩
noncomputable def c_empty (n_ : Int) : Ctl Empty Empty ((List Wd) × (List (Int × Wd × Int × (Option Int)))) Empty := (.rt ((repG [Wd.out] n_), ([] : (List (Int × Wd × Int × (Option Int))))))
noncomputable def v_empty (n_ : Int) : ((List Wd) × (List (Int × Wd × Int × (Option Int)))) := (c_empty n_).get
def d_empty (n_ : Int) : Prop := ((-1000 ≤ n_ ∧ n_ ≤ 1000 ∧ ([Wd.out]).length ≤ 1000))
theorem t_empty (n_ : Int) (h : Hh) (ok : d_empty n_) : F_empty [D.int n_] h = .ok ((eT2 (eS eW) (eS (eT4 D.int eW D.int (eO D.int)))) (v_empty n_)) h :=
  fn_frz (c := c_empty n_) (hN := Nat.le_of_ble_eq_true rfl) (qs_retF (q_t2 (q_op2 (ql_tup (ql_cons (q_c (d := eW Wd.out)) ql_nil)) (q_slot 0 rfl) (o_mulS eW _ _ ok)) (ql_tup ql_nil)))
-- HAND _law_cell_at
-- HAND _law_far
-- HAND _law_left
-- HAND _law_pick
noncomputable def G__law_any_room_0 (r1 : (List Wd)) (y3 : Int) (l6 : (List Int)) : Wd × (List Int) := ((atZ r1 (v__law_pick l6 (8 : Int)).1), (v__law_pick l6 (8 : Int)).2)
def K__law_any_room_1 (r1 : (List Wd)) (y3 : Int) (l6 : (List Int)) : Prop := (d__law_pick l6 (8 : Int) ∧ inR r1 (v__law_pick l6 (8 : Int)).1)
noncomputable def B__law_any_room_2 (r8 : (List Wd) × (List Int)) (x13 : Int) (st12 : (List Int) × (List (Int × Wd × Int × (Option Int)))) : (List Int) × (List (Int × Wd × Int × (Option Int))) := (if ((decide ((atZ r8.1 x13) = Wd.out)) && (decide ((0 : Int) < (v__law_pick st12.1 (3 : Int)).1))) = true then (letC ((atZ [(0 : Int), (0 : Int), (1 : Int), (2 : Int), (9 : Int), (999 : Int)] (v__law_pick (if (decide ((atZ r8.1 x13) = Wd.out)) = true then (v__law_pick st12.1 (3 : Int)).2 else st12.1) (6 : Int)).1), (v__law_pick (if (decide ((atZ r8.1 x13) = Wd.out)) = true then (v__law_pick st12.1 (3 : Int)).2 else st12.1) (6 : Int)).2) (fun r18 : Int × (List Int) => (letC ((atZ [(none : (Option Int)), (none : (Option Int)), (some (1 : Int)), (some (2 : Int)), (some (9 : Int))] (v__law_pick r18.2 (5 : Int)).1), (v__law_pick r18.2 (5 : Int)).2) (fun r20 : (Option Int) × (List Int) => (letC ((x13, (atZ [Wd.read, Wd.write] (v__law_pick r20.2 (2 : Int)).1), r18.1, r20.1), (v__law_pick r20.2 (2 : Int)).2) (fun r22 : (Int × Wd × Int × (Option Int)) × (List Int) => ((v__law_pick r22.2 ((st12.2.length : Int) + (1 : Int))).2, (insT st12.2 (v__law_pick r22.2 ((st12.2.length : Int) + (1 : Int))).1 r22.1)))))))) else ((if (decide ((atZ r8.1 x13) = Wd.out)) = true then (v__law_pick st12.1 (3 : Int)).2 else st12.1), st12.2))
def K__law_any_room_3 (r8 : (List Wd) × (List Int)) (x13 : Int) (st12 : (List Int) × (List (Int × Wd × Int × (Option Int)))) : Prop := (inR r8.1 x13 ∧ ((decide ((atZ r8.1 x13) = Wd.out)) = true → (d__law_pick st12.1 (3 : Int))) ∧ (((decide ((atZ r8.1 x13) = Wd.out)) && (decide ((0 : Int) < (v__law_pick st12.1 (3 : Int)).1))) = true → (d__law_pick (if (decide ((atZ r8.1 x13) = Wd.out)) = true then (v__law_pick st12.1 (3 : Int)).2 else st12.1) (6 : Int) ∧ inR [(0 : Int), (0 : Int), (1 : Int), (2 : Int), (9 : Int), (999 : Int)] (v__law_pick (if (decide ((atZ r8.1 x13) = Wd.out)) = true then (v__law_pick st12.1 (3 : Int)).2 else st12.1) (6 : Int)).1 ∧ letC ((atZ [(0 : Int), (0 : Int), (1 : Int), (2 : Int), (9 : Int), (999 : Int)] (v__law_pick (if (decide ((atZ r8.1 x13) = Wd.out)) = true then (v__law_pick st12.1 (3 : Int)).2 else st12.1) (6 : Int)).1), (v__law_pick (if (decide ((atZ r8.1 x13) = Wd.out)) = true then (v__law_pick st12.1 (3 : Int)).2 else st12.1) (6 : Int)).2) (fun r18 : Int × (List Int) => (d__law_pick r18.2 (5 : Int) ∧ inR [(none : (Option Int)), (none : (Option Int)), (some (1 : Int)), (some (2 : Int)), (some (9 : Int))] (v__law_pick r18.2 (5 : Int)).1 ∧ letC ((atZ [(none : (Option Int)), (none : (Option Int)), (some (1 : Int)), (some (2 : Int)), (some (9 : Int))] (v__law_pick r18.2 (5 : Int)).1), (v__law_pick r18.2 (5 : Int)).2) (fun r20 : (Option Int) × (List Int) => (d__law_pick r20.2 (2 : Int) ∧ inR [Wd.read, Wd.write] (v__law_pick r20.2 (2 : Int)).1 ∧ letC ((x13, (atZ [Wd.read, Wd.write] (v__law_pick r20.2 (2 : Int)).1), r18.1, r20.1), (v__law_pick r20.2 (2 : Int)).2) (fun r22 : (Int × Wd × Int × (Option Int)) × (List Int) => (d__law_pick r22.2 ((st12.2.length : Int) + (1 : Int)) ∧ ((st12.2).length < 16777216 ∧ 0 ≤ (v__law_pick r22.2 ((st12.2.length : Int) + (1 : Int))).1 ∧ (v__law_pick r22.2 ((st12.2.length : Int) + (1 : Int))).1 < 1000000000))))))))))
noncomputable def c__law_any_room (left_here_ : (List Int)) (n_ : Int) : Ctl Empty Empty (((List Wd) × (List (Int × Wd × Int × (Option Int)))) × List Int) Empty := (letC [Wd.out, Wd.out, Wd.out, Wd.reads, Wd.reads, Wd.rising, Wd.writes, Wd.raised] (fun r1 : (List Wd) => (letC ((mapSt (G__law_any_room_0 r1) (rngT 0 n_) left_here_).1, (mapSt (G__law_any_room_0 r1) (rngT 0 n_) left_here_).2) (fun r8 : (List Wd) × (List Int) => (letC ([] : List (Int × Wd × Int × (Option Int))) (fun r10 : (List (Int × Wd × Int × (Option Int))) => (letC (foldV (B__law_any_room_2 r8) (rngT 0 n_) (r8.2, r10)) (fun s25 : (List Int) × (List (Int × Wd × Int × (Option Int))) => (.rt ((r8.1, s25.2), s25.1))))))))))
noncomputable def v__law_any_room (left_here_ : (List Int)) (n_ : Int) : (((List Wd) × (List (Int × Wd × Int × (Option Int)))) × List Int) := (c__law_any_room left_here_ n_).get
def d__law_any_room (left_here_ : (List Int)) (n_ : Int) : Prop := (letC [Wd.out, Wd.out, Wd.out, Wd.reads, Wd.reads, Wd.rising, Wd.writes, Wd.raised] (fun r1 : (List Wd) => ((-1000000 ≤ n_ ∧ n_ ≤ 1000000) ∧ okSt (G__law_any_room_0 r1) (K__law_any_room_1 r1) (rngT 0 n_) left_here_ ∧ letC ((mapSt (G__law_any_room_0 r1) (rngT 0 n_) left_here_).1, (mapSt (G__law_any_room_0 r1) (rngT 0 n_) left_here_).2) (fun r8 : (List Wd) × (List Int) => (letC ([] : List (Int × Wd × Int × (Option Int))) (fun r10 : (List (Int × Wd × Int × (Option Int))) => ((-1000000 ≤ n_ ∧ n_ ≤ 1000000) ∧ okFold (B__law_any_room_2 r8) (K__law_any_room_3 r8) (rngT 0 n_) (r8.2, r10))))))))
theorem t__law_any_room (left_here_ : (List Int)) (n_ : Int) (h : Hh) (p : Nat) (hp : h[p]? = some (oL D.int left_here_)) (ok : d__law_any_room left_here_ n_) : F__law_any_room (.ref p :: [D.int n_]) h = .ok ((eT2 (eS eW) (eS (eT4 D.int eW D.int (eO D.int)))) (v__law_any_room left_here_ n_).1) (h.set p (oL D.int (v__law_any_room left_here_ n_).2)) :=
  fn_bor (c := c__law_any_room left_here_ n_) (hN := Nat.le_of_ble_eq_true rfl) hp (qs_let (e := (eL eW)) (ok := (fun r1 : (List Wd) => ((-1000000 ≤ n_ ∧ n_ ≤ 1000000) ∧ okSt (G__law_any_room_0 r1) (K__law_any_room_1 r1) (rngT 0 n_) left_here_ ∧ letC ((mapSt (G__law_any_room_0 r1) (rngT 0 n_) left_here_).1, (mapSt (G__law_any_room_0 r1) (rngT 0 n_) left_here_).2) (fun r8 : (List Wd) × (List Int) => (letC ([] : List (Int × Wd × Int × (Option Int))) (fun r10 : (List (Int × Wd × Int × (Option Int))) => ((-1000000 ≤ n_ ∧ n_ ≤ 1000000) ∧ okFold (B__law_any_room_2 r8) (K__law_any_room_3 r8) (rngT 0 n_) (r8.2, r10)))))))) (ql_frz (ql_cons (q_c (d := eW Wd.out)) (ql_cons (q_c (d := eW Wd.out)) (ql_cons (q_c (d := eW Wd.out)) (ql_cons (q_c (d := eW Wd.reads)) (ql_cons (q_c (d := eW Wd.reads)) (ql_cons (q_c (d := eW Wd.rising)) (ql_cons (q_c (d := eW Wd.writes)) (ql_cons (q_c (d := eW Wd.raised)) ql_nil))))))))) ok (fun r1 kr1 => (qs_letX (r := ((mapSt (G__law_any_room_0 r1) (rngT 0 n_) left_here_).1, (mapSt (G__law_any_room_0 r1) (rngT 0 n_) left_here_).2)) (ed := fun r : (List Wd) × (List Int) => (eS eW) r.1) (Ev := (fun r : (List Wd) × (List Int) => [some (Sl.bor p (oL D.int r.2)), some (Sl.v (D.int n_)), some (Sl.v ((eL eW) r1)), none, none, none, none, none, none])) (ok := (fun r8 : (List Wd) × (List Int) => (letC ([] : List (Int × Wd × Int × (Option Int))) (fun r10 : (List (Int × Wd × Int × (Option Int))) => ((-1000000 ≤ n_ ∧ n_ ≤ 1000000) ∧ okFold (B__law_any_room_2 r8) (K__law_any_room_3 r8) (rngT 0 n_) (r8.2, r10)))))) (q_opN (qa_cons (ql_frz (ql_mapX (i := 0) (s0 := [some (Sl.bor p (oL D.int left_here_)), some (Sl.v (D.int n_)), some (Sl.v ((eL eW) r1)), none, none, none, none, none, none]) (oc := oL D.int) (g := (G__law_any_room_0 r1)) (ok := (K__law_any_room_1 r1)) (e := D.int) (l0 := left_here_) (qi_rng1 (q_slot 1 rfl) kr1.1) (by decide) (fun _ => rfl) (fun _ _ => trivial) (fun y3 m4 l6 ke => (q_op2 (q_slot 2 rfl) (q_callB2 (.inr ⟨_, rfl⟩) (qa_cons (q_c (d := .int 8)) qa_nil) (.inr ⟨_, rfl⟩) (fun h p hp => t__law_pick l6 (8 : Int) h p hp ke.1)) (o_ixL eW _ _ ke.2))) kr1.2.1)) qa_nil) (o_tupL eW _)) kr1.2.2 (fun r8 kr8 => (qs_new (e := (eT4 D.int eW D.int (eO D.int))) (ok := (fun r10 : (List (Int × Wd × Int × (Option Int))) => ((-1000000 ≤ n_ ∧ n_ ≤ 1000000) ∧ okFold (B__law_any_room_2 r8) (K__law_any_room_3 r8) (rngT 0 n_) (r8.2, r10)))) ql_nil kr8 (fun r10 kr10 => (qs_seqV (v := (foldV (B__law_any_room_2 r8) (rngT 0 n_) (r8.2, r10))) (E1 := (fun st : (List Int) × (List (Int × Wd × Int × (Option Int))) => [some (Sl.bor p (oL D.int st.1)), some (Sl.v (D.int n_)), some (Sl.v ((eL eW) r1)), some (Sl.v ((eS eW) r8.1)), some (Sl.own (oL (eT4 D.int eW D.int (eO D.int)) st.2)), none, none, none, none])) (ok := (fun s25 : (List Int) × (List (Int × Wd × Int × (Option Int))) => True)) (qs_forv (e := D.int) (f := (B__law_any_room_2 r8)) (ok := (K__law_any_room_3 r8)) (E := (fun st : (List Int) × (List (Int × Wd × Int × (Option Int))) => [some (Sl.bor p (oL D.int st.1)), some (Sl.v (D.int n_)), some (Sl.v ((eL eW) r1)), some (Sl.v ((eS eW) r8.1)), some (Sl.own (oL (eT4 D.int eW D.int (eO D.int)) st.2)), none, none, none, none])) (s0 := (r8.2, r10)) (qi_rng1 (q_slot 1 rfl) kr10.1) (.same (.same (.same (.same (.same (.drop (.drop (.drop (.drop .nil))))))))) (fun _ _ => trivial) (fun x13 m14 st12 kst12 => (qs_ifv (qt_andX (E := (fun l : (List Int) => [some (Sl.bor p (oL D.int l)), some (Sl.v (D.int n_)), some (Sl.v ((eL eW) r1)), some (Sl.v ((eS eW) r8.1)), some (Sl.own (oL (eT4 D.int eW D.int (eO D.int)) st12.2)), some (Sl.v (D.int x13)), none, none, none])) (l1 := st12.1) (l2 := (v__law_pick st12.1 (3 : Int)).2) (qt_e (q_op2 (q_op2 (q_slot 3 rfl) (q_slot 5 rfl) (o_ixS eW _ _ kst12.1)) (q_c (d := eW Wd.out)) (o_eq eW _ _))) (fun kb16 => (qt_e (q_op2 (q_callB2 (.inr ⟨_, rfl⟩) (qa_cons (q_c (d := .int 3)) qa_nil) (.inr ⟨_, rfl⟩) (fun h p hp => t__law_pick st12.1 (3 : Int) h p hp (kst12.2.1 kb16))) (q_c (d := .int 0)) (fun _ => rfl))))) (fun kb17 => (qs_letXV (r := ((atZ [(0 : Int), (0 : Int), (1 : Int), (2 : Int), (9 : Int), (999 : Int)] (v__law_pick (if (decide ((atZ r8.1 x13) = Wd.out)) = true then (v__law_pick st12.1 (3 : Int)).2 else st12.1) (6 : Int)).1), (v__law_pick (if (decide ((atZ r8.1 x13) = Wd.out)) = true then (v__law_pick st12.1 (3 : Int)).2 else st12.1) (6 : Int)).2)) (ed := fun r : Int × (List Int) => D.int r.1) (Ev := (fun r : Int × (List Int) => [some (Sl.bor p (oL D.int r.2)), some (Sl.v (D.int n_)), some (Sl.v ((eL eW) r1)), some (Sl.v ((eS eW) r8.1)), some (Sl.own (oL (eT4 D.int eW D.int (eO D.int)) st12.2)), some (Sl.v (D.int x13)), none, none, none])) (ok := (fun r18 : Int × (List Int) => (d__law_pick r18.2 (5 : Int) ∧ inR [(none : (Option Int)), (none : (Option Int)), (some (1 : Int)), (some (2 : Int)), (some (9 : Int))] (v__law_pick r18.2 (5 : Int)).1 ∧ letC ((atZ [(none : (Option Int)), (none : (Option Int)), (some (1 : Int)), (some (2 : Int)), (some (9 : Int))] (v__law_pick r18.2 (5 : Int)).1), (v__law_pick r18.2 (5 : Int)).2) (fun r20 : (Option Int) × (List Int) => (d__law_pick r20.2 (2 : Int) ∧ inR [Wd.read, Wd.write] (v__law_pick r20.2 (2 : Int)).1 ∧ letC ((x13, (atZ [Wd.read, Wd.write] (v__law_pick r20.2 (2 : Int)).1), r18.1, r20.1), (v__law_pick r20.2 (2 : Int)).2) (fun r22 : (Int × Wd × Int × (Option Int)) × (List Int) => (d__law_pick r22.2 ((st12.2.length : Int) + (1 : Int)) ∧ ((st12.2).length < 16777216 ∧ 0 ≤ (v__law_pick r22.2 ((st12.2.length : Int) + (1 : Int))).1 ∧ (v__law_pick r22.2 ((st12.2.length : Int) + (1 : Int))).1 < 1000000000)))))))) (q_op2 (ql_frz (ql_cons (q_c (d := .int 0)) (ql_cons (q_c (d := .int 0)) (ql_cons (q_c (d := .int 1)) (ql_cons (q_c (d := .int 2)) (ql_cons (q_c (d := .int 9)) (ql_cons (q_c (d := .int 999)) ql_nil))))))) (q_callB2 (.inr ⟨_, rfl⟩) (qa_cons (q_c (d := .int 6)) qa_nil) (.inr ⟨_, rfl⟩) (fun h p hp => t__law_pick (if (decide ((atZ r8.1 x13) = Wd.out)) = true then (v__law_pick st12.1 (3 : Int)).2 else st12.1) (6 : Int) h p hp (kst12.2.2 kb17).1)) (o_ixL D.int _ _ (kst12.2.2 kb17).2.1)) (kst12.2.2 kb17).2.2 (fun r18 kr18 => (qs_letXV (r := ((atZ [(none : (Option Int)), (none : (Option Int)), (some (1 : Int)), (some (2 : Int)), (some (9 : Int))] (v__law_pick r18.2 (5 : Int)).1), (v__law_pick r18.2 (5 : Int)).2)) (ed := fun r : (Option Int) × (List Int) => (eO D.int) r.1) (Ev := (fun r : (Option Int) × (List Int) => [some (Sl.bor p (oL D.int r.2)), some (Sl.v (D.int n_)), some (Sl.v ((eL eW) r1)), some (Sl.v ((eS eW) r8.1)), some (Sl.own (oL (eT4 D.int eW D.int (eO D.int)) st12.2)), some (Sl.v (D.int x13)), some (Sl.v (D.int r18.1)), none, none])) (ok := (fun r20 : (Option Int) × (List Int) => (d__law_pick r20.2 (2 : Int) ∧ inR [Wd.read, Wd.write] (v__law_pick r20.2 (2 : Int)).1 ∧ letC ((x13, (atZ [Wd.read, Wd.write] (v__law_pick r20.2 (2 : Int)).1), r18.1, r20.1), (v__law_pick r20.2 (2 : Int)).2) (fun r22 : (Int × Wd × Int × (Option Int)) × (List Int) => (d__law_pick r22.2 ((st12.2.length : Int) + (1 : Int)) ∧ ((st12.2).length < 16777216 ∧ 0 ≤ (v__law_pick r22.2 ((st12.2.length : Int) + (1 : Int))).1 ∧ (v__law_pick r22.2 ((st12.2.length : Int) + (1 : Int))).1 < 1000000000)))))) (q_op2 (ql_frz (ql_cons (q_none (e := D.int)) (ql_cons (q_none (e := D.int)) (ql_cons (q_some (q_c (d := .int 1))) (ql_cons (q_some (q_c (d := .int 2))) (ql_cons (q_some (q_c (d := .int 9))) ql_nil)))))) (q_callB2 (.inr ⟨_, rfl⟩) (qa_cons (q_c (d := .int 5)) qa_nil) (.inr ⟨_, rfl⟩) (fun h p hp => t__law_pick r18.2 (5 : Int) h p hp kr18.1)) (o_ixL (eO D.int) _ _ kr18.2.1)) kr18.2.2 (fun r20 kr20 => (qs_letXV (r := ((x13, (atZ [Wd.read, Wd.write] (v__law_pick r20.2 (2 : Int)).1), r18.1, r20.1), (v__law_pick r20.2 (2 : Int)).2)) (ed := fun r : (Int × Wd × Int × (Option Int)) × (List Int) => (eT4 D.int eW D.int (eO D.int)) r.1) (Ev := (fun r : (Int × Wd × Int × (Option Int)) × (List Int) => [some (Sl.bor p (oL D.int r.2)), some (Sl.v (D.int n_)), some (Sl.v ((eL eW) r1)), some (Sl.v ((eS eW) r8.1)), some (Sl.own (oL (eT4 D.int eW D.int (eO D.int)) st12.2)), some (Sl.v (D.int x13)), some (Sl.v (D.int r18.1)), some (Sl.v ((eO D.int) r20.1)), none])) (ok := (fun r22 : (Int × Wd × Int × (Option Int)) × (List Int) => (d__law_pick r22.2 ((st12.2.length : Int) + (1 : Int)) ∧ ((st12.2).length < 16777216 ∧ 0 ≤ (v__law_pick r22.2 ((st12.2.length : Int) + (1 : Int))).1 ∧ (v__law_pick r22.2 ((st12.2.length : Int) + (1 : Int))).1 < 1000000000)))) (q_t4 (q_slot 5 rfl) (q_op2 (ql_frz (ql_cons (q_c (d := eW Wd.read)) (ql_cons (q_c (d := eW Wd.write)) ql_nil))) (q_callB2 (.inr ⟨_, rfl⟩) (qa_cons (q_c (d := .int 2)) qa_nil) (.inr ⟨_, rfl⟩) (fun h p hp => t__law_pick r20.2 (2 : Int) h p hp kr20.1)) (o_ixL eW _ _ kr20.2.1)) (q_slot 6 rfl) (q_slot 7 rfl)) kr20.2.2 (fun r22 kr22 => (qs_doE (q_methS (i := 4) (qa_cons (q_callB2 (.inr ⟨_, rfl⟩) (qa_cons (q_op2 (q_opN1 (.inl rfl) (o_lenO (eT4 D.int eW D.int (eO D.int)) _)) (q_c (d := .int 1)) (fun _ => rfl)) qa_nil) (.inr ⟨_, rfl⟩) (fun h p hp => t__law_pick r22.2 ((st12.2.length : Int) + (1 : Int)) h p hp kr22.1)) (qa_cons (q_slot 8 rfl) qa_nil)) ⟨_, (.inl rfl)⟩ (.inl rfl) (fun h p o hp ho => isL_own (e := (eT4 D.int eW D.int (eO D.int))) (.inl rfl) h p o hp ho) (o_insertO _ _ _ kr22.2)) (.same (.same (.same (.same (.same (.drop (.drop (.drop (.drop .nil))))))))))))))))) (fun kb24 => (qs_next (.same (.same (.same (.same (.same (.drop (.drop (.drop (.drop .nil))))))))))))) kr10.2) trivial (fun s25 ks25 => (qs_retB (i := 0) (q_t2 (q_slot 3 rfl) (q_opN1 (.inl rfl) (o_tupO (eT4 D.int eW D.int (eO D.int)) _))) rfl)))))))))

/-! ### is_room, of anything plain -/
def isOne (ws : List Str) (d : D) : Bool := match d with
  | .str x => decide (x ∈ ws)
  | _ => false
def btw (a b : Int) (d : D) : Bool := match d with
  | .int i => decide (a ≤ i) && decide (i ≤ b)
  | _ => false
def okLeft (d : D) : Bool := match d with
  | .non => true
  | d => btw 1 9 d
abbrev RW2 : List Str := ["read", "write"]
def okEn (n : Int) (d : D) : Bool := match d with
  | .tup [g, w, m, l] => btw 0 (n - 1) g && (isOne RW2 w && (btw 0 999 m && okLeft l))
  | _ => false
def gD (d : D) : Int := match d with
  | .tup (.int g :: _) => g
  | _ => 0
def outAt (ws : List D) (g : Int) : Bool := match ws[g.toNat]? with
  | some (.str x) => decide (x = ("out" : Str))
  | _ => false
def okWt (n : Int) (ws es : List D) : Bool := es.all (okEn n) && (decide (setN (es.map gD) = es.length) && (es.map gD).all (outAt ws))
def wtOf (n : Int) (ws : List D) (d : D) : Bool := match d with
  | .tup es => okWt n ws es
  | _ => false
def okRm (n : Int) (d : D) : Bool := match d with
  | .tup [.tup ws, .tup es] => decide ((ws.length : Int) = n) && (ws.all (isOne PL) && okWt n ws es)
  | _ => false
def Sm (d : D) : Prop := ∀ ws es, d = .tup [.tup ws, .tup es] → es.length < 64
theorem oks_PL : oks PL = true := by decide +kernel
theorem oks_RW2 : oks RW2 = true := by decide +kernel
theorem one_of {n : Nat} {d : D} (f : fit n d = true) {ws : List Str} (hw : oks ws = true) (h : Hh) : F_is_one_of [d, .tup (ws.map D.str)] h = .ok (.bl (isOne ws d)) h := by
  unfold F_is_one_of b_is_one_of
  cases n with
  | zero => cases f
  | succ n =>
    cases d with
    | non => simp [kit_all, isOne]
    | bl b => simp [kit_bool, isOne]
    | int i => simp [kit_int, isOne]
    | str x =>
      have i1 := fun h => in_strs (x := x) (ws := ws) f hw false h
      simp [kit_str, isOne, i1]
    | tup ds => simp [kit_tuple, isOne]
    | lst ds => simp [kit_list, isOne]
    | ref i => cases f
    | glb v => cases f
    | scr ns => cases f
    | wtp ds => cases f
theorem between_at {n : Nat} {d : D} (f : fit n d = true) (a b : Int) (h : Hh) : F_is_between [d, .int a, .int b] h = .ok (.bl (btw a b d)) h := by
  unfold F_is_between b_is_between
  cases n with
  | zero => cases f
  | succ n =>
    cases d with
    | non => simp [kit_all, btw]
    | bl b => simp [kit_bool, btw]
    | int i => by_cases h1 : a ≤ i <;> by_cases h2 : i ≤ b <;> simp [kit_int, btw, h1, h2]
    | str x => simp [kit_str, btw]
    | tup ds => simp [kit_tuple, btw]
    | lst ds => simp [kit_list, btw]
    | ref i => cases f
    | glb v => cases f
    | scr ns => cases f
    | wtp ds => cases f
theorem left_at {n : Nat} {d : D} (f : fit n d = true) (h : Hh) : F_is_left [d] h = .ok (.bl (okLeft d)) h := by
  unfold F_is_left b_is_left
  have b := between_at f 1 9 h
  cases n with
  | zero => cases f
  | succ n =>
    cases d with
    | non => simp [okLeft]
    | bl b => simp [okLeft, b]
    | int i => simp [okLeft, b]
    | str x => simp [okLeft, b]
    | tup ds => simp [okLeft, b]
    | lst ds => simp [okLeft, b]
    | ref i => cases f
    | glb v => cases f
    | scr ns => cases f
    | wtp ds => cases f
theorem entry_at {k : Nat} {d : D} (f : fit (k + 1) d = true) (n : Int) (h : Hh) : F_is_entry [.int n, d] h = .ok (.bl (okEn n d)) h := by
  unfold F_is_entry b_is_entry
  cases d with
  | non => simp [kit_all, okEn]
  | bl b => simp [kit_bool, okEn]
  | int i => simp [kit_int, okEn]
  | str x => simp [kit_str, okEn]
  | lst ds => simp [kit_list, okEn]
  | tup ds =>
    by_cases hl : ds.length = 4
    · have f := fit_tup.mp f
      match ds, hl, f with
      | [g, w, m, l], _, f =>
        have f0 := f g (by simp)
        have f1 := f w (by simp)
        have f2 := f m (by simp)
        have f3 := f l (by simp)
        have b0 := fun h => between_at f0 0 (n - 1) h
        have b1 := fun h => one_of f1 oks_RW2 h
        simp only [List.map] at b1
        have b2 := fun h => between_at f2 0 999 h
        have b3 := fun h => left_at f3 h
        cases h1 : btw 0 (n - 1) g <;> cases h2 : isOne RW2 w <;> cases h3 : btw 0 999 m <;> cases h4 : okLeft l <;> simp [kit_tuple, okEn, b0, b1, b2, b3, h1, h2, h3, h4]
    · have hl' : ¬ (ds.length : Int) = 4 := by omega
      have : okEn n (.tup ds) = false := by
        unfold okEn
        split
        · rename_i z; cases z; simp at hl
        · rfl
      simp [kit_tuple, this, hl']
  | ref i => cases f
  | glb v => cases f
  | scr ns => cases f
  | wtp ds => cases f
theorem eq_str2 {x y : Str} (hx : PyData.strOk x = true) (hy : PyData.strOk y = true) (h : Hh) : eqO (.str x) (.str y) h = some (.bl (decide (x = y))) := by
  unfold eqO
  rw [py_str hx, py_str hy]
  show some (D.bl (x == y)) = _
  rw [deq]
theorem okEn_form {n : Int} {d : D} (h : okEn n d = true) : ∃ g w m l, d = .tup [.int g, w, m, l] ∧ 0 ≤ g ∧ g ≤ n - 1 ∧ gD d = g := by
  unfold okEn at h
  split at h
  · rename_i g w m l
    rw [Bool.and_eq_true] at h
    have h1 := h.1
    cases g with
    | int i =>
      have h1 : (decide (0 ≤ i) && decide (i ≤ n - 1)) = true := h1
      rw [Bool.and_eq_true] at h1
      exact ⟨i, w, m, l, rfl, of_decide_eq_true h1.1, of_decide_eq_true h1.2, rfl⟩
    | _ => cases h1
  · cases h
theorem waits_at {k : Nat} {d : D} (f : fit (k + 2) d = true) {n : Int} {ws : List D} (hl : (ws.length : Int) = n) (hw : ws.all (isOne PL) = true) (h64 : ∀ es, d = .tup es → es.length < 64) (h : Hh) :
    F_are_waits [.int n, .tup ws, d] h = .ok (.bl (wtOf n ws d)) h := by
  unfold F_are_waits b_are_waits
  cases d with
  | non => simp [kit_all, wtOf]
  | bl b => simp [kit_bool, wtOf]
  | int i => simp [kit_int, wtOf]
  | str x => simp [kit_str, wtOf]
  | lst ds => simp [kit_list, wtOf]
  | tup es =>
    have f := fit_tup.mp f
    have h64 := h64 es rfl
    have c1 := comp_map (T := .name 4) (e := eCall F_is_entry (aCons (eSlot 0) (aCons (eSlot 4) aNil))) (env := [some (.int n), some (.tup ws), some (.tup es), none, none, none]) (h := h) (fun d => .bl (okEn n d)) es fun d m => ⟨[some (.int n), some (.tup ws), some (.tup es), none, some d, none], rfl, by simp [entry_at (f d m)]⟩
    cases hA : es.all (okEn n) with
    | false => simp [kit_tuple, wtOf, c1, hA, okWt]
    | true =>
      have hA' := List.all_eq_true.mp hA
      have c2 := comp_map (T := .name 4) (e := eOp2 ixA (eSlot 4) (eC (.int 0))) (env := [some (.int n), some (.tup ws), some (.tup es), none, none, none]) (h := h) (fun d => .int (gD d)) es fun d m => by
        obtain ⟨g, w, m2, l, rfl, _, _, e⟩ := okEn_form (hA' d m)
        exact ⟨[some (.int n), some (.tup ws), some (.tup es), none, some (.tup [.int g, w, m2, l]), none], rfl, by simp [e]⟩
      have s1 : ∀ h, lenSetO (.lst (es.map fun d => D.int (gD d))) h = some (.int (setN (es.map gD))) := fun h => by
        have := o_setI (es.map gD) (by rw [List.length_map]; exact h64) h
        unfold eL at this
        rw [List.map_map] at this
        exact this
      have s2 : ∀ (a b : Int) h, eqO (.int a) (.int b) h = some (.bl (decide (a = b))) := fun a b => o_eq D.int a b
      have c3 := comp_map (T := .name 5) (e := eOp2 eqO (eOp2 ixA (eSlot 1) (eSlot 5)) (eC (.str "out"))) (env := [some (.int n), some (.tup ws), some (.tup es), some (.lst (es.map fun d => D.int (gD d))), none, none]) (h := h) (fun d => .bl (match d with | .int g => outAt ws g | _ => false)) (es.map fun d => D.int (gD d)) fun d m => by
        obtain ⟨e, he, rfl⟩ := List.mem_map.mp m
        obtain ⟨g, w, m2, l, rfl, g0, g1, eg⟩ := okEn_form (hA' e he)
        rw [eg]
        have hg : g.toNat < ws.length := by omega
        have hx := List.all_eq_true.mp hw _ (List.getElem_mem hg)
        cases hd : ws[g.toNat] with
        | str x =>
          rw [hd] at hx
          have hx : decide (x ∈ PL) = true := hx
          have hok := ok_PL (of_decide_eq_true hx)
          have e1 : ws[g.toNat]? = some (.str x) := by rw [List.getElem?_eq_getElem hg, hd]
          have e2 : outAt ws g = decide (x = ("out" : Str)) := by unfold outAt; rw [e1]
          have e3 := fun h => eq_str2 hok (show PyData.strOk ("out" : Str) = true by decide +kernel) h
          exact ⟨[some (.int n), some (.tup ws), some (.tup es), some (.lst (es.map fun d => D.int (gD d))), none, some (.int g)], rfl, by simp [g0, e1, e2, e3]⟩
        | _ => rw [hd] at hx; cases hx
      have c3' : (es.map fun d => D.int (gD d)).map (fun d => D.bl (match d with | .int g => outAt ws g | _ => false)) = es.map fun d => D.bl (outAt ws (gD d)) := by rw [List.map_map]; rfl
      rw [c3'] at c3
      have al : ∀ b, (es.map gD).all (outAt ws) = b → es.all (fun d => outAt ws (gD d)) = b := fun b e => by rw [← e, List.all_map]; rfl
      cases h1 : decide (setN (es.map gD) = es.length) with
      | false =>
        have h1' : ¬ ((setN (es.map gD) : Nat) : Int) = (es.length : Int) := by have := of_decide_eq_false h1; omega
        simp [kit_tuple, wtOf, c1, c2, hA, okWt, eLenSet, s1, s2, h1, h1']
      | true =>
        have h1' : ((setN (es.map gD) : Nat) : Int) = (es.length : Int) := by have := of_decide_eq_true h1; omega
        cases h2 : (es.map gD).all (outAt ws) with
        | false => simp [kit_tuple, wtOf, c1, c2, c3, hA, okWt, eLenSet, s1, s2, h1, h1', al _ h2, h2]
        | true => simp [kit_tuple, wtOf, c1, c2, c3, hA, okWt, eLenSet, s1, s2, h1, h1', al _ h2, h2]
  | ref i => cases f
  | glb v => cases f
  | scr ns => cases f
  | wtp ds => cases f
theorem room_at {k : Nat} {d : D} (f : fit (k + 3) d = true) (n : Int) (sm : Sm d) (h : Hh) : F_is_room [.int n, d] h = .ok (.bl (okRm n d)) h := by
  unfold F_is_room b_is_room
  cases d with
  | non => simp [kit_all, okRm]
  | bl b => simp [kit_bool, okRm]
  | int i => simp [kit_int, okRm]
  | str x => simp [kit_str, okRm]
  | lst ds => simp [kit_list, okRm]
  | tup ds =>
    by_cases hl : ds.length = 2
    · have f := fit_tup.mp f
      match ds, hl, f, sm with
      | [a, b], _, f, sm =>
        have fa := f a (by simp)
        have fb := f b (by simp)
        cases a with
        | non => simp [kit_tuple, kit_all, okRm]
        | bl b => simp [kit_tuple, kit_bool, okRm]
        | int i => simp [kit_tuple, kit_int, okRm]
        | str x => simp [kit_tuple, kit_str, okRm]
        | lst ds => simp [kit_tuple, kit_list, okRm]
        | tup ws =>
          have fw := fit_tup.mp fa
          by_cases hn : (ws.length : Int) = n
          · have c1 := comp_map (T := .name 2) (e := eCall F_is_one_of (aCons (eSlot 2) (aCons (eC c_PLACES) aNil))) (env := [some (.int n), some (.tup [.tup ws, b]), none]) (h := h) (fun d => .bl (isOne PL d)) ws fun d m => ⟨[some (.int n), some (.tup [.tup ws, b]), some d], rfl, by
              have := one_of (fw d m) oks_PL h
              simp only [List.map] at this
              simp [this]⟩
            cases hA : ws.all (isOne PL) with
            | false =>
              have : okRm n (.tup [.tup ws, b]) = false := by
                unfold okRm
                split
                · rename_i z; cases z; rw [hA, Bool.false_and, Bool.and_false]
                · rfl
              simp [kit_tuple, c1, hA, hn, this]
            | true =>
              have w := waits_at fb hn hA (fun es e => sm ws es (by rw [e])) h
              have : okRm n (.tup [.tup ws, b]) = wtOf n ws b := by
                cases b <;> simp [okRm, hn, hA, wtOf]
              simp [kit_tuple, c1, hA, hn, w, this]
          · have : okRm n (.tup [.tup ws, b]) = false := by
              unfold okRm
              split
              · rename_i z; cases z; rw [decide_eq_false hn]; rfl
              · rfl
            simp [kit_tuple, hn, this]
        | ref i => cases fa
        | glb v => cases fa
        | scr ns => cases fa
        | wtp ds => cases fa
    · have hl' : ¬ (ds.length : Int) = 2 := by omega
      have : okRm n (.tup ds) = false := by
        unfold okRm
        split
        · rename_i z; cases z; simp at hl
        · rfl
      simp [kit_tuple, this, hl']
  | ref i => cases f
  | glb v => cases f
  | scr ns => cases f
  | wtp ds => cases f

/-! ### sorted lists and sets of numbers -/
theorem rng_le (n : Nat) : (rngT 0 (n : Int)).Pairwise (· < ·) := by
  unfold rngT
  rw [List.pairwise_map]
  exact List.pairwise_lt_range.imp fun h => by omega
theorem cnt_nodup {l : List Int} (h : l.Nodup) (a : Int) : l.count a = if a ∈ l then 1 else 0 := by
  by_cases ha : a ∈ l
  · rw [if_pos ha]
    have h1 := List.count_pos_iff.mpr ha
    have h2 := List.nodup_iff_count.mp h a
    omega
  · rw [if_neg ha]; exact List.count_eq_zero.mpr ha
theorem perm_of {a b : List Int} (ha : a.Nodup) (hb : b.Nodup) (h : ∀ x, x ∈ a ↔ x ∈ b) : a.Perm b := List.perm_iff_count.mpr fun x => by
  rw [cnt_nodup ha, cnt_nodup hb]
  by_cases hx : x ∈ a
  · rw [if_pos hx, if_pos ((h x).mp hx)]
  · rw [if_neg hx, if_neg fun z => hx ((h x).mpr z)]
theorem setN_full {l : List Int} (h : setN l = l.length) : l.Nodup := by
  have key : ∀ (k : Nat), k ≤ l.length → (firstMet (fun i => l.getD i 0) k).length ≤ k ∧ ((firstMet (fun i => l.getD i 0) k).length = k → firstMet (fun i => l.getD i 0) k = l.take k ∧ (l.take k).Nodup) := by
    intro k
    induction k with
    | zero => intro _; exact ⟨Nat.le_refl _, fun _ => ⟨rfl, by simp⟩⟩
    | succ k ih =>
      intro hk
      obtain ⟨i1, i2⟩ := ih (by omega)
      rw [firstMet_succ]
      have e : l.getD k 0 = l[k] := by rw [List.getD_eq_getElem?_getD, List.getElem?_eq_getElem (by omega)]; rfl
      rw [e]
      unfold step_dedup
      by_cases ha : (firstMet (fun i => l.getD i 0) k).any (· == l[k]) = true
      · rw [if_pos ha]
        exact ⟨by omega, fun z => by omega⟩
      · rw [if_neg ha]
        refine ⟨by rw [List.length_append, List.length_singleton]; omega, fun z => ?_⟩
        rw [List.length_append, List.length_singleton] at z
        obtain ⟨j1, j2⟩ := i2 (by omega)
        rw [j1] at ha ⊢
        rw [List.take_succ_eq_append_getElem (by omega)]
        refine ⟨rfl, List.nodup_append.mpr ⟨j2, by simp, fun a ha2 b hb => ?_⟩⟩
        rw [List.mem_singleton.mp hb]
        intro q
        exact ha (List.any_eq_true.mpr ⟨a, ha2, by simp [q]⟩)
  have := (key l.length (Nat.le_refl _)).2 h
  rw [List.take_length] at this
  exact this.2
theorem set_sort {n : Nat} {gs : List Int} (hg : ∀ g ∈ gs, 0 ≤ g ∧ g < n) (p : Int → Bool) : decide (sortI gs = (rngT 0 (n : Int)).filter fun g => decide (g ∈ sortI gs) && p g) = (decide (setN gs = gs.length) && gs.all p) := by
  have mem : ∀ x, x ∈ sortI gs ↔ x ∈ gs := fun x => (sortI_perm gs).mem_iff
  rw [Bool.eq_iff_iff, Bool.and_eq_true, decide_eq_true_eq, decide_eq_true_eq, List.all_eq_true]
  constructor
  · intro h
    have nd : (sortI gs).Nodup := by
      rw [h]
      exact List.Nodup.sublist List.filter_sublist ((rng_le n).imp fun h => by omega)
    have nd2 : gs.Nodup := (sortI_perm gs).nodup_iff.mp nd
    refine ⟨setN_nodup nd2, fun g hg => ?_⟩
    have := (mem g).mpr hg
    rw [h] at this
    have := (List.mem_filter.mp this).2
    rw [Bool.and_eq_true] at this
    exact this.2
  · rintro ⟨h1, h2⟩
    have nd := setN_full h1
    refine sorted_one ((sortI_perm gs).trans (perm_of nd (List.Nodup.sublist List.filter_sublist ((rng_le n).imp fun h => by omega)) fun x => ?_)) (sortI_le gs) (List.Pairwise.sublist List.filter_sublist ((rng_le n).imp fun h => by omega))
    rw [List.mem_filter, Bool.and_eq_true, decide_eq_true_eq, mem]
    constructor
    · intro hx
      exact ⟨mem_rngT.mpr (hg x hx), hx, h2 x hx⟩
    · rintro ⟨_, hx, _⟩; exact hx

/-! ### the law's own look at rooms -/
def isI (d : D) : Bool := match d with
  | .int _ => true
  | _ => false
theorem isI_form {d : D} (h : isI d = true) : ∃ i, d = .int i := by
  cases d with
  | int i => exact ⟨i, rfl⟩
  | _ => cases h
theorem whole_at {n : Nat} {d : D} (f : fit n d = true) (h : Hh) : F__law_whole [d] h = .ok (.bl (isI d)) h := by
  unfold F__law_whole b__law_whole
  cases n with
  | zero => cases f
  | succ n =>
    cases d with
    | non => simp [kit_all, isI]
    | bl b => simp [kit_bool, isI]
    | int i => simp [kit_int, isI]
    | str x => simp [kit_str, isI]
    | tup ds => simp [kit_tuple, isI]
    | lst ds => simp [kit_list, isI]
    | ref i => cases f
    | glb v => cases f
    | scr ns => cases f
    | wtp ds => cases f
theorem lentry_at {k : Nat} {d : D} (f : fit (k + 1) d = true) (n : Int) (h : Hh) : F__law_entry [.int n, d] h = .ok (.bl (okEn n d)) h := by
  unfold F__law_entry b__law_entry
  cases d with
  | non => simp [kit_all, okEn]
  | bl b => simp [kit_bool, okEn]
  | int i => simp [kit_int, okEn]
  | str x => simp [kit_str, okEn]
  | lst ds => simp [kit_list, okEn]
  | tup ds =>
    by_cases hl : ds.length = 4
    · have f := fit_tup.mp f
      match ds, hl, f with
      | [g, w, m, l], _, f =>
        have f0 := f g (by simp)
        have f1 := f w (by simp)
        have f2 := f m (by simp)
        have f3 := f l (by simp)
        have b0 := fun h => whole_at f0 h
        have b2 := fun h => whole_at f2 h
        have b3 := fun h => whole_at f3 h
        cases hg : isI g with
        | false =>
          have : okEn n (.tup [g, w, m, l]) = false := by
            have : btw 0 (n - 1) g = false := by cases g <;> first | rfl | cases hg
            simp [okEn, this]
          simp [kit_tuple, b0, hg, this]
        | true =>
          obtain ⟨i, rfl⟩ := isI_form hg
          have no : isOne RW2 w = false → okEn n (.tup [.int i, w, m, l]) = false := fun z => by simp [okEn, z]
          cases k with
          | zero => cases f1
          | succ k =>
            cases w with
            | non => simp [kit_tuple, kit_all, b0, hg, no rfl]
            | bl b => simp [kit_tuple, kit_bool, b0, hg, no rfl]
            | int j => simp [kit_tuple, kit_int, b0, hg, no rfl]
            | tup xs => simp [kit_tuple, b0, hg, no rfl]
            | lst xs => simp [kit_tuple, kit_list, b0, hg, no rfl]
            | ref i => cases f1
            | glb v => cases f1
            | scr ns => cases f1
            | wtp ds => cases f1
            | str x =>
              have i1 := fun h => in_strs (x := x) (ws := RW2) f1 oks_RW2 true h
              simp only [List.map] at i1
              by_cases hx : x ∈ RW2
              · cases hm : isI m with
                | false =>
                  have : okEn n (.tup [.int i, .str x, m, l]) = false := by
                    have : btw 0 999 m = false := by cases m <;> first | rfl | cases hm
                    simp [okEn, this]
                  simp [kit_tuple, kit_str, b0, b2, hg, hm, i1, hx, this]
                | true =>
                  obtain ⟨j, rfl⟩ := isI_form hm
                  by_cases h1 : 0 ≤ j ∧ j < 1000
                  · by_cases h2 : 0 ≤ i ∧ i < n
                    · have e1 : (0 ≤ i) = True := eq_true h2.1
                      have e2 : (i < n) = True := eq_true h2.2
                      have e3 : (0 ≤ j) = True := eq_true h1.1
                      have e4 : (j < 1000) = True := eq_true h1.2
                      have go : okEn n (.tup [.int i, .str x, .int j, l]) = okLeft l := by
                        have a1 : i ≤ n - 1 := by omega
                        have a2 : j ≤ 999 := by omega
                        simp [okEn, btw, isOne, hx, h1.1, h2.1, a1, a2]
                      cases l with
                      | non => simp [kit_tuple, kit_str, b0, b2, b3, hg, hm, i1, hx, e1, e2, e3, e4, go, okLeft]
                      | int q =>
                        have go2 : okLeft (.int q) = (decide (0 < q) && decide (q < 10)) := by
                          show (decide (1 ≤ q) && decide (q ≤ 9)) = _
                          rw [show decide (1 ≤ q) = decide (0 < q) from decide_eq_decide.mpr (by omega), show decide (q ≤ 9) = decide (q < 10) from decide_eq_decide.mpr (by omega)]
                        by_cases g1 : 0 < q <;> by_cases g2 : q < 10 <;> simp [kit_tuple, kit_str, b0, b2, b3, hg, hm, i1, hx, e1, e2, e3, e4, go, go2, isI, g1, g2]
                      | bl b => simp [kit_tuple, kit_str, b0, b2, b3, hg, hm, i1, hx, e1, e2, e3, e4, go, okLeft, btw, isI]
                      | str y => simp [kit_tuple, kit_str, b0, b2, b3, hg, hm, i1, hx, e1, e2, e3, e4, go, okLeft, btw, isI]
                      | tup ys => simp [kit_tuple, kit_str, b0, b2, b3, hg, hm, i1, hx, e1, e2, e3, e4, go, okLeft, btw, isI]
                      | lst ys => simp [kit_tuple, kit_str, b0, b2, b3, hg, hm, i1, hx, e1, e2, e3, e4, go, okLeft, btw, isI]
                      | ref i => cases f3
                      | glb v => cases f3
                      | scr ns => cases f3
                      | wtp ds => cases f3
                    · have : okEn n (.tup [.int i, .str x, .int j, l]) = false := by
                        have : btw 0 (n - 1) (.int i) = false := by
                          show (decide (0 ≤ i) && decide (i ≤ n - 1)) = false
                          by_cases z : 0 ≤ i
                          · rw [decide_eq_false (p := i ≤ n - 1) (by omega), Bool.and_false]
                          · rw [decide_eq_false z, Bool.false_and]
                        simp [okEn, this]
                      have e3 : (0 ≤ j) = True := eq_true h1.1
                      have e4 : (j < 1000) = True := eq_true h1.2
                      by_cases z : 0 ≤ i
                      · have z2 : ¬ i < n := fun q => h2 ⟨z, q⟩
                        simp [kit_tuple, kit_str, b0, b2, hg, hm, i1, hx, e3, e4, z, z2, this]
                      · simp [kit_tuple, kit_str, b0, b2, hg, hm, i1, hx, e3, e4, z, this]
                  · have : okEn n (.tup [.int i, .str x, .int j, l]) = false := by
                      have : btw 0 999 (.int j) = false := by
                        show (decide (0 ≤ j) && decide (j ≤ 999)) = false
                        by_cases z : 0 ≤ j
                        · rw [decide_eq_false (p := j ≤ 999) (by omega), Bool.and_false]
                        · rw [decide_eq_false z, Bool.false_and]
                      simp [okEn, this]
                    by_cases z : 0 ≤ j
                    · have z2 : ¬ j < 1000 := fun q => h1 ⟨z, q⟩
                      simp [kit_tuple, kit_str, b0, b2, hg, hm, i1, hx, z, z2, this]
                    · simp [kit_tuple, kit_str, b0, b2, hg, hm, i1, hx, z, this]
              · have := no (decide_eq_false hx)
                simp [kit_tuple, kit_str, b0, hg, i1, hx, this]
    · have hl' : ¬ (ds.length : Int) = 4 := by omega
      have : okEn n (.tup ds) = false := by
        unfold okEn
        split
        · rename_i z; cases z; simp at hl
        · rfl
      simp [kit_tuple, this, hl']
  | ref i => cases f
  | glb v => cases f
  | scr ns => cases f
  | wtp ds => cases f
theorem word_at {n : Nat} {d : D} (f : fit n d = true) (a b c e g1 g2 g3 g4 : Option D) (h : Hh) : (isOne PL d = true → ∃ env', bodyT (.name 4) L__law_fine_0 d [a, b, c, e, g1, g2, g3, g4] h = .nx env' h ∧ env' = [a, b, c, e, some d, g2, g3, g4]) ∧ (isOne PL d = false → bodyT (.name 4) L__law_fine_0 d [a, b, c, e, g1, g2, g3, g4] h = .rt (.bl false) h) := by
  unfold L__law_fine_0
  cases n with
  | zero => cases f
  | succ n =>
    cases d with
    | non => simp [kit_all, isOne]
    | bl b => simp [kit_bool, isOne]
    | int i => simp [kit_int, isOne]
    | str x =>
      have i1 := fun h => in_strs (x := x) (ws := PL) f oks_PL true h
      simp only [List.map] at i1
      by_cases hx : x ∈ PL
      · simp [kit_str, isOne, i1, hx]
      · simp [kit_str, isOne, i1, hx]
    | tup ds => simp [kit_tuple, isOne]
    | lst ds => simp [kit_list, isOne]
    | ref i => cases f
    | glb v => cases f
    | scr ns => cases f
    | wtp ds => cases f
theorem rangeD_rngT (n : Int) : rangeD 0 n = (rngT 0 n).map D.int := by
  unfold rangeD rngT
  rw [List.map_map]; rfl
theorem fine_at {k : Nat} {d : D} (f : fit (k + 3) d = true) {n : Nat} (hn : n ≤ 1000) (sm : Sm d) (h : Hh) : F__law_fine [.int n, d] h = .ok (.bl (okRm n d)) h := by
  have c1 : -1000000 ≤ (n : Int) := by omega
  have c2 : (n : Int) ≤ 1000000 := by omega
  unfold F__law_fine b__law_fine
  cases d with
  | non => simp [kit_all, okRm]
  | bl b => simp [kit_bool, okRm]
  | int i => simp [kit_int, okRm]
  | str x => simp [kit_str, okRm]
  | lst ds => simp [kit_list, okRm]
  | tup ds =>
    by_cases hl : ds.length = 2
    · have f := fit_tup.mp f
      match ds, hl, f, sm with
      | [a, b], _, f, sm =>
        have fa := f a (by simp)
        have fb := f b (by simp)
        cases a with
        | non => simp [kit_tuple, kit_all, okRm]
        | bl b => simp [kit_tuple, kit_bool, okRm]
        | int i => simp [kit_tuple, kit_int, okRm]
        | str x => simp [kit_tuple, kit_str, okRm]
        | lst ds => simp [kit_tuple, kit_list, okRm]
        | tup ws =>
          have fw := fit_tup.mp fa
          by_cases hw : (ws.length : Int) = n
          · have no : ∀ b, (∀ es, b ≠ .tup es) → okRm n (.tup [.tup ws, b]) = false := fun b hb => by
              cases b <;> first | rfl | exact absurd rfl (hb _)
            cases b with
            | non => simp [kit_tuple, kit_all, hw, okRm]
            | bl b => simp [kit_tuple, kit_bool, hw, okRm]
            | int i => simp [kit_tuple, kit_int, hw, okRm]
            | str x => simp [kit_tuple, kit_str, hw, okRm]
            | lst ds => simp [kit_tuple, kit_list, hw, okRm]
            | tup es =>
              have fe := fit_tup.mp fb
              have h64 := sm ws es rfl
              obtain ⟨g1, g2⟩ := for_look (body := bodyT (.name 4) L__law_fine_0) (fun env => ∃ g, env = [some (.int n), some (.tup [.tup ws, .tup es]), some (.tup ws), some (.tup es), g, none, none, none]) (isOne PL) h ws [some (.int n), some (.tup [.tup ws, .tup es]), some (.tup ws), some (.tup es), none, none, none, none] ⟨_, rfl⟩ (fun d m env i => by
                obtain ⟨g, rfl⟩ := i
                obtain ⟨q1, q2⟩ := word_at (fw d m) (some (.int n)) (some (.tup [.tup ws, .tup es])) (some (.tup ws)) (some (.tup es)) g none none none h
                exact ⟨fun p => by obtain ⟨e, e1, e2⟩ := q1 p; exact ⟨e, e1, _, e2⟩, q2⟩)
              cases hA : ws.all (isOne PL) with
              | false =>
                have e := g2 hA
                have : okRm n (.tup [.tup ws, .tup es]) = false := by show (_ && (ws.all (isOne PL) && _)) = false; rw [hA, Bool.false_and, Bool.and_false]
                simp [kit_tuple, hw, e, this]
              | true =>
                obtain ⟨env', e1, gg, rfl⟩ := g1 hA
                have go : okRm n (.tup [.tup ws, .tup es]) = okWt n ws es := by show (_ && (ws.all (isOne PL) && _)) = _; rw [hA, decide_eq_true hw]; rfl
                have q1 := comp_map (T := .name 6) (e := eCall F__law_entry (aCons (eSlot 0) (aCons (eSlot 6) aNil))) (env := [some (.int n), some (.tup [.tup ws, .tup es]), some (.tup ws), some (.tup es), gg, none, none, none]) (h := h) (fun d => .bl (okEn n d)) es fun d m => ⟨[some (.int n), some (.tup [.tup ws, .tup es]), some (.tup ws), some (.tup es), gg, none, some d, none], rfl, by simp [lentry_at (fe d m)]⟩
                cases hE : es.all (okEn n) with
                | false => simp [kit_tuple, hw, e1, q1, hE, go, okWt]
                | true =>
                  have hE' := List.all_eq_true.mp hE
                  have q2 := comp_map (T := .name 6) (e := eOp2 ixA (eSlot 6) (eC (.int 0))) (env := [some (.int n), some (.tup [.tup ws, .tup es]), some (.tup ws), some (.tup es), gg, none, none, none]) (h := h) (fun d => .int (gD d)) es fun d m => by
                    obtain ⟨g, w, m2, l, rfl, _, _, e⟩ := okEn_form (hE' d m)
                    exact ⟨[some (.int n), some (.tup [.tup ws, .tup es]), some (.tup ws), some (.tup es), gg, none, some (.tup [.int g, w, m2, l]), none], rfl, by simp [e]⟩
                  have s1 : ∀ h, sortO [.lst (es.map fun d => D.int (gD d))] h = some (.lst ((sortI (es.map gD)).map D.int)) := fun h => by
                    have := o_sort (es.map gD) (by rw [List.length_map]; exact h64) h
                    unfold eL at this
                    rw [List.map_map] at this
                    exact this
                  have s2 : ∀ g h, inO false (.int g) (.lst ((sortI (es.map gD)).map D.int)) h = some (.bl (decide (g ∈ sortI (es.map gD)))) := fun g => o_inL D.int g (sortI (es.map gD))
                  have s3 : ∀ (a b : List Int) h, eqO (.lst (a.map D.int)) (.lst (b.map D.int)) h = some (.bl (decide (a = b))) := fun a b => o_eq (eL D.int) a b
                  have q3 := comp_filter (T := .name 7) (t := tAnd (tE (eOp2 (inO false) (eSlot 7) (eSlot 5))) (tE (eOp2 eqO (eOp2 ixA (eSlot 2) (eSlot 7)) (eC (.str "out"))))) (e := eSlot 7) (env := [some (.int n), some (.tup [.tup ws, .tup es]), some (.tup ws), some (.tup es), gg, some (.lst ((sortI (es.map gD)).map D.int)), none, none]) (h := h) (fun d => match d with | .int g => decide (g ∈ sortI (es.map gD)) && outAt ws g | _ => false) (fun d => d) ((rngT 0 (n : Int)).map D.int) fun d m => by
                    obtain ⟨g, hg, rfl⟩ := List.mem_map.mp m
                    have hg := mem_rngT.mp hg
                    have hg2 : g.toNat < ws.length := by omega
                    have hx := List.all_eq_true.mp hA _ (List.getElem_mem hg2)
                    cases hd : ws[g.toNat] with
                    | str x =>
                      rw [hd] at hx
                      have hx : decide (x ∈ PL) = true := hx
                      have hok := ok_PL (of_decide_eq_true hx)
                      have w1 : ws[g.toNat]? = some (.str x) := by rw [List.getElem?_eq_getElem hg2, hd]
                      have w2 : outAt ws g = decide (x = ("out" : Str)) := by unfold outAt; rw [w1]
                      have w3 := fun h => eq_str2 hok (show PyData.strOk ("out" : Str) = true by decide +kernel) h
                      refine ⟨[some (.int n), some (.tup [.tup ws, .tup es]), some (.tup ws), some (.tup es), gg, some (.lst ((sortI (es.map gD)).map D.int)), none, some (.int g)], rfl, ?_, fun _ => by simp⟩
                      by_cases hm : g ∈ sortI (es.map gD)
                      · simp [s2, hm, hg.1, w1, w2, w3]
                      · simp [s2, hm]
                    | _ => rw [hd] at hx; cases hx
                  have q4 : (((rngT 0 (n : Int)).map D.int).filter (fun d => match d with | .int g => decide (g ∈ sortI (es.map gD)) && outAt ws g | _ => false)).map (fun d => d) = ((rngT 0 (n : Int)).filter fun g => decide (g ∈ sortI (es.map gD)) && outAt ws g).map D.int := by
                    rw [List.map_id', List.filter_map]; rfl
                  rw [q4] at q3
                  have fin := set_sort (n := n) (gs := es.map gD) (fun g hg => by
                    obtain ⟨e, he, rfl⟩ := List.mem_map.mp hg
                    obtain ⟨g, w, m2, l, rfl, g0, g1, eg⟩ := okEn_form (hE' e he)
                    rw [eg]; omega) (outAt ws)
                  rw [List.length_map] at fin
                  have res : okWt n ws es = decide (sortI (es.map gD) = (rngT 0 (n : Int)).filter fun g => decide (g ∈ sortI (es.map gD)) && outAt ws g) := by
                    rw [fin]; show (es.all (okEn n) && _) = _; rw [hE, Bool.true_and]
                  simp [kit_tuple, hw, e1, q1, q2, q3, hE, go, s1, s3, res, c1, c2, rangeD_rngT]
            | ref i => cases fb
            | glb v => cases fb
            | scr ns => cases fb
            | wtp ds => cases fb
          · have : okRm n (.tup [.tup ws, b]) = false := by
              unfold okRm
              split
              · rename_i z; cases z; rw [decide_eq_false hw]; rfl
              · rfl
            simp [kit_tuple, hw, this]
        | ref i => cases fa
        | glb v => cases fa
        | scr ns => cases fa
        | wtp ds => cases fa
    · have hl' : ¬ (ds.length : Int) = 2 := by omega
      have : okRm n (.tup ds) = false := by
        unfold okRm
        split
        · rename_i z; cases z; simp at hl
        · rfl
      simp [kit_tuple, this, hl']
  | ref i => cases f
  | glb v => cases f
  | scr ns => cases f
  | wtp ds => cases f

/-! ### a rule that is drawn -/
theorem dpk {l : List Int} {m : Int} (hl : Lk l) (m0 : 0 < m) (m1 : m < 1073741824) : d__law_pick l m := ⟨hl, m0, m1⟩
/-- a rule that is well formed -/
structure ROk (r : TRule) : Prop where
  w : r.1 = .rows ∨ r.1 = .readers ∨ r.1 = .writers ∨ r.1 = .turns ∨ r.1 = .passes
  m : 0 ≤ r.2.1 ∧ r.2.1 ≤ 5
  k : 0 ≤ r.2.2.1 ∧ r.2.2.1 ≤ 9
  kp : r.1 = .passes ∨ r.2.2.1 = 0
  u : r.2.2.2 = 0 ∨ r.2.2.2 = 1

/-! ### a room that is drawn -/
theorem ins_split {α : Type} (l : List α) {i : Int} (h0 : 0 ≤ i) (h1 : i < l.length + 1) (x : α) : ∃ a b, l = a ++ b ∧ insT l i x = a ++ x :: b := ⟨l.take i.toNat, l.drop i.toNat, (List.take_append_drop _ _).symm, by unfold insT; simp⟩
def MkE (e : TEn) : Prop := (0 ≤ e.2.2.1 ∧ e.2.2.1 ≤ 999) ∧ (e.2.2.2 = none ∨ ∃ k : Int, e.2.2.2 = some k ∧ 1 ≤ k ∧ k ≤ 9)
structure FInv (ws : List Wd) (k : Nat) (st : List Int × List TEn) : Prop where
  lk : Lk st.1
  ok : RmOk ws.length (ws, st.2)
  lt : ∀ e ∈ st.2, e.1 < k
  marks : ∀ e ∈ st.2, MkE e
theorem anyr_step {ws : List Wd} (hpl : ∀ w ∈ ws, w ∈ PlW) (hn : ws.length ≤ 1000) (l0 : List Int) {k : Nat} (hk : k < ws.length) {st : List Int × List TEn} (i : FInv ws k st) : K__law_any_room_3 (ws, l0) (k : Int) st ∧ FInv ws (k + 1) (B__law_any_room_2 (ws, l0) (k : Int) st) := by
  obtain ⟨lk, ok, lt, mks⟩ := i
  have few := ok.few
  obtain ⟨a1, b1, l1⟩ := pk lk (m := 3) (by decide)
  have hir : inR ws (k : Int) := inR_of (by omega) (by omega)
  unfold K__law_any_room_3 B__law_any_room_2
  by_cases ho : atZ ws (k : Int) = Wd.out
  · by_cases hp : 0 < (v__law_pick st.1 3).1
    · obtain ⟨a2, b2, l2⟩ := pk l1 (m := 6) (by decide)
      obtain ⟨a3, b3, l3⟩ := pk l2 (m := 5) (by decide)
      obtain ⟨a4, b4, l4⟩ := pk l3 (m := 2) (by decide)
      have few' : st.2.length ≤ ws.length := few
      obtain ⟨a5, b5, l5⟩ := pk l4 (m := (st.2.length : Int) + 1) (by omega)
      have hw := atZ_mem (l := [Wd.read, Wd.write]) a4 b4
      have hmk := atZ_mem (l := [(0 : Int), 0, 1, 2, 9, 999]) a2 b2
      have hlf := atZ_mem (l := [(none : Option Int), none, some 1, some 2, some 9]) a3 b3
      simp only [ho, hp, decide_true, Bool.and_true, if_true, letC_eq]
      refine ⟨⟨hir, fun _ => dpk lk (by decide) (by decide), fun _ => ⟨dpk l1 (by decide) (by decide), inR_of a2 b2, dpk l2 (by decide) (by decide), inR_of a3 b3, dpk l3 (by decide) (by decide), inR_of a4 b4, dpk l4 (by omega) (by omega), by omega, a5, by omega⟩⟩, ?_⟩
      generalize atZ [(0 : Int), 0, 1, 2, 9, 999] _ = mk at hmk ⊢
      generalize atZ [(none : Option Int), none, some (1 : Int), some 2, some 9] _ = lf at hlf ⊢
      generalize atZ [Wd.read, Wd.write] _ = w at hw ⊢
      obtain ⟨x, y, e1, e2⟩ := ins_split st.2 a5 b5 ((k : Int), w, mk, lf)
      have sub : ∀ e ∈ insT st.2 (v__law_pick (v__law_pick (v__law_pick (v__law_pick (v__law_pick st.1 3).2 6).2 5).2 2).2 ((st.2.length : Int) + 1)).1 ((k : Int), w, mk, lf), e = ((k : Int), w, mk, lf) ∨ e ∈ st.2 := fun e he => by
        rw [e2] at he
        rw [e1]
        simp only [List.mem_append, List.mem_cons] at he ⊢
        rcases he with h | h | h
        · exact .inr (.inl h)
        · exact .inl h
        · exact .inr (.inr h)
      refine ⟨l5, ⟨rfl, hpl, fun e he => ?_, fun e he => ?_, fun e he => ?_, ?_⟩, fun e he => ?_, fun e he => ?_⟩
      · rcases sub e he with rfl | h
        · show 0 ≤ (k : Int) ∧ (k : Int) < ws.length; omega
        · exact ok.gs e h
      · rcases sub e he with rfl | h
        · have := at_atZ (l := ws) (i := (k : Int)) (by omega) (by omega)
          rw [ho] at this; exact this
        · exact ok.out e h
      · rcases sub e he with rfl | h
        · simpa using hw
        · exact ok.rw e h
      · show ((insT st.2 _ _).map (·.1)).Nodup
        rw [e2]
        have nd := ok.nd
        have nd : (st.2.map (·.1)).Nodup := nd
        have hne : ∀ e ∈ st.2, e.1 ≠ (k : Int) := fun e he => by have := lt e he; omega
        rw [e1] at nd hne
        rw [List.map_append] at nd ⊢
        rw [List.map_cons]
        rw [List.nodup_append] at nd ⊢
        refine ⟨nd.1, List.nodup_cons.mpr ⟨fun hm => ?_, nd.2.1⟩, fun a ha b hb => ?_⟩
        · obtain ⟨e, he, q⟩ := List.mem_map.mp hm
          exact hne e (List.mem_append_right _ he) q
        · rcases List.mem_cons.mp hb with rfl | hb
          · obtain ⟨e, he, q⟩ := List.mem_map.mp ha
            intro z
            exact hne e (List.mem_append_left _ he) (q.trans z)
          · exact nd.2.2 a ha b hb
      · rcases sub e he with rfl | h
        · show (k : Int) < ((k + 1 : Nat) : Int); omega
        · have := lt e h; omega
      · rcases sub e he with rfl | h
        · refine ⟨?_, ?_⟩
          · simp only [List.mem_cons, List.not_mem_nil, or_false] at hmk
            show 0 ≤ mk ∧ mk ≤ 999
            omega
          · simp only [List.mem_cons, List.not_mem_nil, or_false] at hlf
            show lf = none ∨ ∃ k : Int, lf = some k ∧ 1 ≤ k ∧ k ≤ 9
            rcases hlf with rfl | rfl | rfl | rfl | rfl
            · exact .inl rfl
            · exact .inl rfl
            · exact .inr ⟨1, rfl, by decide, by decide⟩
            · exact .inr ⟨2, rfl, by decide, by decide⟩
            · exact .inr ⟨9, rfl, by decide, by decide⟩
        · exact mks e h
    · simp only [ho, hp, decide_true, decide_false, Bool.and_false, Bool.false_eq_true, if_true, if_false]
      exact ⟨⟨hir, fun _ => dpk lk (by decide) (by decide), fun z => z.elim⟩, l1, ok, (fun e he => by have := lt e he; omega), mks⟩
  · simp only [ho, decide_false, Bool.false_and, Bool.false_eq_true, if_false]
    exact ⟨⟨hir, fun z => z.elim, fun z => z.elim⟩, lk, ok, (fun e he => by have := lt e he; omega), mks⟩
theorem anyr_fold {ws : List Wd} (hpl : ∀ w ∈ ws, w ∈ PlW) (hn : ws.length ≤ 1000) (l0 : List Int) : ∀ (j k : Nat) (st : List Int × List TEn), k + j = ws.length → FInv ws k st → okFold (B__law_any_room_2 (ws, l0)) (K__law_any_room_3 (ws, l0)) ((List.range' k j).map fun i : Nat => ((i : Nat) : Int)) st ∧ FInv ws ws.length (foldV (B__law_any_room_2 (ws, l0)) ((List.range' k j).map fun i : Nat => ((i : Nat) : Int)) st)
  | 0, k, st, hj, i => by
    have : k = ws.length := by omega
    subst this
    exact ⟨trivial, i⟩
  | j + 1, k, st, hj, i => by
    obtain ⟨a, b⟩ := anyr_step hpl hn l0 (by omega) i
    obtain ⟨c, d⟩ := anyr_fold hpl hn l0 j (k + 1) _ (by omega) b
    rw [List.range'_succ, List.map_cons]
    exact ⟨⟨a, c⟩, d⟩
theorem rngT_range (n : Nat) : rngT 0 (n : Int) = (List.range' 0 n).map fun i : Nat => ((i : Nat) : Int) := by
  unfold rngT
  have : ((n : Int) - 0).toNat = n := by omega
  rw [this, List.range_eq_range']
  exact List.map_congr_left fun i _ => by omega
theorem law_any_room_of {l : List Int} (hl : Lk l) {n : Int} (h0 : 0 ≤ n) (h1 : n ≤ 1000) : d__law_any_room l n ∧ Lk (v__law_any_room l n).2 ∧ RmOk n.toNat (v__law_any_room l n).1 ∧ ∀ e ∈ (v__law_any_room l n).1.2, MkE e := by
  obtain ⟨k, rfl⟩ : ∃ k : Nat, n = k := ⟨n.toNat, by omega⟩
  obtain ⟨a, b, c, d⟩ := mapSt_inv (g := G__law_any_room_0 [Wd.out, Wd.out, Wd.out, Wd.reads, Wd.reads, Wd.rising, Wd.writes, Wd.raised]) (ok := K__law_any_room_1 [Wd.out, Wd.out, Wd.out, Wd.reads, Wd.reads, Wd.rising, Wd.writes, Wd.raised]) Lk (fun w => w ∈ PlW) (rngT 0 (k : Int)) l hl fun x _ l hl => by
    obtain ⟨a1, b1, l1⟩ := pk hl (m := 8) (by decide)
    refine ⟨⟨dpk hl (by decide) (by decide), inR_of a1 b1⟩, ?_, l1⟩
    have := atZ_mem (l := [Wd.out, Wd.out, Wd.out, Wd.reads, Wd.reads, Wd.rising, Wd.writes, Wd.raised]) a1 b1
    show atZ _ _ ∈ PlW
    generalize atZ [Wd.out, Wd.out, Wd.out, Wd.reads, Wd.reads, Wd.rising, Wd.writes, Wd.raised] _ = w at this ⊢
    simp only [List.mem_cons, List.not_mem_nil, or_false] at this
    rcases this with rfl | rfl | rfl | rfl | rfl | rfl | rfl | rfl <;> decide
  rw [rngT_len] at d
  have dk : ((k : Int) - 0).toNat = k := by omega
  rw [dk] at d
  unfold d__law_any_room v__law_any_room c__law_any_room
  simp only [letC_eq]
  generalize mapSt (G__law_any_room_0 [Wd.out, Wd.out, Wd.out, Wd.reads, Wd.reads, Wd.rising, Wd.writes, Wd.raised]) (rngT 0 (k : Int)) l = q at a b c d ⊢
  obtain ⟨ws, l'⟩ := q
  simp only at b c d
  have i0 : FInv ws 0 (l', []) := ⟨c, ⟨rfl, b, (fun e h => by cases h), (fun e h => by cases h), (fun e h => by cases h), List.nodup_nil⟩, (fun e h => by cases h), fun e h => by cases h⟩
  obtain ⟨x, y⟩ := anyr_fold b (by omega) l' k 0 (l', []) (by omega) i0
  rw [← rngT_range] at x y
  refine ⟨⟨⟨by omega, by omega⟩, a, ⟨by omega, by omega⟩, x⟩, y.lk, ?_, y.marks⟩
  have := y.ok
  rw [d] at this
  exact this

abbrev enE : TEn → D := eT4 D.int eW D.int (eO D.int)
abbrev enR : TRoom → D := eT2 (eS eW) (eS enE)
theorem enR_eq (m : TRoom) : enR m = .tup [.tup (m.1.map eW), .tup (m.2.map enE)] := rfl
theorem pl_one {w : Wd} (h : w ∈ PlW) : isOne PL (eW w) = true := by
  rcases pl_cases h with rfl | rfl | rfl | rfl | rfl <;> decide +kernel
theorem en_ok {n : Nat} {e : TEn} (hg : 0 ≤ e.1 ∧ e.1 < n) (hw : e.2.1 = Wd.read ∨ e.2.1 = Wd.write) (hm : MkE e) : okEn n (enE e) = true := by
  obtain ⟨g, w, m, l⟩ := e
  obtain ⟨⟨m0, m1⟩, hl⟩ := hm
  dsimp only at hg hw m0 m1 hl
  have a1 : g ≤ (n : Int) - 1 := by omega
  have b1 : isOne RW2 (eW w) = true := by rcases hw with rfl | rfl <;> decide +kernel
  have b2 : okLeft (eO D.int l) = true := by
    rcases hl with rfl | ⟨k, rfl, k0, k1⟩
    · rfl
    · show (decide (1 ≤ k) && decide (k ≤ 9)) = true
      rw [decide_eq_true k0, decide_eq_true k1]; rfl
  show (btw 0 ((n : Int) - 1) (.int g) && (isOne RW2 (eW w) && (btw 0 999 (.int m) && okLeft (eO D.int l)))) = true
  rw [b1, b2]
  show ((decide (0 ≤ g) && decide (g ≤ (n : Int) - 1)) && (true && ((decide (0 ≤ m) && decide (m ≤ 999)) && true))) = true
  rw [decide_eq_true hg.1, decide_eq_true a1, decide_eq_true m0, decide_eq_true m1]; rfl
theorem room_true {n : Nat} {m : TRoom} (R : RmOk n m) (M : ∀ e ∈ m.2, MkE e) : okRm n (enR m) = true := by
  have len := R.len
  show (decide (((m.1.map eW).length : Int) = n) && ((m.1.map eW).all (isOne PL) && ((m.2.map enE).all (okEn n) && (decide (setN ((m.2.map enE).map gD) = (m.2.map enE).length) && ((m.2.map enE).map gD).all (outAt (m.1.map eW)))))) = true
  have g : (m.2.map enE).map gD = m.2.map fun e : TEn => e.1 := by rw [List.map_map]; rfl
  have a1 : (m.1.map eW).all (isOne PL) = true := List.all_eq_true.mpr fun d hd => by
    obtain ⟨w, hw, rfl⟩ := List.mem_map.mp hd
    exact pl_one (R.pl w hw)
  have a2 : (m.2.map enE).all (okEn n) = true := List.all_eq_true.mpr fun d hd => by
    obtain ⟨e, he, rfl⟩ := List.mem_map.mp hd
    exact en_ok (R.gs e he) (R.rw e he) (M e he)
  have a3 : ((m.2.map enE).map gD).all (outAt (m.1.map eW)) = true := List.all_eq_true.mpr fun k hk => by
    rw [g] at hk
    obtain ⟨e, he, rfl⟩ := List.mem_map.mp hk
    have := R.out e he
    unfold outAt
    rw [List.getElem?_map, this]
    decide +kernel
  have l1 : decide (((m.1.map eW).length : Int) = n) = true := decide_eq_true (by rw [List.length_map]; omega)
  have l2 : decide (setN (m.2.map fun e : TEn => e.1) = (m.2.map enE).length) = true := decide_eq_true (by rw [setN_nodup R.nd, List.length_map, List.length_map])
  rw [a3, g, a1, a2, l1, l2]; rfl
theorem fit_W (w : Wd) : fit 1 (eW w) = true := w.ok
theorem fit_E (e : TEn) : fit 2 (enE e) = true := fit_tup.mpr fun d hd => by
  simp only [List.mem_cons, List.not_mem_nil, or_false] at hd
  rcases hd with rfl | rfl | rfl | rfl
  · rfl
  · exact e.2.1.ok
  · rfl
  · cases e.2.2.2 <;> rfl
theorem fit_R (m : TRoom) : fit 4 (enR m) = true := fit_tup.mpr fun d hd => by
  simp only [List.mem_cons, List.not_mem_nil, or_false] at hd
  rcases hd with rfl | rfl
  · exact fit_tup.mpr fun d hd => by
      obtain ⟨w, _, rfl⟩ := List.mem_map.mp hd
      exact fit_le (by decide) (fit_W w)
  · exact fit_tup.mpr fun d hd => by
      obtain ⟨e, _, rfl⟩ := List.mem_map.mp hd
      exact fit_E e
theorem sm_R {n : Nat} {m : TRoom} (R : RmOk n m) (hn : n ≤ 10) : Sm (enR m) := fun ws es e => by
  rw [enR_eq] at e
  cases e
  have few := R.few
  rw [List.length_map]; omega
theorem sm_of {a b : D} (h : ∀ es, b = .tup es → es.length < 64) : Sm (.tup [a, b]) := fun ws es e => by
  cases e
  exact h es rfl
theorem sm_not {d : D} (h : ∀ ws es, d ≠ .tup [.tup ws, .tup es]) : Sm d := fun ws es e => absurd e (h ws es)
/-! ### picks from a list that stands somewhere -/
def At (h : Hh) (p : Nat) (l : List Int) : Prop := h[p]? = some (oL D.int l)
theorem pick_at {h : Hh} {p : Nat} {l : List Int} (a : At h p l) (hl : Lk l) {m : Int} (m0 : 0 < m) (m1 : m < 1073741824) : ∃ r l', F__law_pick [.ref p, .int m] h = .ok (.int r) (h.set p (oL D.int l')) ∧ 0 ≤ r ∧ r < m ∧ Lk l' ∧ At (h.set p (oL D.int l')) p l' := by
  obtain ⟨a1, b1, l1⟩ := pk hl (m := m) m0
  refine ⟨_, _, t__law_pick l m h p a ⟨hl, m0, m1⟩, a1, b1, l1, ?_⟩
  unfold At
  rw [List.getElem?_set_self (List.getElem?_eq_some_iff.mp a).1]
theorem room_draw {h : Hh} {p : Nat} {l : List Int} (a : At h p l) (hl : Lk l) {n : Nat} (hn : n ≤ 10) : ∃ m l', F__law_any_room [.ref p, .int n] h = .ok (enR m) (h.set p (oL D.int l')) ∧ Lk l' ∧ At (h.set p (oL D.int l')) p l' ∧ RmOk n m ∧ ∀ e ∈ m.2, MkE e := by
  obtain ⟨d, l1, R, M⟩ := law_any_room_of hl (n := n) (by omega) (by omega)
  have kk : ((n : Int)).toNat = n := by omega
  rw [kk] at R
  refine ⟨_, _, t__law_any_room l n h p a d, l1, ?_, R, M⟩
  unfold At
  rw [List.getElem?_set_self (List.getElem?_eq_some_iff.mp a).1]
abbrev odds : List D := [.non, .bl true, .bl false, .int 0, .int 1, .int (-1), .int 9, .int 10, .int 5, .int 1000, .str "", .str "out", .str "reads", .str "Out", .str "read", .str "write", .str "up", .str "writes", .tup [], .lst []]
theorem odds_fit : ∀ d ∈ odds, fit 2 d = true := by decide +kernel
theorem get_d (xs : List D) {r : Int} (r0 : 0 ≤ r) (r1 : r < xs.length) : ∃ x ∈ xs, xs[r.toNat]? = some x := by
  have h : r.toNat < xs.length := by omega
  exact ⟨xs[r.toNat], List.getElem_mem h, List.getElem?_eq_getElem h⟩
theorem pick_set {h : Hh} {p : Nat} (hp : p < h.length) {l : List Int} (hl : Lk l) {m : Int} (m0 : 0 < m) (m1 : m < 1073741824) : ∃ r l', F__law_pick [.ref p, .int m] (h.set p (oL D.int l)) = .ok (.int r) (h.set p (oL D.int l')) ∧ 0 ≤ r ∧ r < m ∧ Lk l' := by
  have a : At (h.set p (oL D.int l)) p l := List.getElem?_set_self hp
  obtain ⟨r, l', e, a1, b1, k, _⟩ := pick_at a hl m0 m1
  rw [List.set_set] at e
  exact ⟨r, l', e, a1, b1, k⟩
theorem fit_cut {n : Nat} {xs : List D} (h : ∀ x ∈ xs, fit n x = true) {o : D} (ho : fit n o = true) (a b c d : Option Int) : fit (n + 1) (.tup (cutG xs a b ++ o :: cutG xs c d)) = true := fit_tup.mpr fun y hy => by
  rcases List.mem_append.mp hy with q | q
  · exact h y (cut_sub xs _ _ q)
  · rcases List.mem_cons.mp q with q | q
    · rw [q]; exact ho
    · exact h y (cut_sub xs _ _ q)
theorem fit_two {n : Nat} {a b : D} (ha : fit n a = true) (hb : fit n b = true) : fit (n + 1) (.tup [a, b]) = true := fit_tup.mpr fun x hx => by
  simp only [List.mem_cons, List.not_mem_nil, or_false] at hx
  rcases hx with rfl | rfl
  · exact ha
  · exact hb
theorem spoilt_at {h : Hh} {p : Nat} (hp : p < h.length) {l : List Int} (hl : Lk l) {n : Nat} (n0 : 1 ≤ n) (hn : n ≤ 10) {m : TRoom} (R : RmOk n m) : ∃ d l', F__law_spoilt [.ref p, enR m] (h.set p (oL D.int l)) = .ok d (h.set p (oL D.int l')) ∧ Lk l' ∧ fit 6 d = true ∧ Sm d := by
  have len := R.len
  have few := R.few
  obtain ⟨r1, l1, e1, a1, b1, k1⟩ := pick_set hp hl (m := 20) (by decide) (by decide)
  obtain ⟨o, ho, eo⟩ := get_d odds a1 b1
  have fo := fit_le (by decide : 2 ≤ 4) (odds_fit o ho)
  obtain ⟨r2, l2, e2, a2, b2, k2⟩ := pick_set hp k1 (m := 10) (by decide) (by decide)
  obtain ⟨r3, l3, e3, a3, b3, k3⟩ := pick_set hp k2 (m := (m.1.map eW).length) (by rw [List.length_map]; omega) (by rw [List.length_map]; omega)
  have eqn : ∀ h, eqO (.tup (m.2.map enE)) (.tup []) h = some (.bl (decide (m.2 = []))) := o_eq (eS enE) m.2 []
  have lw : (m.1.map eW).length = n := by rw [List.length_map]; exact len
  have le : (m.2.map enE).length ≤ n := by rw [List.length_map]; exact few
  have lem : (m.2.map enE).length = m.2.length := List.length_map _
  have fW : ∀ x ∈ m.1.map eW, fit 4 x = true := fun x hx => by
    obtain ⟨w, _, rfl⟩ := List.mem_map.mp hx
    exact fit_le (by decide) (fit_W w)
  have fE : ∀ x ∈ m.2.map enE, fit 4 x = true ∧ ∃ ent, x = .tup ent ∧ ent.length = 4 ∧ ∀ y ∈ ent, fit 2 y = true := fun x hx => by
    obtain ⟨w, _, rfl⟩ := List.mem_map.mp hx
    exact ⟨fit_le (by decide) (fit_E w), _, rfl, rfl, fun y hy => fit_le (by decide) (fit_tup.mp (fit_E w) y hy)⟩
  have z2 := cut_len (m.1.map eW) none (some r3)
  have z3 := cut_len (m.1.map eW) (some (r3 + 1)) none
  have z4 := cut_len (m.1.map eW) none (some (-1))
  have z5 := cut_len (m.2.map enE) none (some 1)
  rw [enR_eq]
  unfold F__law_spoilt b__law_spoilt
  generalize m.1.map eW = ws at *
  generalize m.2.map enE = es at *
  have tW : fit 5 (.tup ws) = true := fit_tup.mpr fW
  have tE2 : fit 5 (.tup es) = true := fit_tup.mpr fun y hy => (fE y hy).1
  have lW : fit 5 (.lst ws) = true := fit_lst.mpr fW
  have lE : fit 5 (.lst es) = true := fit_lst.mpr fun y hy => (fE y hy).1
  by_cases h3 : r2 < 3
  · refine ⟨.tup [.tup (cutG ws none (some r3) ++ o :: cutG ws (some (r3 + 1)) none), .tup es], l3, ?_, k3, fit_two (fit_cut fW fo _ _ _ _) tE2, sm_of fun es' e => by cases e; omega⟩
    have q1 : (cutG ws none (some r3)).length + 1 ≤ 16777216 := by omega
    have q2 : (cutG ws none (some r3)).length + 1 + (cutG ws (some (r3 + 1)) none).length ≤ 16777216 := by omega
    simp [e1, e2, e3, a1, a2, a3, eo, h3, q1, q2]
  · by_cases h4 : r2 = 3
    · obtain ⟨r4, l4, e4, a4, b4, k4⟩ := pick_set hp k3 (m := 5) (by decide) (by decide)
      obtain ⟨y, hy, ey⟩ := get_d ([.tup [.tup ws], .tup [.tup es, .tup ws], .tup [.lst ws, .tup es], .tup [.tup ws, .lst es], .lst [.tup ws, .tup es]] : List D) a4 b4
      refine ⟨y, l4, ?_, k4, ?_, ?_⟩
      · subst h4
        simp [e1, e2, e3, e4, a1, a3, a4, eo, ey]
      · simp only [List.mem_cons, List.not_mem_nil, or_false] at hy
        rcases hy with rfl | rfl | rfl | rfl | rfl
        · exact fit_tup.mpr fun x hx => by rw [List.mem_singleton.mp hx]; exact tW
        · exact fit_two tE2 tW
        · exact fit_two lW tE2
        · exact fit_two tW lE
        · exact fit_lst.mpr fun x hx => by
            simp only [List.mem_cons, List.not_mem_nil, or_false] at hx
            rcases hx with rfl | rfl
            · exact tW
            · exact tE2
      · simp only [List.mem_cons, List.not_mem_nil, or_false] at hy
        rcases hy with rfl | rfl | rfl | rfl | rfl
        · exact sm_not fun a b e => by cases e
        · exact sm_of fun es' e => by cases e; omega
        · exact sm_of fun es' e => by cases e; omega
        · exact sm_of fun es' e => by cases e
        · exact sm_not fun a b e => by cases e
    · by_cases h5 : r2 = 4 ∨ m.2 = []
      · obtain ⟨r4, l4, e4, a4, b4, k4⟩ := pick_set hp k3 (m := 3) (by decide) (by decide)
        obtain ⟨y, hy, ey⟩ := get_d ([.tup [.tup ws, .tup (es ++ cutG es none (some 1))], .tup [.tup (ws ++ [.str "out"]), .tup es], .tup [.tup (cutG ws none (some (-1))), .tup es]] : List D) a4 b4
        refine ⟨y, l4, ?_, k4, ?_, ?_⟩
        · have q1 : es.length + (cutG es none (some 1)).length ≤ 16777216 := by omega
          have q2 : ws.length + 1 ≤ 16777216 := by omega
          by_cases h6 : r2 = 4
          · subst h6
            simp [e1, e2, e3, e4, a1, a3, a4, eo, ey, q1, q2]
          · have h7 : m.2 = [] := by rcases h5 with q | q; exact absurd q h6; exact q
            simp [e1, e2, e3, e4, a1, a2, a3, a4, eo, ey, h3, h4, h6, h7, eqn, q1, q2]
        · simp only [List.mem_cons, List.not_mem_nil, or_false] at hy
          rcases hy with rfl | rfl | rfl
          · refine fit_two tW (fit_tup.mpr fun x hx => ?_)
            rcases List.mem_append.mp hx with q | q
            · exact (fE x q).1
            · exact (fE x (cut_sub es _ _ q)).1
          · refine fit_two (fit_tup.mpr fun x hx => ?_) tE2
            rcases List.mem_append.mp hx with q | q
            · exact fW x q
            · rw [List.mem_singleton.mp q]; decide +kernel
          · exact fit_two (fit_tup.mpr fun x hx => fW x (cut_sub ws _ _ hx)) tE2
        · simp only [List.mem_cons, List.not_mem_nil, or_false] at hy
          rcases hy with rfl | rfl | rfl
          · exact sm_of fun es' e => by cases e; rw [List.length_append]; omega
          · exact sm_of fun es' e => by cases e; omega
          · exact sm_of fun es' e => by cases e; omega
      · have h6 : ¬ r2 = 4 := fun z => h5 (.inl z)
        have h7 : ¬ m.2 = [] := fun z => h5 (.inr z)
        have lp := List.length_pos_iff.mpr h7
        obtain ⟨r4, l4, e4, a4, b4, k4⟩ := pick_set hp k3 (m := (es.length : Int)) (by omega) (by omega)
        obtain ⟨x, hx, ex⟩ := get_d es a4 b4
        obtain ⟨_, ent, rfl, l4e, fent⟩ := fE x hx
        obtain ⟨r5, l5, e5, a5, b5, k5⟩ := pick_set hp k4 (m := 4) (by decide) (by decide)
        have y1 := cut_len ent none (some r5)
        have y2 := cut_len ent (some (r5 + 1)) none
        have y3 := cut_len es none (some r4)
        have y4 := cut_len es (some (r4 + 1)) none
        have y5 := cut_len ent (some 1) none
        have q1 : (cutG ent none (some r5)).length + 1 ≤ 16777216 := by omega
        have q2 : (cutG ent none (some r5)).length + 1 + (cutG ent (some (r5 + 1)) none).length ≤ 16777216 := by omega
        have q3 : (cutG es none (some r4)).length + 1 ≤ 16777216 := by omega
        have q4 : (cutG es none (some r4)).length + 1 + (cutG es (some (r4 + 1)) none).length ≤ 16777216 := by omega
        have q5 : ent.length + 1 ≤ 16777216 := by omega
        have q6 : 1 + (cutG ent (some 1) none).length ≤ 16777216 := by omega
        have q7 : (cutG ent (some 1) none).length + 1 ≤ 16777216 := by omega
        have fit6 : ∀ b : D, fit 4 b = true → fit 6 (.tup [.tup ws, .tup (cutG es none (some r4) ++ b :: cutG es (some (r4 + 1)) none)]) = true := fun b hb => fit_two tW (fit_cut (fun y hy => (fE y hy).1) hb _ _ _ _)
        have sm6 : ∀ b : D, Sm (.tup [.tup ws, .tup (cutG es none (some r4) ++ b :: cutG es (some (r4 + 1)) none)]) := fun b => sm_of fun es' e => by
          cases e
          rw [List.length_append, List.length_cons]; omega
        by_cases h8 : r2 = 5
        · obtain ⟨r6, l6, e6, a6, b6, k6⟩ := pick_set hp k5 (m := 4) (by decide) (by decide)
          obtain ⟨y, hy, ey⟩ := get_d ([.lst ent, .tup (cutG ent none (some 3)), .tup (ent ++ [.int 0]), .tup (.int ws.length :: cutG ent (some 1) none)] : List D) a6 b6
          refine ⟨.tup [.tup ws, .tup (cutG es none (some r4) ++ y :: cutG es (some (r4 + 1)) none)], l6, ?_, k6, fit6 y ?_, sm6 y⟩
          · subst h8
            simp [e1, e2, e3, e4, e5, e6, a1, a3, a4, a5, a6, eo, ex, ey, h7, eqn, q1, q2, q3, q4, q5, q6, q7]
          · simp only [List.mem_cons, List.not_mem_nil, or_false] at hy
            rcases hy with rfl | rfl | rfl | rfl
            · exact fit_le (by decide : 3 ≤ 4) (fit_lst.mpr fent)
            · exact fit_le (by decide : 3 ≤ 4) (fit_tup.mpr fun z hz => fent z (cut_sub ent _ _ hz))
            · refine fit_le (by decide : 3 ≤ 4) (fit_tup.mpr fun z hz => ?_)
              rcases List.mem_append.mp hz with q | q
              · exact fent z q
              · rw [List.mem_singleton.mp q]; rfl
            · refine fit_le (by decide : 3 ≤ 4) (fit_tup.mpr fun z hz => ?_)
              rcases List.mem_cons.mp hz with q | q
              · rw [q]; rfl
              · exact fent z (cut_sub ent _ _ q)
        · refine ⟨.tup [.tup ws, .tup (cutG es none (some r4) ++ .tup (cutG ent none (some r5) ++ o :: cutG ent (some (r5 + 1)) none) :: cutG es (some (r4 + 1)) none)], l5, ?_, k5, fit6 _ ?_, sm6 _⟩
          · simp [e1, e2, e3, e4, e5, a1, a2, a3, a4, a5, eo, ex, h3, h4, h6, h7, h8, eqn, q1, q2, q3, q4]
          · exact fit_le (by decide : 3 ≤ 4) (fit_cut fent (odds_fit o ho) _ _ _ _)
theorem right_at (b : Bool) (h : Hh) : F__law_right [.bl b, .bl b] h = .ok (.bl true) h := by
  unfold F__law_right b__law_right
  have e : eqO (.bl b) (.bl b) h = some (.bl true) := by
    have := o_eq D.bl b b (h := h)
    simpa using this
  simp [kit_bool, e]
theorem many_at {a0 a1 a2 a3 a4 a5 a8 : Option D} {d : D} (f : fit 6 d = true) (sm : Sm d) {j : Int} (j0 : 0 ≤ j) (j1 : j ≤ 100) (h : Hh) : L_law_0 [a0, a1, a2, a3, a4, a5, some d, some (.int j), a8] h = .nx [a0, a1, a2, a3, a4, a5, some d, some (.int j), a8] h := by
  obtain ⟨k, rfl⟩ : ∃ k : Nat, j = k := ⟨j.toNat, by omega⟩
  have r := fun h => room_at (k := 3) f (k : Int) sm h
  have g := fun h => fine_at (k := 3) f (n := k) (by omega) sm h
  unfold L_law_0
  simp [r, g, right_at]
theorem thing_at {a0 a1 a2 a4 a5 a7 a8 : Option D} {d : D} (f : fit 6 d = true) (sm : Sm d) {n : Nat} (n0 : 1 ≤ n) (n1 : n ≤ 5) (h : Hh) : ∃ x, L_law_1 [a0, a1, a2, some (.int n), a4, a5, some d, a7, a8] h = .nx [a0, a1, a2, some (.int n), a4, a5, some d, x, a8] h := by
  have m := fun {j : Int} (j0 : 0 ≤ j) (j1 : j ≤ 100) => many_at (a0 := a0) (a1 := a1) (a2 := a2) (a3 := some (.int n)) (a4 := a4) (a5 := a5) (a8 := a8) f sm j0 j1 h
  have m1 := m (j := (n : Int)) (by omega) (by omega)
  have m2 := m (j := (if 1 < (n : Int) - 1 then (n : Int) - 1 else 1)) (by split <;> omega) (by split <;> omega)
  have m3 := m (j := (if (n : Int) + 1 < 5 then (n : Int) + 1 else 5)) (by split <;> omega) (by split <;> omega)
  refine ⟨some (.int (if (n : Int) + 1 < 5 then (n : Int) + 1 else 5)), ?_⟩
  unfold L_law_1
  simp [m1, m2, m3]
theorem odd_false {n : Nat} (n0 : 1 ≤ n) (h : Hh) : ∀ d ∈ ([.non, .int 0, .bl true, .str "", .str "room", .tup [], .lst [], .tup [.tup [], .tup []], .tup [.tup (repG [.str "out"] n)], .tup [.str "out", .tup []], .tup [.non, .non]] : List D), F_is_room [.int n, d] h = .ok (.bl false) h := fun d hd => by
  have fr : ∀ x ∈ repG [D.str "out"] (n : Int), fit 4 x = true := fun x hx => by
    have := rep_mem hx
    rw [List.mem_singleton.mp this]; decide +kernel
  have f : fit 6 d = true := by
    simp only [List.mem_cons, List.not_mem_nil, or_false] at hd
    rcases hd with rfl | rfl | rfl | rfl | rfl | rfl | rfl | rfl | rfl | rfl | rfl
    all_goals first | decide +kernel | exact fit_tup.mpr fun x hx => by rw [List.mem_singleton.mp hx]; exact fit_tup.mpr fr
  have sm : Sm d := fun ws es e => by
    simp only [List.mem_cons, List.not_mem_nil, or_false] at hd
    rcases hd with rfl | rfl | rfl | rfl | rfl | rfl | rfl | rfl | rfl | rfl | rfl
    all_goals first | (cases e; decide) | cases e
  have no : okRm n d = false := by
    simp only [List.mem_cons, List.not_mem_nil, or_false] at hd
    rcases hd with rfl | rfl | rfl | rfl | rfl | rfl | rfl | rfl | rfl | rfl | rfl
    all_goals first | rfl | skip
    show (decide ((0 : Int) = n) && _) = false
    rw [decide_eq_false (by omega), Bool.false_and]
  rw [room_at (k := 3) f n sm, no]
theorem rep_out2 (n : Nat) : repG [Wd.out] (n : Int) = List.replicate n Wd.out := by
  unfold repG
  have : ((n : Int)).toNat = n := by omega
  rw [this]
  induction n with
  | zero => rfl
  | succ n ih => rw [List.replicate_succ, List.flatten_cons, ih (by omega), List.replicate_succ]; rfl
theorem turn (ns : List Int) (k : Int) (k0 : 0 ≤ k) (k1 : k < 1000000) {env : DEnv} {h : Hh} (hl : env.length = 9) (h0 : env[0]? = some (some (.scr ns))) :
    ∃ env' h', bodyT (.name 1) L_law_3 (.int k) env h = .nx env' h' ∧ env'.length = 9 ∧ env'[0]? = some (some (.scr ns)) := by
  match env, hl, h0 with
  | [a0, a1, a2, a3, a4, a5, a6, a7, a8], _, h0 =>
  have h0 : a0 = some (.scr ns) := by simpa using h0
  subst h0
  have e1 := t__law_left ns k h ⟨k0, k1⟩
  have hlk := lk_left ns k
  generalize v__law_left ns k = l at e1 hlk
  have es : h ++ [oL D.int l] = (h ++ [oL D.int l]).set h.length (oL D.int l) := by
    apply List.ext_getElem?
    intro j
    rw [List.getElem?_set]
    split
    · rename_i hj; subst hj; simp
    · rfl
  have hp : h.length < (h ++ [oL D.int l]).length := by simp
  rw [es] at e1
  generalize hH : h ++ [oL D.int l] = H at *
  obtain ⟨r1, l1, e2, b0, b1, hk1⟩ := pick_set hp hlk (m := 5) (by decide) (by decide)
  obtain ⟨n, hn⟩ : ∃ n : Nat, 1 + r1 = n := ⟨(1 + r1).toNat, by omega⟩
  have n0 : 1 ≤ n := by omega
  have n1 : n ≤ 5 := by omega
  obtain ⟨m, l2, e3, hk2, _, R, M⟩ := room_draw (h := H.set h.length (oL D.int l1)) (p := h.length) (l := l1) (List.getElem?_set_self hp) hk1 (n := n) (by omega)
  rw [List.set_set] at e3
  obtain ⟨d1, l3, e4, hk3, f1, s1⟩ := spoilt_at hp hk2 n0 (by omega) R
  obtain ⟨d2, l4, e5, hk4, f2, s2⟩ := spoilt_at hp hk3 n0 (by omega) R
  obtain ⟨d3, l5, e6, hk5, f3, s3⟩ := spoilt_at hp hk4 n0 (by omega) R
  have f0 := fit_le (by decide : 4 ≤ 6) (fit_R m)
  have s0 := sm_R R (by omega)
  have rm : ∀ h, F_is_room [.int n, enR m] h = .ok (.bl true) h := fun h => by
    rw [room_at (k := 3) f0 n s0, room_true R M]
  have em : ∀ h, F_empty [.int n] h = .ok (enR (List.replicate n Wd.out, [])) h := fun h => by
    have := t_empty n h ⟨by omega, by omega, by decide⟩
    have e : v_empty n = (List.replicate n Wd.out, []) := by
      unfold v_empty c_empty
      rw [rep_out2]; rfl
    rw [e] at this
    exact this
  have Re : RmOk n (List.replicate n Wd.out, []) := ⟨by simp, fun w h => by rw [(List.mem_replicate.mp h).2]; decide, (fun e h => by cases h), (fun e h => by cases h), (fun e h => by cases h), List.nodup_nil⟩
  have rme : ∀ h, F_is_room [.int n, enR (List.replicate n Wd.out, [])] h = .ok (.bl true) h := fun h => by
    rw [room_at (k := 3) (fit_le (by decide : 4 ≤ 6) (fit_R _)) n (sm_R Re (by omega)), room_true Re (fun e h => by cases h)]
  obtain ⟨x0, t0⟩ := thing_at (a0 := some (.scr ns)) (a1 := some (.int k)) (a2 := some (.ref h.length)) (a4 := some (enR m)) (a5 := some (.lst [enR m, d1, d2, d3])) (a7 := a7) (a8 := a8) f0 s0 n0 n1 (H.set h.length (oL D.int l5))
  obtain ⟨x1, t1⟩ := thing_at (a0 := some (.scr ns)) (a1 := some (.int k)) (a2 := some (.ref h.length)) (a4 := some (enR m)) (a5 := some (.lst [enR m, d1, d2, d3])) (a7 := x0) (a8 := a8) f1 s1 n0 n1 (H.set h.length (oL D.int l5))
  obtain ⟨x2, t2⟩ := thing_at (a0 := some (.scr ns)) (a1 := some (.int k)) (a2 := some (.ref h.length)) (a4 := some (enR m)) (a5 := some (.lst [enR m, d1, d2, d3])) (a7 := x1) (a8 := a8) f2 s2 n0 n1 (H.set h.length (oL D.int l5))
  obtain ⟨x3, t3⟩ := thing_at (a0 := some (.scr ns)) (a1 := some (.int k)) (a2 := some (.ref h.length)) (a4 := some (enR m)) (a5 := some (.lst [enR m, d1, d2, d3])) (a7 := x2) (a8 := a8) f3 s3 n0 n1 (H.set h.length (oL D.int l5))
  have od := fun h => odd_false n0 h
  have o1 := fun h => od h .non (by simp)
  have o2 := fun h => od h (.int 0) (by simp)
  have o3 := fun h => od h (.bl true) (by simp)
  have o4 := fun h => od h (.str "") (by simp)
  have o5 := fun h => od h (.str "room") (by simp)
  have o6 := fun h => od h (.tup []) (by simp)
  have o7 := fun h => od h (.lst []) (by simp)
  have o8 := fun h => od h (.tup [.tup [], .tup []]) (by simp)
  have o9 := fun h => od h (.tup [.tup (repG [.str "out"] n)]) (by simp)
  have o10 := fun h => od h (.tup [.str "out", .tup []]) (by simp)
  have o11 := fun h => od h (.tup [.non, .non]) (by simp)
  have rd : ∀ h : Hh, F_is_room [.int n, .ref h.length] (h ++ [.dK []]) = .ok (.bl false) (h ++ [.dK []]) := fun h => by
    unfold F_is_room b_is_room
    have : kitB "dict" "tuple" = some false := by decide +kernel
    simp [this]
  have c1 : -1000 ≤ (n : Int) := by omega
  have c2 : (n : Int) ≤ 1000 := by omega
  refine ⟨[some (.scr ns), some (.int k), some (.ref h.length), some (.int n), some (enR m), some (.lst [enR m, d1, d2, d3]), some (.tup [.non, .non]), x3, some (.lst [.non, .int 0, .bl true, .str "", .str "room", .tup [], .lst [], .ref (H.set h.length (oL D.int l5)).length, .tup [.tup [], .tup []], .tup [.tup (repG [.str "out"] n)], .tup [.str "out", .tup []]])], H.set h.length (oL D.int l5) ++ [.dK []], ?_, rfl, rfl⟩
  have rd' := rd (H.set h.length (oL D.int l5))
  rw [List.length_set] at rd'
  unfold L_law_3 L_law_2
  simp (decide := true) [e1, e2, hn, e3, rm, em, rme, e4, e5, e6, t0, t1, t2, t3, o1, o2, o3, o4, o5, o6, o7, o8, o9, o10, o11, rd', c1, c2]
theorem law_true : ∀ ns : List Int, ns.length ≤ 63 → ∃ h', F_law [.scr ns] [] = .ok (.bl true) h' := fun ns hl => by
  have hN : ∀ n : Int, n = 6 + (if (ns.length : Int) < 20 then (ns.length : Int) else 20) → 6 ≤ n ∧ n ≤ 26 := fun n e => by
    split at e <;> omega
  have hN2 : ∀ n : Int, n = 6 + (if 20 < (ns.length : Int) then 20 else (ns.length : Int)) → 6 ≤ n ∧ n ≤ 26 := fun n e => by
    split at e <;> omega
  obtain ⟨b1, b2⟩ := hN _ rfl
  generalize hg : 6 + (if (ns.length : Int) < 20 then (ns.length : Int) else 20) = n at b1 b2
  obtain ⟨env', h', e, i1, i2⟩ := for_inv (body := bodyT (.name 1) L_law_3) (fun env h => env.length = 9 ∧ env[0]? = some (some (.scr ns))) (rangeD 0 n) [some (.scr ns), none, none, none, none, none, none, none, none] [] ⟨rfl, rfl⟩
    (fun d hd env h i => by
      obtain ⟨k, rfl, k0, k1⟩ := mem_range hd
      exact turn ns k k0 (by omega) i.1 i.2)
  have c1 : -1000000 ≤ n := by omega
  have c2 : n ≤ 1000000 := by omega
  refine ⟨h', ?_⟩
  unfold F_law b_law
  simp (decide := true) [hg, c1, c2, e]

end LK
end
set_option maxHeartbeats 0 in
theorem PySem.Challenge.cw_manyreaders_k02_rooms_or_none_holds : PySem.Challenge.rw_manyreaders_k02_rooms_or_none.Holds := by
  w_on; o_law; k_head; (case hw => w_witness2)
  k_fill
  refine L2.walk_of (l := PySem.Challenge.rw_manyreaders_k02_rooms_or_none) (n := 63) (k := 6) (x := "_law_script") (CX := fun w => L2.CX PySem.Challenge.rw_manyreaders_k02_rooms_or_none.prog w) (sp := fun w => MR.spD ⟨PySem.Challenge.rw_manyreaders_k02_rooms_or_none.prog, w, _⟩ 1 LK.F_law) rfl (by decide) rfl ⟨rfl, by decide, by decide⟩ (fun w h Y => PySem.W.kIn_of Y) ?F (fun w H a ns hl hO hS => MR.sp_law (by decide) LK.law_true H a ns hl hO hS) (fun _ _ _ _ _ h => MR.cx_law h)
  case F =>
    intro w mg fa h KX G hmg
    have T : LK.Txt PySem.Challenge.rw_manyreaders_k02_rooms_or_none.prog w (L2.KOf KX) mg := by
      refine' ⟨MR.mkFd KX G ?a0 ?l0 ?d0 ?k0 (fun _ _ _ _ _ _ us hl => match us, hl with | [_, _, _], _ => rfl),
        MR.mkFd KX G ?a1 ?l1 ?d1 ?k1 (fun _ _ _ _ _ _ us hl => match us, hl with | [_, _], _ => rfl),
        MR.mkFd KX G ?a2 ?l2 ?d2 ?k2 (fun _ _ _ _ _ _ us hl => match us, hl with | [_], _ => rfl),
        MR.mkFd KX G ?a3 ?l3 ?d3 ?k3 (fun _ _ _ _ _ _ us hl => match us, hl with | [_, _], _ => rfl),
        MR.mkFd KX G ?a4 ?l4 ?d4 ?k4 (fun _ _ _ _ _ _ us hl => match us, hl with | [_, _, _], _ => rfl),
        MR.mkFd KX G ?a5 ?l5 ?d5 ?k5 (fun _ _ _ _ _ _ us hl => match us, hl with | [_, _], _ => rfl),
        MR.mkFd KX G ?a6 ?l6 ?d6 ?k6 (fun _ _ _ _ _ _ us hl => match us, hl with | [_], _ => rfl),
        MR.mkFd KX G ?a7 ?l7 ?d7 ?k7 (fun _ _ _ _ _ _ us hl => match us, hl with | [_, _], _ => rfl),
        MR.mkFd KX G ?a8 ?l8 ?d8 ?k8 (fun _ _ _ _ _ _ us hl => match us, hl with | [], _ => rfl),
        MR.mkFd KX G ?a9 ?l9 ?d9 ?k9 (fun _ _ _ _ _ _ us hl => match us, hl with | [_, _], _ => rfl),
        MR.mkFd KX G ?a10 ?l10 ?d10 ?k10 (fun _ _ _ _ _ _ us hl => match us, hl with | [_, _], _ => rfl),
        MR.mkFd KX G ?a11 ?l11 ?d11 ?k11 (fun _ _ _ _ _ _ us hl => match us, hl with | [_], _ => rfl),
        MR.mkFd KX G ?a12 ?l12 ?d12 ?k12 (fun _ _ _ _ _ _ us hl => match us, hl with | [_, _], _ => rfl),
        MR.mkFd KX G ?a13 ?l13 ?d13 ?k13 (fun _ _ _ _ _ _ us hl => match us, hl with | [_, _], _ => rfl),
        MR.mkFd KX G ?a14 ?l14 ?d14 ?k14 (fun _ _ _ _ _ _ us hl => match us, hl with | [_, _], _ => rfl),
        MR.mkFd KX G ?a15 ?l15 ?d15 ?k15 (fun _ _ _ _ _ _ us hl => match us, hl with | [_, _], _ => rfl),
        MR.mkFd KX G ?a16 ?l16 ?d16 ?k16 (fun _ _ _ _ _ _ us hl => match us, hl with | [_, _], _ => rfl),
        MR.mkFd KX G ?a17 ?l17 ?d17 ?k17 (fun _ _ _ _ _ _ us hl => match us, hl with | [_], _ => rfl),
        MR.mkTupS (xs := ["out", "reads", "rising", "writes", "raised"]) KX G ?ca0 ?cl0 ?cr0 ?cz0,
        MR.mkTupS (xs := ["read", "write"]) KX G ?ca1 ?cl1 ?cr1 ?cz1,
        MR.mkInt KX G ?ca2,
        MR.mkInt KX G ?ca3,
        PySem.W.mg_none_of KX G ?n_all,
        PySem.W.mg_none_of KX G ?n_bool,
        PySem.W.mg_none_of KX G ?n_int,
        PySem.W.mg_none_of KX G ?n_isinstance,
        PySem.W.mg_none_of KX G ?n_len,
        PySem.W.mg_none_of KX G ?n_list,
        PySem.W.mg_none_of KX G ?n_max,
        PySem.W.mg_none_of KX G ?n_min,
        PySem.W.mg_none_of KX G ?n_range,
        PySem.W.mg_none_of KX G ?n_set,
        PySem.W.mg_none_of KX G ?n_sorted,
        PySem.W.mg_none_of KX G ?n_str,
        PySem.W.mg_none_of KX G ?n_tuple⟩
      (case a0 => k_is)
      (case l0 => k_is)
      (case d0 => k_is)
      (case k0 => k_is)
      (case a1 => k_is)
      (case l1 => k_is)
      (case d1 => k_is)
      (case k1 => k_is)
      (case a2 => k_is)
      (case l2 => k_is)
      (case d2 => k_is)
      (case k2 => k_is)
      (case a3 => k_is)
      (case l3 => k_is)
      (case d3 => k_is)
      (case k3 => k_is)
      (case a4 => k_is)
      (case l4 => k_is)
      (case d4 => k_is)
      (case k4 => k_is)
      (case a5 => k_is)
      (case l5 => k_is)
      (case d5 => k_is)
      (case k5 => k_is)
      (case a6 => k_is)
      (case l6 => k_is)
      (case d6 => k_is)
      (case k6 => k_is)
      (case a7 => k_is)
      (case l7 => k_is)
      (case d7 => k_is)
      (case k7 => k_is)
      (case a8 => k_is)
      (case l8 => k_is)
      (case d8 => k_is)
      (case k8 => k_is)
      (case a9 => k_is)
      (case l9 => k_is)
      (case d9 => k_is)
      (case k9 => k_is)
      (case a10 => k_is)
      (case l10 => k_is)
      (case d10 => k_is)
      (case k10 => k_is)
      (case a11 => k_is)
      (case l11 => k_is)
      (case d11 => k_is)
      (case k11 => k_is)
      (case a12 => k_is)
      (case l12 => k_is)
      (case d12 => k_is)
      (case k12 => k_is)
      (case a13 => k_is)
      (case l13 => k_is)
      (case d13 => k_is)
      (case k13 => k_is)
      (case a14 => k_is)
      (case l14 => k_is)
      (case d14 => k_is)
      (case k14 => k_is)
      (case a15 => k_is)
      (case l15 => k_is)
      (case d15 => k_is)
      (case k15 => k_is)
      (case a16 => k_is)
      (case l16 => k_is)
      (case d16 => k_is)
      (case k16 => k_is)
      (case a17 => k_is)
      (case l17 => k_is)
      (case d17 => k_is)
      (case k17 => k_is)
      (case ca0 => k_is)
      (case cl0 => k_is)
      (case ca1 => k_is)
      (case cl1 => k_is)
      (case ca2 => k_is)
      (case ca3 => k_is)
      (case n_all => k_is)
      (case n_bool => k_is)
      (case n_int => k_is)
      (case n_isinstance => k_is)
      (case n_len => k_is)
      (case n_list => k_is)
      (case n_max => k_is)
      (case n_min => k_is)
      (case n_range => k_is)
      (case n_set => k_is)
      (case n_sorted => k_is)
      (case n_str => k_is)
      (case n_tuple => k_is)
      (case cr0 => exact MR.strs_vals [("out", _), ("reads", _), ("rising", _), ("writes", _), ("raised", _)])
      (case cz0 => decide)
      (case cr1 => exact MR.strs_vals [("read", _), ("write", _)])
      (case cz1 => decide)
    have e := hmg.symm.trans T.p_law.g
    cases e
    exact ⟨T.p_law.fd, fun s v => T.p_law.r s [v] rfl, fun base _ _ => LK.ok_law T⟩
