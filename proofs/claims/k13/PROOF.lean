import PyProof.Rows.All
import Wide.All
import OpenK.AllK
import Wide.FinOn
import HandS.ForMost
import HandS.ForExc
import HandS.IsInst
import HandS.SortOrd
import HandS.DictComp
import HandS.DictTup
import HandS.ListItems
import HandS.Conv
import HandS.Zip
import HandS.Flow
import HandS.Style
import HandS.Wide
import HandS.TupAny
import HandS.TupLen
import HandS.NoneIn
import HandS.Deep
import HandS.Walk
import KE.GoesMore
import PyProof.Rows.SortShellAny
import HandS.SortRule
import HandS.SortInts
import KE.KSortTup
import KE.KDictSum
import KE.DataMinMax
import KE.KDictPairs
import HandS.HeadHook2
import HandS.HeadEnd
import HandS.Head2
import HandS.Codes
import PySem.Challenge.RW_huesapart_k13_whole_orders_and_cores_jud
set_option Elab.async false
set_option linter.all false
set_option maxRecDepth 100000
namespace HU
open PySem PySem.Spec L2

/-! ### data -/
/-- a value together with all that it holds -/
inductive D where
  | non | bl (b : Bool) | int (i : Int) | str (x : Str)
  | lst (xs : List D) | tup (xs : List D)
  | dic (kvs : List (Key × D)) | dit (kvs : List (List Key × D))
  | ins (c : Str) (fs : List (Str × D))
instance : Inhabited D := ⟨.non⟩

mutual
/-- at H the value v is the data d -/
inductive Rep (mg : Str → Option Value) (H : Hp) : V → D → Prop
  | non : Rep mg H .non .non
  | bl (b : Bool) : Rep mg H (.bl b) (.bl b)
  | int (i : Int) : Rep mg H (.int i) (.int i)
  | str (x : Str) : Rep mg H (.str x) (.str x)
  | lst {a : Addr} {vs : List V} {xs : List D} : H a = some (.lst vs) → RepL mg H vs xs → Rep mg H (.ref a) (.lst xs)
  | tup {a : Addr} {vs : List V} {xs : List D} : H a = some (.tup vs) → RepL mg H vs xs → Rep mg H (.ref a) (.tup xs)
  | dic {a : Addr} {od : Obj} {ws : List (Key × V)} {kvs : List (Key × D)} : H a = some (.frz od (.dK ws)) → RepA mg H ws kvs → Rep mg H (.ref a) (.dic kvs)
  | dit {a : Addr} {od : Obj} {ws : List (List Key × V)} {kvs : List (List Key × D)} : H a = some (.frz od (.dT ws)) → RepA mg H ws kvs → Rep mg H (.ref a) (.dit kvs)
  | ins {a C dx : Addr} {c : Str} {ws : List (Str × V)} {fs : List (Str × D)} : mg c = some (.ref C) → H a = some (.ins C dx ws) → RepA mg H ws fs → Rep mg H (.ref a) (.ins c fs)
inductive RepL (mg : Str → Option Value) (H : Hp) : List V → List D → Prop
  | nil : RepL mg H [] []
  | cons {v : V} {vs : List V} {d : D} {ds : List D} : Rep mg H v d → RepL mg H vs ds → RepL mg H (v :: vs) (d :: ds)
inductive RepA (mg : Str → Option Value) (H : Hp) : {κ : Type} → List (κ × V) → List (κ × D) → Prop
  | nil {κ : Type} : RepA mg H (κ := κ) [] []
  | cons {κ : Type} {k : κ} {v : V} {vs : List (κ × V)} {d : D} {ds : List (κ × D)} : Rep mg H v d → RepA mg H vs ds → RepA mg H (κ := κ) ((k, v) :: vs) ((k, d) :: ds)
end
section
variable {mg : Str → Option Value} {H H' : Hp}
mutual
theorem Rep.mono (s : Same H H') : ∀ {v : V} {d : D}, Rep mg H v d → Rep mg H' v d
  | _, _, .non => .non
  | _, _, .bl b => .bl b
  | _, _, .int i => .int i
  | _, _, .str x => .str x
  | _, _, .lst e r => .lst (s _ _ e) (RepL.mono s r)
  | _, _, .tup e r => .tup (s _ _ e) (RepL.mono s r)
  | _, _, .dic e r => .dic (s _ _ e) (RepA.mono s r)
  | _, _, .dit e r => .dit (s _ _ e) (RepA.mono s r)
  | _, _, .ins m e r => .ins m (s _ _ e) (RepA.mono s r)
theorem RepL.mono (s : Same H H') : ∀ {v : List V} {d : List D}, RepL mg H v d → RepL mg H' v d
  | _, _, .nil => .nil
  | _, _, .cons a b => .cons (Rep.mono s a) (RepL.mono s b)
theorem RepA.mono (s : Same H H') : ∀ {κ : Type} {v : List (κ × V)} {d : List (κ × D)}, RepA mg H v d → RepA mg H' v d
  | _, _, _, .nil => .nil
  | _, _, _, .cons a b => .cons (Rep.mono s a) (RepA.mono s b)
end
theorem RepL.length : ∀ {vs : List V} {ds : List D}, RepL mg H vs ds → vs.length = ds.length
  | _, _, .nil => rfl
  | _, _, .cons _ r => by simp [RepL.length r]
theorem RepL.app : ∀ {vs us : List V} {ds es : List D}, RepL mg H vs ds → RepL mg H us es → RepL mg H (vs ++ us) (ds ++ es)
  | _, _, _, _, .nil, s => s
  | _, _, _, _, .cons a r, s => .cons a (RepL.app r s)
theorem RepL.get : ∀ {vs : List V} {ds : List D} {i : Nat} {d : D}, RepL mg H vs ds → ds[i]? = some d → ∃ v, vs[i]? = some v ∧ Rep mg H v d
  | _, _, _, _, .nil, e => by simp at e
  | _, _, 0, _, .cons a r, e => by simp at e; subst e; exact ⟨_, rfl, a⟩
  | _, _, i + 1, _, .cons a r, e => by
    obtain ⟨v, h1, h2⟩ := RepL.get (i := i) r (by simpa using e)
    exact ⟨v, by simpa using h1, h2⟩
theorem RepL.getV : ∀ {vs : List V} {ds : List D} {i : Nat} {v : V}, RepL mg H vs ds → vs[i]? = some v → ∃ d, ds[i]? = some d ∧ Rep mg H v d
  | _, _, _, _, .nil, e => by simp at e
  | _, _, 0, _, .cons a r, e => by simp at e; subst e; exact ⟨_, rfl, a⟩
  | _, _, i + 1, _, .cons a r, e => by
    obtain ⟨v, h1, h2⟩ := RepL.getV (i := i) r (by simpa using e)
    exact ⟨v, by simpa using h1, h2⟩
theorem RepL.take : ∀ {vs : List V} {ds : List D} (n : Nat), RepL mg H vs ds → RepL mg H (vs.take n) (ds.take n)
  | _, _, 0, _ => by simp; exact .nil
  | _, _, n + 1, .nil => .nil
  | _, _, n + 1, .cons a r => .cons a (RepL.take n r)
theorem RepL.drop : ∀ {vs : List V} {ds : List D} (n : Nat), RepL mg H vs ds → RepL mg H (vs.drop n) (ds.drop n)
  | _, _, 0, r => r
  | _, _, n + 1, .nil => .nil
  | _, _, n + 1, .cons a r => RepL.drop n r
theorem RepL.set : ∀ {vs : List V} {ds : List D} {v : V} {d : D} (n : Nat), RepL mg H vs ds → Rep mg H v d → RepL mg H (vs.set n v) (ds.set n d)
  | _, _, _, _, _, .nil, _ => .nil
  | _, _, _, _, 0, .cons a r, q => .cons q r
  | _, _, _, _, n + 1, .cons a r, q => .cons a (RepL.set n r q)
theorem RepL.rev : ∀ {vs : List V} {ds : List D}, RepL mg H vs ds → RepL mg H vs.reverse ds.reverse
  | _, _, .nil => .nil
  | _, _, .cons a r => by simp only [List.reverse_cons]; exact RepL.app (RepL.rev r) (.cons a .nil)
theorem RepL.bls : ∀ {vs : List V} {bs : List Bool}, RepL mg H vs (bs.map D.bl) → vs = bs.map V.bl
  | _, [], .nil => rfl
  | _, b :: bs, .cons a r => by cases a; simp [RepL.bls r]
theorem RepL.ints : ∀ {vs : List V} {bs : List Int}, RepL mg H vs (bs.map D.int) → vs = bs.map V.int
  | _, [], .nil => rfl
  | _, b :: bs, .cons a r => by cases a; simp [RepL.ints r]
theorem RepL.strs : ∀ {vs : List V} {bs : List Str}, RepL mg H vs (bs.map D.str) → vs = bs.map V.str
  | _, [], .nil => rfl
  | _, b :: bs, .cons a r => by cases a; simp [RepL.strs r]
theorem RepL.ofStrs : ∀ (bs : List Str), RepL mg H (bs.map V.str) (bs.map D.str)
  | [] => .nil
  | b :: bs => .cons (.str b) (RepL.ofStrs bs)
theorem RepL.ofInts : ∀ (bs : List Int), RepL mg H (bs.map V.int) (bs.map D.int)
  | [] => .nil
  | b :: bs => .cons (.int b) (RepL.ofInts bs)
theorem RepA.length {κ : Type} : ∀ {vs : List (κ × V)} {ds : List (κ × D)}, RepA mg H vs ds → vs.length = ds.length
  | _, _, .nil => rfl
  | _, _, .cons _ r => by simp [RepA.length r]
theorem RepA.keys {κ : Type} : ∀ {vs : List (κ × V)} {ds : List (κ × D)}, RepA mg H vs ds → vs.map (·.1) = ds.map (·.1)
  | _, _, .nil => rfl
  | _, _, .cons _ r => by simp [RepA.keys r]
theorem RepA.vals {κ : Type} : ∀ {vs : List (κ × V)} {ds : List (κ × D)}, RepA mg H vs ds → RepL mg H (vs.map (·.2)) (ds.map (·.2))
  | _, _, .nil => .nil
  | _, _, .cons a r => .cons a (RepA.vals r)
theorem RepA.app {κ : Type} : ∀ {vs us : List (κ × V)} {ds es : List (κ × D)}, RepA mg H vs ds → RepA mg H us es → RepA mg H (vs ++ us) (ds ++ es)
  | _, _, _, _, .nil, s => s
  | _, _, _, _, .cons a r, s => .cons a (RepA.app r s)
end
/-- a dict's value at a key -/
def getA {κ : Type} [DecidableEq κ] : List (κ × D) → κ → Option D
  | [], _ => none
  | (j, d) :: r, k => if j = k then some d else getA r k
/-- a dict with a key stored: in its place, or behind all -/
def putA {κ : Type} [DecidableEq κ] (kvs : List (κ × D)) (k : κ) (d : D) : List (κ × D) :=
  if (kvs.any fun kv => decide (kv.1 = k)) = true then kvs.map (fun kv => if kv.1 = k then (kv.1, d) else kv) else kvs ++ [(k, d)]
section
variable {mg : Str → Option Value} {H H' : Hp} {κ : Type} [DecidableEq κ]
theorem valV_cons (j : κ) (v : V) (r : List (κ × V)) (k : κ) : valV ((j, v) :: r) k = if j = k then some v else valV r k := by
  by_cases e : j = k
  · rw [if_pos e, valV_pos (p := (j, v)) e]
  · rw [if_neg e, valV_neg (p := (j, v)) e]
theorem RepA.get : ∀ {vs : List (κ × V)} {ds : List (κ × D)} {k : κ} {d : D}, RepA mg H vs ds → getA ds k = some d → ∃ v, valV vs k = some v ∧ Rep mg H v d
  | _, _, _, _, .nil, e => by simp [getA] at e
  | _, _, k, d, .cons (k := j) a r, e => by
    unfold getA at e
    rw [valV_cons]
    split at e
    · rename_i h; rw [if_pos h]; cases e; exact ⟨_, rfl, a⟩
    · rename_i h; rw [if_neg h]; exact RepA.get r e
theorem RepA.getN : ∀ {vs : List (κ × V)} {ds : List (κ × D)} {k : κ}, RepA mg H vs ds → getA ds k = none → valV vs k = none
  | _, _, _, .nil, e => rfl
  | _, _, k, .cons (k := j) a r, e => by
    unfold getA at e
    rw [valV_cons]
    split at e
    · cases e
    · rename_i h; rw [if_neg h]; exact RepA.getN r e
theorem RepA.any : ∀ {vs : List (κ × V)} {ds : List (κ × D)} (k : κ), RepA mg H vs ds → (vs.any fun kv => decide (kv.1 = k)) = (ds.any fun kv => decide (kv.1 = k))
  | _, _, _, .nil => rfl
  | _, _, k, .cons (k := j) a r => by simp only [List.any_cons]; rw [RepA.any k r]
theorem RepA.repl : ∀ {vs : List (κ × V)} {ds : List (κ × D)} (k : κ) {v : V} {d : D}, RepA mg H vs ds → Rep mg H v d →
    RepA mg H (vs.map fun kv => if kv.1 = k then (kv.1, v) else kv) (ds.map fun kv => if kv.1 = k then (kv.1, d) else kv)
  | _, _, _, _, _, .nil, _ => .nil
  | _, _, k, v, d, .cons (k := j) a r, q => by
    simp only [List.map_cons]
    by_cases e : j = k
    · rw [if_pos e, if_pos e]; exact .cons q (RepA.repl k r q)
    · rw [if_neg e, if_neg e]; exact .cons a (RepA.repl k r q)
theorem RepA.put {vs : List (κ × V)} {ds : List (κ × D)} (k : κ) {v : V} {d : D} (r : RepA mg H vs ds) (q : Rep mg H v d) : RepA mg H (putK vs k v) (putA ds k d) := by
  unfold putK putA
  rw [r.any k]
  split
  · exact r.repl k q
  · exact r.app (.cons q .nil)
theorem RepA.some_of : ∀ {vs : List (κ × V)} {ds : List (κ × D)} {k : κ}, RepA mg H vs ds → (valV vs k).isSome = (getA ds k).isSome := fun {vs ds k} r => by
  cases e : getA ds k with
  | none => rw [r.getN e]; rfl
  | some d => obtain ⟨v, h, _⟩ := r.get e; rw [h] <;> rfl
end
end HU
set_option maxRecDepth 100000
namespace HU
open PySem PySem.Spec L2

/-! ### slots -/
/-- things of several objects: the draws' stream (the numbers left, the base, how many were drawn, what is mixed); a dict of lists that may be changed -/
inductive Stm where
  | s (cells : List Int) (base cnt mix : Int)
  | dol (kvs : List (Key × List D))
inductive DolR (mg : Str → Option Value) (F H : Hp) : List (Key × List D) → List (Key × V) → List Addr → Prop
  | nil : DolR mg F H [] [] []
  | cons {k : Key} {a : Addr} {vs : List V} {xs : List D} {kvs : List (Key × List D)} {ws : List (Key × V)} {as : List Addr} : H a = some (.lst vs) → RepL mg F vs xs → DolR mg F H kvs ws as → DolR mg F H ((k, xs) :: kvs) ((k, .ref a) :: ws) (a :: as)
def StmR (mg : Str → Option Value) (F H : Hp) (p : Addr) (ps : List Addr) : Stm → Prop
  | .s cells base cnt mix => ∃ c, ps = [p, c] ∧ H p = some (.lst [.ref c, .int base, .int cnt, .int mix]) ∧ H c = some (.lst (cells.map V.int))
  | .dol kvs => ∃ as ws, ps = p :: as ∧ H p = some (.dK ws) ∧ DolR mg F H kvs ws as
theorem DolR.mono {mg : Str → Option Value} {F F' H H' : Hp} (s : Same F F') : ∀ {kvs : List (Key × List D)} {ws : List (Key × V)} {as : List Addr}, DolR mg F H kvs ws as → (∀ a ∈ as, H' a = H a) → DolR mg F' H' kvs ws as
  | _, _, _, .nil, _ => .nil
  | _, _, _, .cons e q r, h => .cons ((h _ (by simp)).trans e) (q.mono s) (DolR.mono s r fun a ha => h a (by simp [ha]))
theorem DolR.lists {mg : Str → Option Value} {F H : Hp} : ∀ {kvs : List (Key × List D)} {ws : List (Key × V)} {as : List Addr}, DolR mg F H kvs ws as → ∀ a ∈ as, ∃ vs, H a = some (.lst vs)
  | _, _, _, .nil, a, h => by cases h
  | _, _, _, .cons e q r, a, h => by
    rcases List.mem_cons.mp h with z | h
    · rw [z]; exact ⟨_, e⟩
    · exact DolR.lists r a h
/-- what a name holds: nothing known; data that stands still; an object that only this name holds and that may be changed; one that is looked at only -/
inductive Sl where
  | none | val (d : D)
  | lst (xs : List D) | dic (kvs : List (Key × D)) | dit (kvs : List (List Key × D)) | ins (c : Str) (fs : List (Str × D)) | stm (s : Stm)
  | pkl (xs : List D) | pkd (kvs : List (Key × D)) | pkt (kvs : List (List Key × D)) | pki (c : Str) (fs : List (Str × D)) | scr (ns : List Int)
instance : Inhabited Sl := ⟨.none⟩
def Sl.own : Sl → Bool
  | .lst _ | .dic _ | .dit _ | .ins _ _ | .stm _ => true
  | _ => false
/-- an activation: the module's names, how many parameters, what stood still and all at the entry, what must be as it was, the arguments; objects that never stand still here -/
structure Ax where
  mg : Str → Option Value
  n : Nat
  F0 : Hp
  G : Hp
  H0 : Hp
  vs : List V
  bar : Hp

def SlR (mg : Str → Option Value) (G F H : Hp) : Sl → Option V → List Addr → Prop
  | .none, _, ps => ps = []
  | .val d, o, ps => ps = [] ∧ ∃ v, o = some v ∧ Rep mg F v d
  | .lst xs, o, ps => ∃ p vs, o = some (.ref p) ∧ ps = [p] ∧ H p = some (.lst vs) ∧ RepL mg F vs xs
  | .dic kvs, o, ps => ∃ p ws, o = some (.ref p) ∧ ps = [p] ∧ H p = some (.dK ws) ∧ RepA mg F ws kvs
  | .dit kvs, o, ps => ∃ p ws, o = some (.ref p) ∧ ps = [p] ∧ H p = some (.dT ws) ∧ RepA mg F ws kvs
  | .ins c fs, o, ps => ∃ p C dx ws, o = some (.ref p) ∧ ps = [p] ∧ mg c = some (.ref C) ∧ H p = some (.ins C dx ws) ∧ RepA mg F ws fs
  | .stm s, o, ps => ∃ p, o = some (.ref p) ∧ StmR mg F H p ps s
  | .pkl xs, o, ps => ps = [] ∧ ∃ p vs, o = some (.ref p) ∧ G p = some (.lst vs) ∧ RepL mg F vs xs
  | .pkd kvs, o, ps => ps = [] ∧ ∃ p ws, o = some (.ref p) ∧ G p = some (.dK ws) ∧ RepA mg F ws kvs
  | .pkt kvs, o, ps => ps = [] ∧ ∃ p ws, o = some (.ref p) ∧ G p = some (.dT ws) ∧ RepA mg F ws kvs
  | .pki c fs, o, ps => ps = [] ∧ ∃ p C dx ws, o = some (.ref p) ∧ mg c = some (.ref C) ∧ G p = some (.ins C dx ws) ∧ RepA mg F ws fs
  | .scr ns, o, ps => ps = [] ∧ ∃ p od, o = some (.ref p) ∧ G p = some (.frz od (.lst (ns.map V.int)))

theorem Same.refl (H : Hp) : Same H H := fun _ _ e => e
theorem Same.trans {H H1 H2 : Hp} (a : Same H H1) (b : Same H1 H2) : Same H H2 := fun x o e => b x o (a x o e)
theorem Same.upd {H : Hp} {p : Addr} {o : HO} (h : H p = .none) : Same H (upd H p o) := fun b x e => by
  rw [upd_ne (ne_of_none e h)]; exact e

section
variable {mg : Str → Option Value} {G G' F F' H H' : Hp} {s : Sl} {o : Option V} {ps : List Addr}
/-- what a slot says stays where what stands still grows and its own objects are as they were -/
theorem SlR.mono (r : SlR mg G F H s o ps) (sf : Same F F') (sg : Same G G') (sh : ∀ p ∈ ps, H' p = H p) : SlR mg G' F' H' s o ps := by
  cases s with
  | none => exact r
  | val d => obtain ⟨e, v, h1, h2⟩ := r; exact ⟨e, v, h1, h2.mono sf⟩
  | lst xs => obtain ⟨p, vs, h1, rfl, h2, h3⟩ := r; exact ⟨p, vs, h1, rfl, (sh p (by simp)).trans h2, h3.mono sf⟩
  | dic xs => obtain ⟨p, vs, h1, rfl, h2, h3⟩ := r; exact ⟨p, vs, h1, rfl, (sh p (by simp)).trans h2, h3.mono sf⟩
  | dit xs => obtain ⟨p, vs, h1, rfl, h2, h3⟩ := r; exact ⟨p, vs, h1, rfl, (sh p (by simp)).trans h2, h3.mono sf⟩
  | ins c fs => obtain ⟨p, C, dx, vs, h1, rfl, hm, h2, h3⟩ := r; exact ⟨p, C, dx, vs, h1, rfl, hm, (sh p (by simp)).trans h2, h3.mono sf⟩
  | stm s =>
    obtain ⟨p, h1, q⟩ := r
    refine ⟨p, h1, ?_⟩
    cases s with
    | s cells base cnt mix => obtain ⟨c, rfl, h2, h3⟩ := q; exact ⟨c, rfl, (sh p (by simp)).trans h2, (sh c (by simp)).trans h3⟩
    | dol kvs => obtain ⟨as, ws, rfl, h2, h3⟩ := q; exact ⟨as, ws, rfl, (sh p (by simp)).trans h2, h3.mono sf fun a ha => sh a (by simp [ha])⟩
  | pkl xs => obtain ⟨e, p, vs, h1, h2, h3⟩ := r; exact ⟨e, p, vs, h1, sg _ _ h2, h3.mono sf⟩
  | pkd xs => obtain ⟨e, p, vs, h1, h2, h3⟩ := r; exact ⟨e, p, vs, h1, sg _ _ h2, h3.mono sf⟩
  | pkt xs => obtain ⟨e, p, vs, h1, h2, h3⟩ := r; exact ⟨e, p, vs, h1, sg _ _ h2, h3.mono sf⟩
  | pki c fs => obtain ⟨e, p, C, dx, vs, h1, hm, h2, h3⟩ := r; exact ⟨e, p, C, dx, vs, h1, hm, sg _ _ h2, h3.mono sf⟩
  | scr ns => obtain ⟨e, p, od, h1, h2⟩ := r; exact ⟨e, p, od, h1, sg _ _ h2⟩
theorem SlR.tracked (r : SlR mg G F H s o ps) : ∀ p ∈ ps, ∃ x, H p = some x ∧ ∀ ys, x ≠ .tup ys := by
  cases s with
  | none => intro p hp; rw [show ps = [] from r] at hp; simp at hp
  | val d => intro p hp; rw [r.1] at hp; simp at hp
  | lst xs => obtain ⟨p, vs, h1, rfl, h2, h3⟩ := r; intro q hq; rw [List.mem_singleton.mp hq]; exact ⟨_, h2, fun _ z => nomatch z⟩
  | dic xs => obtain ⟨p, vs, h1, rfl, h2, h3⟩ := r; intro q hq; rw [List.mem_singleton.mp hq]; exact ⟨_, h2, fun _ z => nomatch z⟩
  | dit xs => obtain ⟨p, vs, h1, rfl, h2, h3⟩ := r; intro q hq; rw [List.mem_singleton.mp hq]; exact ⟨_, h2, fun _ z => nomatch z⟩
  | ins c fs => obtain ⟨p, C, dx, vs, h1, rfl, hm, h2, h3⟩ := r; intro q hq; rw [List.mem_singleton.mp hq]; exact ⟨_, h2, fun _ z => nomatch z⟩
  | stm s =>
    obtain ⟨p, h1, q⟩ := r
    cases s with
    | s cells base cnt mix =>
      obtain ⟨c, rfl, h2, h3⟩ := q; intro q hq
      rcases List.mem_cons.mp hq with e | hq
      · rw [e]; exact ⟨_, h2, fun _ z => nomatch z⟩
      · rw [List.mem_singleton.mp hq]; exact ⟨_, h3, fun _ z => nomatch z⟩
    | dol kvs =>
      obtain ⟨as, ws, rfl, h2, h3⟩ := q; intro q hq
      rcases List.mem_cons.mp hq with e | hq
      · rw [e]; exact ⟨_, h2, fun _ z => nomatch z⟩
      · obtain ⟨vs, e⟩ := h3.lists q hq; exact ⟨_, e, fun _ z => nomatch z⟩
  | pkl xs => intro p hp; rw [r.1] at hp; simp at hp
  | pkd xs => intro p hp; rw [r.1] at hp; simp at hp
  | pkt xs => intro p hp; rw [r.1] at hp; simp at hp
  | pki c fs => intro p hp; rw [r.1] at hp; simp at hp
  | scr ns => intro p hp; rw [r.1] at hp; simp at hp
theorem SlR.nil (h : s.own = false) (r : SlR mg G F H s o ps) : ps = [] := by
  cases s with
  | none => exact r
  | val d => exact r.1
  | pkl xs => exact r.1
  | pkd xs => exact r.1
  | pkt xs => exact r.1
  | pki c fs => exact r.1
  | scr ns => exact r.1
  | _ => cases h
end

/-- the state of an activation: env of the slots σ, F what stands still, H all. ow: each slot's own objects -/
structure R (a : Ax) (env : List Sl) (σ : St) (F H : Hp) (ow : Nat → List Addr) : Prop where
  ln : env.length = σ.length
  nl : a.n ≤ env.length
  fh : Same F H
  gh : Same a.G H
  ff : Same a.F0 F
  nw : ∀ x o, F x = some o → a.F0 x = some o ∨ a.H0 x = .none ∨ ∃ ys, o = .tup ys
  dm : ∀ x, H x = .none → a.H0 x = .none
  sl : ∀ i s, env[i]? = some s → SlR a.mg a.G F H s (σ[i]?.join) (ow i)
  oz : ∀ i, env.length ≤ i → ow i = []
  oi : ∀ i j p, p ∈ ow i → p ∈ ow j → i = j
  on : ∀ i, (ow i).Nodup
  of : ∀ i p, p ∈ ow i → F p = .none ∧ a.G p = .none ∧ (a.n ≤ i → a.H0 p = .none)
  bh : Same a.bar H
  bf : ∀ p o, a.bar p = some o → F p = .none ∧ a.G p = .none ∧ ∀ ys, o ≠ .tup ys
  ob : ∀ i p, p ∈ ow i → a.bar p = .none
  pr : ∀ i s v, i < a.n → env[i]? = some s → s.own = true → a.vs[i]? = some v → σ[i]? = some (some v)
/-- .. the own objects not named -/
def RX (a : Ax) (env : List Sl) (σ : St) (F H : Hp) : Prop := ∃ ow, R a env σ F H ow

section
variable {a : Ax} {env : List Sl} {σ : St} {F H : Hp} {ow : Nat → List Addr}
theorem R.trk (r : R a env σ F H ow) {i : Nat} {p : Addr} (hp : p ∈ ow i) : ∃ x, H p = some x ∧ ∀ ys, x ≠ .tup ys := by
  by_cases h : i < env.length
  · exact (r.sl i env[i] (by simp [h])).tracked p hp
  · rw [r.oz i (Nat.le_of_not_lt h)] at hp; simp at hp
theorem R.fresh (r : R a env σ F H ow) {p : Addr} (hp : H p = .none) : F p = .none ∧ a.G p = .none ∧ a.H0 p = .none ∧ ∀ i, p ∉ ow i := by
  refine ⟨?_, ?_, r.dm p hp, fun i z => ?_⟩
  · cases e : F p with
    | none => rfl
    | some o => have := r.fh p o e; rw [hp] at this; cases this
  · cases e : a.G p with
    | none => rfl
    | some o => have := r.gh p o e; rw [hp] at this; cases this
  · obtain ⟨x, e, _⟩ := r.trk z; rw [hp] at e; cases e
/-- the heap grows beside: nothing that stood is changed -/
theorem R.grow (r : R a env σ F H ow) {H' : Hp} (s : Same H H') : R a env σ F H' ow :=
  ⟨r.ln, r.nl, r.fh.trans s, r.gh.trans s, r.ff, r.nw, fun x e => r.dm x (by cases q : H x with | none => rfl | some o => have := s x o q; rw [e] at this; cases this),
    fun i s' e => (r.sl i s' e).mono (Same.refl F) (Same.refl a.G) (fun p hp => by obtain ⟨x, q, _⟩ := r.trk hp; rw [q, s p x q]), r.oz, r.oi, r.on, r.of, r.bh.trans s, r.bf, r.ob, r.pr⟩
/-- a new object that stands still -/
theorem R.frz (r : R a env σ F H ow) {p : Addr} {o : HO} (hp : H p = .none) : R a env σ (upd F p o) (upd H p o) ow := by
  obtain ⟨h1, h2, h3, h4⟩ := r.fresh hp
  refine ⟨r.ln, r.nl, fun x u e => ?_, r.gh.trans (Same.upd hp), r.ff.trans (Same.upd h1), fun x u e => ?_, fun x e => ?_, fun i s e => ?_, r.oz, r.oi, r.on, fun i q hq => ?_, r.bh.trans (Same.upd hp), fun q u hq => ?_, r.ob, r.pr⟩
  · by_cases z : x = p
    · subst z; rw [upd_same] at e ⊢; exact e
    · rw [upd_ne z] at e ⊢; exact r.fh x u e
  · by_cases z : x = p
    · subst z; exact .inr (.inl h3)
    · rw [upd_ne z] at e; exact r.nw x u e
  · by_cases z : x = p
    · subst z; exact h3
    · rw [upd_ne z] at e; exact r.dm x e
  · exact (r.sl i s e).mono (Same.upd h1) (Same.refl _) fun q hq => by rw [upd_ne]; rintro rfl; exact h4 i hq
  · have z : q ≠ p := by rintro rfl; exact h4 i hq
    rw [upd_ne z]; exact r.of i q hq
  · have z : q ≠ p := by rintro rfl; have := r.bh q u hq; rw [hp] at this; cases this
    rw [upd_ne z]; exact r.bf q u hq
theorem R.at (r : R a env σ F H ow) {i : Nat} {s : Sl} (e : env[i]? = some s) : ∃ o, σ[i]? = some o ∧ SlR a.mg a.G F H s o (ow i) := by
  have h : i < σ.length := by rw [← r.ln]; exact (List.getElem?_eq_some_iff.mp e).1
  have q := r.sl i s e
  rw [List.getElem?_eq_getElem h] at q
  exact ⟨σ[i], List.getElem?_eq_getElem h, q⟩
theorem R.val (r : R a env σ F H ow) {i : Nat} {d : D} (e : env[i]? = some (.val d)) : ∃ v, σ[i]? = some (some v) ∧ Rep a.mg F v d := by
  obtain ⟨o, h1, _, v, h2, h3⟩ := r.at e
  subst h2
  exact ⟨v, h1, h3⟩
/-- slot i takes s with the own objects ps -/
def setOw (ow : Nat → List Addr) (i : Nat) (ps : List Addr) : Nat → List Addr := fun j => if j = i then ps else ow j
theorem setOw_same {i : Nat} {ps : List Addr} : setOw ow i ps i = ps := if_pos rfl
theorem setOw_ne {i j : Nat} {ps : List Addr} (h : j ≠ i) : setOw ow i ps j = ow j := if_neg h
theorem R.put (r : R a env σ F H ow) {i : Nat} {s : Sl} {o : Option V} {ps : List Addr} (hi : i < env.length) (q : SlR a.mg a.G F H s o ps) (nd : ps.Nodup) (hf : ∀ p ∈ ps, F p = .none ∧ a.G p = .none ∧ (a.n ≤ i → a.H0 p = .none))
    (ho : ∀ p ∈ ps, ∀ j, j ≠ i → p ∉ ow j) (hb : ∀ p ∈ ps, a.bar p = .none) (hp : i < a.n → s.own = true → ∀ v, a.vs[i]? = some v → o = some v) : R a (env.set i s) (σ.set i o) F H (setOw ow i ps) := by
  have hiσ : i < σ.length := by rw [← r.ln]; exact hi
  refine ⟨by simp [r.ln], by simp [r.nl], r.fh, r.gh, r.ff, r.nw, r.dm, fun j t e => ?_, fun j hj => ?_, fun j k p h1 h2 => ?_, fun j => ?_, fun j p h => ?_, r.bh, r.bf, fun j p h => ?_, fun j t v hj e ow' ev => ?_⟩
  · by_cases z : j = i
    · subst z
      rw [List.getElem?_set_self hi] at e
      cases e
      rw [setOw_same, List.getElem?_set_self hiσ]
      exact q
    · rw [List.getElem?_set_ne (Ne.symm z)] at e
      rw [setOw_ne z, List.getElem?_set_ne (Ne.symm z)]
      exact r.sl j t e
  · rw [List.length_set] at hj
    have z : j ≠ i := by omega
    rw [setOw_ne z]; exact r.oz j hj
  · by_cases z : j = i
    · by_cases z2 : k = i
      · rw [z, z2]
      · subst z; rw [setOw_same] at h1; rw [setOw_ne z2] at h2; exact absurd h2 (ho p h1 k z2)
    · by_cases z2 : k = i
      · subst z2; rw [setOw_same] at h2; rw [setOw_ne z] at h1; exact absurd h1 (ho p h2 j z)
      · rw [setOw_ne z] at h1; rw [setOw_ne z2] at h2; exact r.oi j k p h1 h2
  · by_cases z : j = i
    · subst z; rw [setOw_same]; exact nd
    · rw [setOw_ne z]; exact r.on j
  · by_cases z : j = i
    · subst z; rw [setOw_same] at h; exact hf p h
    · rw [setOw_ne z] at h; exact r.of j p h
  · by_cases z : j = i
    · subst z; rw [setOw_same] at h; exact hb p h
    · rw [setOw_ne z] at h; exact r.ob j p h
  · by_cases z : j = i
    · subst z
      rw [List.getElem?_set_self hi] at e
      cases e
      rw [List.getElem?_set_self hiσ, hp hj ow' v ev]
    · rw [List.getElem?_set_ne (Ne.symm z)] at e ⊢
      exact r.pr j t v hj e ow' ev
theorem R.putV (r : R a env σ F H ow) {i : Nat} {d : D} {v : V} (hi : i < env.length) (q : Rep a.mg F v d) : R a (env.set i (.val d)) (σ.set i (some v)) F H (setOw ow i []) :=
  r.put hi ⟨rfl, v, rfl, q⟩ List.nodup_nil (fun _ z => nomatch z) (fun _ z => nomatch z) (fun _ z => nomatch z) (fun _ z => nomatch z)
theorem R.wipe1 (r : R a env σ F H ow) {i : Nat} (hi : i < env.length) (o : Option V) : R a (env.set i .none) (σ.set i o) F H (setOw ow i []) :=
  r.put hi rfl List.nodup_nil (fun _ z => nomatch z) (fun _ z => nomatch z) (fun _ z => nomatch z) (fun _ z => nomatch z)
end
end HU
set_option maxRecDepth 100000
namespace HU
open PySem PySem.Spec L2

/-! ### what code does, over the slots: nothing where it would go wrong -/
abbrev Mr (α : Type) := List Sl → Option (α × List Sl)
def mRet {α : Type} (x : α) : Mr α := fun e => some (x, e)
def mBnd {α β : Type} (m : Mr α) (f : α → Mr β) : Mr β := fun e => (m e).bind fun r => f r.1 r.2
theorem mBnd_some {α β : Type} {m : Mr α} {f : α → Mr β} {e e2 : List Sl} {y : β} (h : mBnd m f e = some (y, e2)) : ∃ x e1, m e = some (x, e1) ∧ f x e1 = some (y, e2) := by
  unfold mBnd at h
  cases q : m e with
  | none => rw [q] at h; cases h
  | some r => rw [q] at h; exact ⟨r.1, r.2, rfl, h⟩
inductive Out where
  | next (e : List Sl) | ret (r : Sl) (e : List Sl) | brk (e : List Sl) | cnt (e : List Sl)
abbrev Ms := List Sl → Option Out

def rdE (a : Ax) (m : Mr D) : TE := fun σ H Q => ∃ env F d env', RX a env σ F H ∧ m env = some (d, env') ∧ ∀ v F' H', Same F F' → RX a env' σ F' H' → Rep a.mg F' v d → Q v H'
def rdF (a : Ax) (m : Mr Sl) : TE := fun σ H Q => ∃ env F r env', RX a env σ F H ∧ m env = some (r, env') ∧ ∀ v F' H', Same F F' → a.n ≤ env'.length → RX a (env' ++ [r]) (σ ++ [some v]) F' H' → Q v H'
def rdT (a : Ax) (m : Mr Bool) : TT := fun σ H Q => ∃ env F b env', RX a env σ F H ∧ m env = some (b, env') ∧ ∀ F' H', Same F F' → RX a env' σ F' H' → Q b H'
def rdA (a : Ax) (m : Mr (List D)) : TA := fun σ H Q => ∃ env F ds env', RX a env σ F H ∧ m env = some (ds, env') ∧ ∀ vs F' H', Same F F' → RX a env' σ F' H' → RepL a.mg F' vs ds → Q vs H'
/-- looked at: by itself, or over an object that only a name holds -/
inductive Vw (mg : Str → Option Value) (F H : Hp) : V → D → Prop
  | rep {v : V} {d : D} : Rep mg F v d → Vw mg F H v d
  | lst {p : Addr} {vs : List V} {xs : List D} : H p = some (.lst vs) → RepL mg F vs xs → Vw mg F H (.ref p) (.lst xs)
  | dic {p : Addr} {ws : List (Key × V)} {xs : List (Key × D)} : H p = some (.dK ws) → RepA mg F ws xs → Vw mg F H (.ref p) (.dic xs)
  | dit {p : Addr} {ws : List (List Key × V)} {xs : List (List Key × D)} : H p = some (.dT ws) → RepA mg F ws xs → Vw mg F H (.ref p) (.dit xs)
  | ins {p C dx : Addr} {c : Str} {ws : List (Str × V)} {xs : List (Str × D)} : mg c = some (.ref C) → H p = some (.ins C dx ws) → RepA mg F ws xs → Vw mg F H (.ref p) (.ins c xs)
def rdV (a : Ax) {τ : Type} (pre : Mr τ) (post : τ → List Sl → Option D) : TE := fun σ H Q => ∃ env F t env', RX a env σ F H ∧ pre env = some (t, env') ∧ ∀ v F' H', Same F F' → RX a env' σ F' H' →
  (∀ env2 F2 H2 d, Same F' F2 → RX a env2 σ F2 H2 → post t env2 = some d → Vw a.mg F2 H2 v d) → Q v H'
def rdS (a : Ax) (m : Ms) : TS := fun D σ H => ∃ env F, RX a env σ F H ∧ match m env with
  | some (.next e) => ∀ σ' F' H', Same F F' → RX a e σ' F' H' → D.nx σ' H'
  | some (.brk e) => ∀ σ' F' H', Same F F' → RX a e σ' F' H' → D.bk σ' H'
  | some (.cnt e) => ∀ σ' F' H', Same F F' → RX a e σ' F' H' → D.ct σ' H'
  | some (.ret r e) => ∀ v σ' F' H', Same F F' → a.n ≤ e.length → RX a (e ++ [r]) (σ' ++ [some v]) F' H' → D.rt v H'
  | none => False

structure SE (X : Cx) (n : Nat) (e : Expr) (m : Mr D) : Prop where
  run : ∀ a, a.mg = X.mg → a.n = n → PE X e (rdE a m)
structure SF (X : Cx) (n : Nat) (e : Expr) (m : Mr Sl) : Prop where
  run : ∀ a, a.mg = X.mg → a.n = n → PE X e (rdF a m)
structure ST (X : Cx) (n : Nat) (e : Expr) (m : Mr Bool) : Prop where
  run : ∀ a, a.mg = X.mg → a.n = n → PT X e (rdT a m)
structure SW (X : Cx) (n : Nat) (e : Expr) (m : Mr Bool) : Prop where
  run : ∀ a, a.mg = X.mg → a.n = n → PW X e (rdT a m)
structure SA (X : Cx) (n : Nat) (es : List Expr) (m : Mr (List D)) : Prop where
  run : ∀ a, a.mg = X.mg → a.n = n → PA X es (rdA a m)
structure SV (X : Cx) (n : Nat) (e : Expr) {τ : Type} (pre : Mr τ) (post : τ → List Sl → Option D) : Prop where
  run : ∀ a, a.mg = X.mg → a.n = n → PE X e (rdV a pre post)
structure SS (X : Cx) (n : Nat) (st : Stmt) (m : Ms) : Prop where
  run : ∀ a, a.mg = X.mg → a.n = n → PS X st (rdS a m)
structure SSs (X : Cx) (n : Nat) (st : List Stmt) (m : Ms) : Prop where
  run : ∀ a, a.mg = X.mg → a.n = n → PSs X st (rdS a m)

section
variable {X : Cx}
theorem _root_.L2.PE.w {e : Expr} {t t' : TE} (h : PE X e t) (w : ∀ σ H Q, t' σ H Q → t σ H Q) : PE X e t' := ⟨fun pins s σ H Q I q => h.run pins s σ H Q I (w _ _ _ q)⟩
theorem _root_.L2.PT.w {e : Expr} {t t' : TT} (h : PT X e t) (w : ∀ σ H Q, t' σ H Q → t σ H Q) : PT X e t' := ⟨fun pins s σ H Q I q => h.run pins s σ H Q I (w _ _ _ q)⟩
theorem _root_.L2.PW.w {e : Expr} {t t' : TT} (h : PW X e t) (w : ∀ σ H Q, t' σ H Q → t σ H Q) : PW X e t' := ⟨fun wh pins s σ H Q I q => h.run wh pins s σ H Q I (w _ _ _ q)⟩
theorem _root_.L2.PA.w {es : List Expr} {t t' : TA} (h : PA X es t) (w : ∀ σ H Q, t' σ H Q → t σ H Q) : PA X es t' := ⟨fun pos pins s σ H Q I q => h.run pos pins s σ H Q I (w _ _ _ q)⟩
theorem _root_.L2.PS.w {st : Stmt} {t t' : TS} (h : PS X st t) (w : ∀ D σ H, t' D σ H → t D σ H) : PS X st t' := ⟨fun pins s σ H D I q => h.run pins s σ H D I (w _ _ _ q)⟩
theorem _root_.L2.PSs.w {st : List Stmt} {t t' : TS} (h : PSs X st t) (w : ∀ D σ H, t' D σ H → t D σ H) : PSs X st t' := ⟨fun pins s σ H D I q => h.run pins s σ H D I (w _ _ _ q)⟩
theorem SE.as {n : Nat} {e : Expr} {m m' : Mr D} (h : SE X n e m) (q : m' = m) : SE X n e m' := q ▸ h
end

/-! ### from one judgement to another -/
def vE : D → List Sl → Option D := fun d _ => some d
theorem SE.v {X : Cx} {n : Nat} {e : Expr} {m : Mr D} (h : SE X n e m) : SV X n e m vE := ⟨fun a ha hn => (h.run a ha hn).w fun σ H Q ⟨env, F, d, env', r, hm, q⟩ => ⟨env, F, d, env', r, hm, fun v F' H' sf r' rp => q v F' H' sf r' fun env2 F2 H2 d2 s2 _ e => by
  cases e; exact .rep (rp.mono s2)⟩⟩
/-- an end of the environment -/
theorem get_snoc {α : Type} {l : List α} {x : α} : (l ++ [x])[l.length]? = some x := by simp
section
variable {a : Ax} {env : List Sl} {σ : L2.St} {F H : Hp} {r : Sl} {o : Option V}
/-- the last slot forgotten -/
theorem RX.init (h : RX a (env ++ [r]) (σ ++ [o]) F H) (hn : a.n ≤ env.length) : RX a env σ F H := by
  obtain ⟨ow, h⟩ := h
  have hl : env.length = σ.length := by have := h.ln; simpa using this
  refine ⟨fun i => if i < env.length then ow i else [], ⟨hl, hn, h.fh, h.gh, h.ff, h.nw, h.dm, fun i s e => ?_, fun i hi => ?_, fun i j p h1 h2 => ?_, fun i => ?_, fun i p h1 => ?_, h.bh, h.bf, fun i p h1 => ?_, fun i s v hi e ho ev => ?_⟩⟩
  · have hi : i < env.length := (List.getElem?_eq_some_iff.mp e).1
    have q := h.sl i s (by rw [List.getElem?_append_left hi]; exact e)
    rw [List.getElem?_append_left (by omega)] at q
    simp only [hi, if_true]
    exact q
  · simp only [show ¬ i < env.length by omega, if_false]
  · split at h1
    · split at h2
      · exact h.oi i j p h1 h2
      · simp at h2
    · simp at h1
  · split
    · exact h.on i
    · exact List.nodup_nil
  · split at h1
    · exact h.of i p h1
    · simp at h1
  · split at h1
    · exact h.ob i p h1
    · simp at h1
  · have hl' : i < env.length := (List.getElem?_eq_some_iff.mp e).1
    have q := h.pr i s v hi (by rw [List.getElem?_append_left hl']; exact e) ho ev
    rw [List.getElem?_append_left (by omega)] at q
    exact q
/-- a slot added that holds data -/
theorem RX.snocV (h : RX a env σ F H) {d : D} {v : V} (q : Rep a.mg F v d) : RX a (env ++ [.val d]) (σ ++ [some v]) F H := by
  obtain ⟨ow, h⟩ := h
  refine ⟨ow, ⟨by simp [h.ln], by have := h.nl; simp; omega, h.fh, h.gh, h.ff, h.nw, h.dm, fun i s e => ?_, fun i hi => h.oz i (by simp at hi; omega), h.oi, h.on, h.of, h.bh, h.bf, h.ob, fun i s v hi e ho ev => ?_⟩⟩
  · by_cases hi : i < env.length
    · rw [List.getElem?_append_left hi] at e
      rw [List.getElem?_append_left (by rw [← h.ln]; exact hi)]
      exact h.sl i s e
    · have z : i = env.length := by
        have := (List.getElem?_eq_some_iff.mp e).1
        simp at this; omega
      subst z
      rw [get_snoc] at e; cases e
      rw [h.ln, get_snoc]
      exact ⟨by rw [← h.ln]; exact h.oz _ (Nat.le_refl _), v, rfl, q⟩
  · by_cases hi' : i < env.length
    · rw [List.getElem?_append_left hi'] at e
      rw [List.getElem?_append_left (by rw [← h.ln]; exact hi')]
      exact h.pr i s v hi e ho ev
    · have z : i = env.length := by
        have := (List.getElem?_eq_some_iff.mp e).1
        simp at this; omega
      subst z
      rw [get_snoc] at e; cases e; cases ho
/-- a slot added that holds new objects -/
theorem R.snoc {ow : Nat → List Addr} (h : R a env σ F H ow) {s : Sl} {ps : List Addr} (q : SlR a.mg a.G F H s o ps) (nd : ps.Nodup) (hf : ∀ p ∈ ps, F p = .none ∧ a.G p = .none ∧ a.H0 p = .none)
    (ho : ∀ p ∈ ps, ∀ j, p ∉ ow j) (hb : ∀ p ∈ ps, a.bar p = .none) : RX a (env ++ [s]) (σ ++ [o]) F H := by
  have hz : ow env.length = [] := h.oz _ (Nat.le_refl _)
  refine ⟨setOw ow env.length ps, ⟨by simp [h.ln], by have := h.nl; simp; omega, h.fh, h.gh, h.ff, h.nw, h.dm, fun i s' e => ?_, fun i hi => ?_, fun i j p h1 h2 => ?_, fun i => ?_, fun i p h1 => ?_, h.bh, h.bf, fun i p h1 => ?_, fun i s' v hi e hw ev => ?_⟩⟩
  · by_cases hi : i < env.length
    · rw [List.getElem?_append_left hi] at e
      rw [List.getElem?_append_left (by rw [← h.ln]; exact hi), setOw_ne (by omega)]
      exact h.sl i s' e
    · have z : i = env.length := by
        have := (List.getElem?_eq_some_iff.mp e).1
        simp at this; omega
      subst z
      rw [get_snoc] at e; cases e
      rw [setOw_same, h.ln, get_snoc]
      exact q
  · simp at hi; rw [setOw_ne (by omega)]; exact h.oz i (by omega)
  · by_cases z : i = env.length
    · by_cases z2 : j = env.length
      · rw [z, z2]
      · subst z; rw [setOw_same] at h1; rw [setOw_ne z2] at h2; exact absurd h2 (ho p h1 j)
    · by_cases z2 : j = env.length
      · subst z2; rw [setOw_same] at h2; rw [setOw_ne z] at h1; exact absurd h1 (ho p h2 i)
      · rw [setOw_ne z] at h1; rw [setOw_ne z2] at h2; exact h.oi i j p h1 h2
  · by_cases z : i = env.length
    · subst z; rw [setOw_same]; exact nd
    · rw [setOw_ne z]; exact h.on i
  · by_cases z : i = env.length
    · subst z; rw [setOw_same] at h1; obtain ⟨x, y, w⟩ := hf p h1; exact ⟨x, y, fun _ => w⟩
    · rw [setOw_ne z] at h1; exact h.of i p h1
  · by_cases z : i = env.length
    · subst z; rw [setOw_same] at h1; exact hb p h1
    · rw [setOw_ne z] at h1; exact h.ob i p h1
  · by_cases hi' : i < env.length
    · rw [List.getElem?_append_left hi'] at e
      rw [List.getElem?_append_left (by rw [← h.ln]; exact hi')]
      exact h.pr i s' v hi e hw ev
    · exact absurd hi (by have := h.nl; omega)
theorem upd_self {H : Hp} {p : Addr} {u : HO} (e : H p = some u) : upd H p u = H := by
  funext b; unfold upd; split
  · rename_i h; rw [h, e]
  · rfl
theorem set_self {σ : L2.St} {i : Nat} {x : Option V} (hs : σ[i]? = some x) : σ.set i x = σ := by
  apply List.ext_getElem?; intro j
  by_cases z : j = i
  · subst z; rw [List.getElem?_set_self (List.getElem?_eq_some_iff.mp hs).1, hs]
  · rw [List.getElem?_set_ne (Ne.symm z)]
/-- an object that only a name holds, at once standing still -/
theorem R.still {ow : Nat → List Addr} (h : R a env σ F H ow) {i : Nat} {p : Addr} {u : HO} (hp : ow i = [p]) (hn : a.n ≤ i) {d : D} (hi : i < env.length) (q : Rep a.mg (upd F p u) (.ref p) d) (hs : σ[i]? = some (some (.ref p))) :
    RX a (env.set i (.val d)) σ (upd F p u) (upd H p u) := by
  have hm : p ∈ ow i := by rw [hp]; exact List.mem_singleton.mpr rfl
  have hF := h.of i p hm
  have sF : Same F (upd F p u) := Same.upd hF.1
  have h1 : R a (env.set i .none) (σ.set i (some (.ref p))) F H (setOw ow i []) := h.wipe1 hi _
  rw [set_self hs] at h1
  have nopw : ∀ j x, x ∈ setOw ow i [] j → x ≠ p := fun j x hx w => by
    by_cases z : j = i
    · subst z; rw [setOw_same] at hx; simp at hx
    · rw [setOw_ne z] at hx
      exact z (h.oi j i x hx (by rw [w]; exact hm))
  have h2 : R a (env.set i .none) σ (upd F p u) (upd H p u) (setOw ow i []) := by
    refine ⟨h1.ln, h1.nl, fun x o ex => ?_, fun x o ex => ?_, h1.ff.trans sF, fun x o ex => ?_, fun x ex => ?_, fun j s e => ?_, h1.oz, h1.oi, h1.on, fun j x hx => ?_, fun y o hq => ?_, fun y o hq => ?_, h1.ob, h1.pr⟩
    · by_cases z : x = p
      · subst z; rw [upd_same] at ex ⊢; exact ex
      · rw [upd_ne z] at ex ⊢; exact h1.fh x o ex
    · by_cases z : x = p
      · subst z; rw [hF.2.1] at ex; cases ex
      · rw [upd_ne z]; exact h1.gh x o ex
    · by_cases z : x = p
      · subst z; exact .inr (.inl (hF.2.2 hn))
      · rw [upd_ne z] at ex; exact h1.nw x o ex
    · by_cases z : x = p
      · subst z; exact hF.2.2 hn
      · rw [upd_ne z] at ex; exact h1.dm x ex
    · exact (h1.sl j s e).mono sF (Same.refl _) fun x hx => upd_ne (nopw j x hx)
    · rw [upd_ne (nopw j x hx)]; exact h1.of j x hx
    · have z : y ≠ p := by rintro rfl; rw [h.ob i y hm] at hq; cases hq
      rw [upd_ne z]; exact h1.bh y o hq
    · have z : y ≠ p := by rintro rfl; rw [h.ob i y hm] at hq; cases hq
      rw [upd_ne z]; exact h1.bf y o hq
  have h3 := h2.putV (i := i) (d := d) (v := .ref p) (by simp [hi]) q
  rw [set_self hs, List.set_set] at h3
  exact ⟨_, h3⟩
end

/-- what stands still once nothing changes it any more -/
def Sl.data : Sl → Option D
  | .val d => some d
  | .lst xs => some (.lst xs)
  | .dic kvs => some (.dic kvs)
  | .dit kvs => some (.dit kvs)
  | .ins c fs => some (.ins c fs)
  | _ => .none
/-- looked at -/
def Sl.see : Sl → Option D
  | .val d => some d
  | .lst xs => some (.lst xs)
  | .dic kvs => some (.dic kvs)
  | .dit kvs => some (.dit kvs)
  | .ins c fs => some (.ins c fs)
  | .pkl xs => some (.lst xs)
  | .pkd kvs => some (.dic kvs)
  | .pkt kvs => some (.dit kvs)
  | .pki c fs => some (.ins c fs)
  | _ => .none

section
variable {a : Ax} {env : List Sl} {σ : L2.St} {F H : Hp}
/-- P of the heap, a dict's object being locked if need be -/
def Lk (H : Hp) (v : V) (P : Hp → Prop) : Prop := P H ∨ ∃ p u, v = .ref p ∧ H p = some u ∧ Mut (some u) ∧ ∀ od, P (upd H p (.frz od u))
theorem Lk.imp {H : Hp} {v : V} {P P' : Hp → Prop} (h : Lk H v P) (w : ∀ H', P H' → P' H') : Lk H v P' := by
  rcases h with h | ⟨p, u, h1, h2, h3, h4⟩
  · exact .inl (w _ h)
  · exact .inr ⟨p, u, h1, h2, h3, fun od => w _ (h4 od)⟩
/-- slot i stands still from now on -/
theorem RX.still (h : RX a env σ F H) {i : Nat} {s : Sl} {d : D} (hn : a.n ≤ i ∨ s.own = false) (e : env[i]? = some s) (hd : s.data = some d) :
    ∃ v, σ[i]? = some (some v) ∧ Lk H v fun H' => ∃ F', Same F F' ∧ RX a (env.set i (.val d)) σ F' H' ∧ Rep a.mg F' v d := by
  obtain ⟨ow, h⟩ := h
  have hi : i < env.length := (List.getElem?_eq_some_iff.mp e).1
  obtain ⟨o, ho, q⟩ := h.at e
  have own : ∀ {p : Addr} (u : HO), a.n ≤ i → o = some (.ref p) → ow i = [p] → Rep a.mg (upd F p u) (.ref p) d →
      ∃ F', Same F F' ∧ RX a (env.set i (.val d)) σ F' (upd H p u) ∧ Rep a.mg F' (.ref p) d := fun {p} u hn e1 e2 e4 => by
    subst e1
    have hF := h.of i p (by rw [e2]; exact List.mem_singleton.mpr rfl)
    exact ⟨upd F p u, Same.upd hF.1, h.still e2 hn hi e4 ho, e4⟩
  cases s with
  | val d' =>
    cases hd
    obtain ⟨_, v, e1, r⟩ := q
    subst e1
    refine ⟨v, ho, .inl ⟨F, Same.refl F, ⟨setOw ow i [], ?_⟩, r⟩⟩
    have h3 := h.putV (i := i) hi r
    rw [set_self ho] at h3
    exact h3
  | lst xs =>
    cases hd
    obtain ⟨p, vs, e1, e2, e3, r⟩ := q
    have hF := h.of i p (by rw [e2]; exact List.mem_singleton.mpr rfl)
    have z := own (.lst vs) (hn.resolve_right (by simp [Sl.own])) e1 e2 (.lst upd_same (r.mono (Same.upd hF.1)))
    rw [upd_self e3] at z
    exact ⟨.ref p, by rw [ho, e1], .inl z⟩
  | dic xs =>
    cases hd
    obtain ⟨p, vs, e1, e2, e3, r⟩ := q
    have hF := h.of i p (by rw [e2]; exact List.mem_singleton.mpr rfl)
    exact ⟨.ref p, by rw [ho, e1], .inr ⟨p, _, rfl, e3, trivial, fun od => own (.frz od (.dK vs)) (hn.resolve_right (by simp [Sl.own])) e1 e2 (.dic upd_same (r.mono (Same.upd hF.1)))⟩⟩
  | dit xs =>
    cases hd
    obtain ⟨p, vs, e1, e2, e3, r⟩ := q
    have hF := h.of i p (by rw [e2]; exact List.mem_singleton.mpr rfl)
    exact ⟨.ref p, by rw [ho, e1], .inr ⟨p, _, rfl, e3, trivial, fun od => own (.frz od (.dT vs)) (hn.resolve_right (by simp [Sl.own])) e1 e2 (.dit upd_same (r.mono (Same.upd hF.1)))⟩⟩
  | ins c fs =>
    cases hd
    obtain ⟨p, C, dx, vs, e1, e2, hm, e3, r⟩ := q
    have hF := h.of i p (by rw [e2]; exact List.mem_singleton.mpr rfl)
    have z := own (.ins C dx vs) (hn.resolve_right (by simp [Sl.own])) e1 e2 (.ins hm upd_same (r.mono (Same.upd hF.1)))
    rw [upd_self e3] at z
    exact ⟨.ref p, by rw [ho, e1], .inl z⟩
  | none => cases hd
  | stm s => cases hd
  | pkl s => cases hd
  | pkd s => cases hd
  | pkt s => cases hd
  | pki s => cases hd
  | scr s => cases hd
theorem RX.see (h : RX a env σ F H) {i : Nat} {s : Sl} {d : D} (e : env[i]? = some s) (hd : s.see = some d) : ∃ v, σ[i]? = some (some v) ∧ Vw a.mg F H v d := by
  obtain ⟨ow, h⟩ := h
  obtain ⟨o, ho, q⟩ := h.at e
  cases s with
  | val d' =>
    cases hd
    obtain ⟨_, v, e1, r⟩ := q
    subst e1
    exact ⟨v, ho, .rep r⟩
  | lst xs => cases hd; obtain ⟨p, vs, e1, e2, e3, r⟩ := q; subst e1; exact ⟨_, ho, .lst e3 r⟩
  | dic xs => cases hd; obtain ⟨p, vs, e1, e2, e3, r⟩ := q; subst e1; exact ⟨_, ho, .dic e3 r⟩
  | dit xs => cases hd; obtain ⟨p, vs, e1, e2, e3, r⟩ := q; subst e1; exact ⟨_, ho, .dit e3 r⟩
  | ins c fs => cases hd; obtain ⟨p, C, dx, vs, e1, e2, hm, e3, r⟩ := q; subst e1; exact ⟨_, ho, .ins hm e3 r⟩
  | pkl xs => cases hd; obtain ⟨e2, p, vs, e1, e3, r⟩ := q; subst e1; exact ⟨_, ho, .lst (h.gh _ _ e3) r⟩
  | pkd xs => cases hd; obtain ⟨e2, p, vs, e1, e3, r⟩ := q; subst e1; exact ⟨_, ho, .dic (h.gh _ _ e3) r⟩
  | pkt xs => cases hd; obtain ⟨e2, p, vs, e1, e3, r⟩ := q; subst e1; exact ⟨_, ho, .dit (h.gh _ _ e3) r⟩
  | pki c fs => cases hd; obtain ⟨e2, p, C, dx, vs, e1, hm, e3, r⟩ := q; subst e1; exact ⟨_, ho, .ins hm (h.gh _ _ e3) r⟩
  | none => cases hd
  | stm s => cases hd
  | scr s => cases hd
end

section
variable {X : Cx}
/-- a value whose dict is locked from now on -/
theorem _root_.L2.PE.lk {e : Expr} {t : TE} (h : PE X e t) : PE X e (fun σ H Q => t σ H fun v H1 => Lk H1 v (Q v)) := ⟨fun pins s σ H Q I q =>
  thn (h.run pins s σ H _ I q) fun u s1 ⟨v, H1, I1, r1, q1⟩ => by
    rcases q1 with q1 | ⟨p, o, h1, h2, h3, h4⟩
    · exact ⟨v, H1, I1, r1, q1⟩
    · obtain ⟨od, I2⟩ := I1.lock h2 h3
      exact ⟨v, _, I2, r1, h4 od⟩⟩
/-- what is made new, standing still at once -/
def mFz (m : Mr Sl) : Mr D := fun env => (m env).bind fun r => (r.1.data).bind fun d => some (d, r.2)
theorem SF.e {n : Nat} {e : Expr} {m : Mr Sl} (h : SF X n e m) : SE X n e (mFz m) := ⟨fun a ha hn => (h.run a ha hn).lk.w fun σ H Q ⟨env, F, d, env', r, hm, q⟩ => by
  unfold mFz at hm
  cases q1 : m env with
  | none => rw [q1] at hm; cases hm
  | some z =>
    obtain ⟨s, env2⟩ := z
    rw [q1] at hm
    cases q2 : s.data with
    | none => simp [q2] at hm
    | some d2 =>
      simp [q2] at hm
      obtain ⟨rfl, rfl⟩ := hm
      refine ⟨env, F, s, env2, r, q1, fun v F' H' sf hn r' => ?_⟩
      have hl : env2.length = σ.length := by obtain ⟨ow, r'⟩ := r'; have := r'.ln; simpa using this
      obtain ⟨v', hv, lk⟩ := r'.still (i := env2.length) (.inl hn) get_snoc q2
      rw [hl, get_snoc] at hv
      cases hv
      refine lk.imp fun H2 ⟨F2, s2, r2, rp⟩ => q v F2 H2 (sf.trans s2) ?_ rp
      refine RX.init (r := .val d2) (o := some v) ?_ hn
      have : (env2 ++ [s]).set env2.length (.val d2) = env2 ++ [.val d2] := by simp
      rw [this] at r2
      exact r2⟩
def mVal (m : Mr D) : Mr Sl := fun env => (m env).bind fun r => some (.val r.1, r.2)
theorem SE.f {n : Nat} {e : Expr} {m : Mr D} (h : SE X n e m) : SF X n e (mVal m) := ⟨fun a ha hn => (h.run a ha hn).w fun σ H Q ⟨env, F, d, env', r, hm, q⟩ => by
  unfold mVal at hm
  cases q1 : m env with
  | none => rw [q1] at hm; cases hm
  | some z =>
    rw [q1] at hm
    cases hm
    exact ⟨env, F, z.1, z.2, r, q1, fun v F' H' sf r' rp => q v F' H' sf (by obtain ⟨ow, r'⟩ := r'; exact r'.nl) (r'.snocV rp)⟩⟩
end
end HU
set_option maxRecDepth 100000
namespace HU
open PySem PySem.Spec L2

/-! ### results that are new -/
def NewR (mg : Str → Option Value) (F H : Hp) (s : Sl) (v : V) (H' : Hp) : Prop := match s with
  | .val d => (H' = H ∧ Rep mg F v d) ∨ (∃ p vs xs, d = .tup xs ∧ v = .ref p ∧ H p = none ∧ H' = upd H p (.tup vs) ∧ RepL mg F vs xs)
  | .lst xs => ∃ p vs, v = .ref p ∧ H p = none ∧ H' = upd H p (.lst vs) ∧ RepL mg F vs xs
  | .dic kvs => ∃ p ws, v = .ref p ∧ H p = none ∧ H' = upd H p (.dK ws) ∧ RepA mg F ws kvs
  | .dit kvs => ∃ p ws, v = .ref p ∧ H p = none ∧ H' = upd H p (.dT ws) ∧ RepA mg F ws kvs
  | _ => False
theorem RX.new {a : Ax} {env : List Sl} {σ : L2.St} {F H H' : Hp} {s : Sl} {v : V} (r : RX a env σ F H) (nr : NewR a.mg F H s v H') : ∃ F', Same F F' ∧ RX a (env ++ [s]) (σ ++ [some v]) F' H' := by
  have one : ∀ {p : Addr} {u : HO}, H p = none → v = .ref p → H' = upd H p u → SlR a.mg a.G F (upd H p u) s (some (.ref p)) [p] → ∃ F', Same F F' ∧ RX a (env ++ [s]) (σ ++ [some v]) F' H' := fun {p u} hp e1 e2 q => by
    subst e1 e2
    obtain ⟨ow, r⟩ := r
    obtain ⟨f1, f2, f3, f4⟩ := r.fresh hp
    refine ⟨F, Same.refl F, R.snoc (ps := [p]) (r.grow (Same.upd hp)) q (by simp) (fun x hx => ?_) (fun x hx j hj => ?_) (fun x hx => ?_)⟩
    · rw [List.mem_singleton.mp hx]; exact ⟨f1, f2, f3⟩
    · rw [List.mem_singleton.mp hx] at hj
      exact f4 j hj
    · rw [List.mem_singleton.mp hx]
      cases e : a.bar p with
      | none => rfl
      | some o => have := r.bh p o e; rw [hp] at this; cases this
  cases s with
  | val d =>
    rcases nr with ⟨e, q⟩ | ⟨p, vs, xs, rfl, rfl, hp, rfl, q⟩
    · subst e; exact ⟨F, Same.refl F, r.snocV q⟩
    · obtain ⟨ow, r⟩ := r
      have hF := (r.fresh hp).1
      exact ⟨upd F p (.tup vs), Same.upd hF, RX.snocV ⟨ow, r.frz hp⟩ (.tup upd_same (q.mono (Same.upd hF)))⟩
  | lst xs => obtain ⟨p, vs, h1, h2, h3, h4⟩ := nr; exact one h2 h1 h3 ⟨p, vs, rfl, rfl, upd_same, h4⟩
  | dic xs => obtain ⟨p, vs, h1, h2, h3, h4⟩ := nr; exact one h2 h1 h3 ⟨p, vs, rfl, rfl, upd_same, h4⟩
  | dit xs => obtain ⟨p, vs, h1, h2, h3, h4⟩ := nr; exact one h2 h1 h3 ⟨p, vs, rfl, rfl, upd_same, h4⟩
  | none => cases nr
  | ins c fs => cases nr
  | stm s => cases nr
  | pkl s => cases nr
  | pkd s => cases nr
  | pkt s => cases nr
  | pki c s => cases nr
  | scr s => cases nr

section
variable {X : Cx} {n : Nat}

/-! ### names, constants -/
def mNm (i : Nat) : Mr D := fun env => match env[i]? with
  | some (.val d) => some (d, env)
  | _ => none
theorem se_nm (i : Nat) {x : Str} {pos : Pos} (h : PE X (.Name x pos) (tVar i)) : SE X n (.Name x pos) (mNm i) := ⟨fun a ha hn => h.w fun σ H Q ⟨env, F, d, env', r, hm, q⟩ => by
  unfold mNm at hm
  split at hm
  · rename_i d' e
    cases hm
    obtain ⟨ow, r⟩ := r
    obtain ⟨v, h1, h2⟩ := r.val e
    exact ⟨v, h1, q v F H (Same.refl F) ⟨ow, r⟩ h2⟩
  · cases hm⟩
/-- a name whose object stands still from now on -/
def mNz (n i : Nat) : Mr D := fun env => (env[i]?).bind fun s => if n ≤ i ∨ s.own = false then s.data.bind fun d => some (d, env.set i (.val d)) else none
theorem se_nz (i : Nat) {x : Str} {pos : Pos} (h : PE X (.Name x pos) (tVar i)) : SE X n (.Name x pos) (mNz n i) := ⟨fun a ha hn => h.lk.w fun σ H Q ⟨env, F, d, env', r, hm, q⟩ => by
  unfold mNz at hm
  cases e : env[i]? with
  | none => rw [e] at hm; cases hm
  | some s =>
    rw [e] at hm
    simp only [Option.bind_some] at hm
    split at hm
    · rename_i hc
      cases e2 : s.data with
      | none => rw [e2] at hm; cases hm
      | some d2 =>
        rw [e2] at hm
        cases hm
        rw [← hn] at hc
        obtain ⟨v, h1, lk⟩ := r.still hc e e2
        exact ⟨v, h1, lk.imp fun H' ⟨F', s2, r2, rp⟩ => q v F' H' s2 r2 rp⟩
    · cases hm⟩
/-- a name looked at -/
def pN (i : Nat) : Mr Unit := fun env => ((env[i]?).bind Sl.see).bind fun _ => some ((), env)
def vN (i : Nat) : Unit → List Sl → Option D := fun _ env => (env[i]?).bind Sl.see
theorem see_at {a : Ax} {env : List Sl} {σ : L2.St} {F H : Hp} {i : Nat} {d : D} (r : RX a env σ F H) (e : (env[i]?).bind Sl.see = some d) : ∃ v, σ[i]? = some (some v) ∧ Vw a.mg F H v d := by
  cases e1 : env[i]? with
  | none => rw [e1] at e; cases e
  | some s => rw [e1] at e; exact r.see e1 e
theorem sv_nm (i : Nat) {x : Str} {pos : Pos} (h : PE X (.Name x pos) (tVar i)) : SV X n (.Name x pos) (pN i) (vN i) := ⟨fun a ha hn => h.w fun σ H Q ⟨env, F, t, env', r, hm, q⟩ => by
  unfold pN at hm
  cases e : (env[i]?).bind Sl.see with
  | none => rw [e] at hm; cases hm
  | some d =>
    rw [e] at hm
    cases hm
    obtain ⟨v, h1, h2⟩ := see_at r e
    refine ⟨v, h1, q v F H (Same.refl F) r fun env2 F2 H2 d2 s2 r2 e2 => ?_⟩
    obtain ⟨v', h1', h2'⟩ := see_at r2 e2
    rw [h1] at h1'
    cases h1'
    exact h2'⟩
/-- an own object handed on: the name holds nothing any more -/
def mMv (n i : Nat) : Mr Sl := fun env => (env[i]?).bind fun s => if n ≤ i ∧ s.own = true then some (s, env.set i .none) else none
theorem sf_mv (i : Nat) {x : Str} {pos : Pos} (h : PE X (.Name x pos) (tVar i)) : SF X n (.Name x pos) (mMv n i) := ⟨fun a ha hn => h.w fun σ H Q ⟨env, F, s, env', r, hm, q⟩ => by
  unfold mMv at hm
  cases e : env[i]? with
  | none => rw [e] at hm; cases hm
  | some s0 =>
    rw [e] at hm
    simp only [Option.bind_some] at hm
    split at hm
    · rename_i hc
      cases hm
      obtain ⟨ow, r⟩ := r
      obtain ⟨o, ho, sr⟩ := r.at e
      have hi : i < env.length := (List.getElem?_eq_some_iff.mp e).1
      have hv : ∃ v, o = some v := by
        cases s <;> first | exact (Bool.false_ne_true hc.2).elim | skip
        · obtain ⟨p, _, e1, _⟩ := sr; exact ⟨_, e1⟩
        · obtain ⟨p, _, e1, _⟩ := sr; exact ⟨_, e1⟩
        · obtain ⟨p, _, e1, _⟩ := sr; exact ⟨_, e1⟩
        · obtain ⟨p, _, _, _, e1, _⟩ := sr; exact ⟨_, e1⟩
        · obtain ⟨p, e1, _⟩ := sr; exact ⟨_, e1⟩
      obtain ⟨v, rfl⟩ := hv
      have r1 := r.wipe1 (i := i) hi (some v)
      rw [set_self ho] at r1
      refine ⟨v, ho, q v F H (Same.refl F) (by simp [r.nl]) (R.snoc r1 sr (r.on i) (fun p hp => ?_) (fun p hp j hj => ?_) fun p hp => r.ob i p hp)⟩
      · obtain ⟨x, y, w⟩ := r.of i p hp; exact ⟨x, y, w (by rw [hn]; exact hc.1)⟩
      · by_cases z : j = i
        · subst z; rw [setOw_same] at hj; simp at hj
        · rw [setOw_ne z] at hj; exact z (r.oi j i p hj hp)
    · cases hm⟩
theorem se_int {i j pos} : SE X n (.Constant (.int i) j pos) (mRet (.int i)) := ⟨fun a ha hn => pe_int.w fun σ H Q ⟨env, F, d, env', r, hm, q⟩ => by cases hm; exact q _ F H (Same.refl F) r (.int i)⟩
theorem se_bl {i j pos} : SE X n (.Constant (.bool i) j pos) (mRet (.bl i)) := ⟨fun a ha hn => pe_bl.w fun σ H Q ⟨env, F, d, env', r, hm, q⟩ => by cases hm; exact q _ F H (Same.refl F) r (.bl i)⟩
theorem se_non {j pos} : SE X n (.Constant .none j pos) (mRet .non) := ⟨fun a ha hn => pe_non.w fun σ H Q ⟨env, F, d, env', r, hm, q⟩ => by cases hm; exact q _ F H (Same.refl F) r .non⟩
theorem se_str {i j pos} : SE X n (.Constant (.str i) j pos) (mRet (.str i)) := ⟨fun a ha hn => pe_str.w fun σ H Q ⟨env, F, d, env', r, hm, q⟩ => by cases hm; exact q _ F H (Same.refl F) r (.str i)⟩
/-- a constant of the module -/
theorem se_globS {x : Str} {z : Str} {u : Value} {pos : Pos} (hm : X.mg x = some u) (r : RelV (.str z) u) (hg : Gl X x := by rfl) (hd : (x == ("__debug__" : Str)) = false := by decide) : SE X n (.Name x pos) (mRet (.str z)) :=
  ⟨fun a ha hn => (pe_glob hg hm r hd).w fun σ H Q ⟨env, F, d, env', r, hm, q⟩ => by cases hm; exact q _ F H (Same.refl F) r (.str z)⟩

/-! ### argument lists -/
def mNil : Mr (List D) := mRet []
def mCons (m : Mr D) (r : Mr (List D)) : Mr (List D) := mBnd m fun d => mBnd r fun ds => mRet (d :: ds)
theorem sa_nil : SA X n [] mNil := ⟨fun a ha hn => pa_nil.w fun σ H Q ⟨env, F, d, env', r, hm, q⟩ => by cases hm; exact q [] F H (Same.refl F) r .nil⟩
theorem sa_cons {e : Expr} {es : List Expr} {m : Mr D} {ms : Mr (List D)} (h : SE X n e m) (hs : SA X n es ms) (he : starEach (e :: es) X.env = (false, eval e X.env) :: starEach es X.env := by rfl) : SA X n (e :: es) (mCons m ms) := ⟨fun a ha hn =>
  (pa_cons (h.run a ha hn) (hs.run a ha hn) he).w fun σ H Q ⟨env, F, d, env', r, hm, q⟩ => by
  obtain ⟨d1, e1, h1, hm⟩ := mBnd_some hm
  obtain ⟨ds, e2, h2, hm⟩ := mBnd_some hm
  cases hm
  exact ⟨env, F, d1, e1, r, h1, fun v F1 H1 s1 r1 rp => ⟨e1, F1, _, _, r1, h2, fun vs F2 H2 s2 r2 rps => q (v :: vs) F2 H2 (s1.trans s2) r2 (.cons (rp.mono s2) rps)⟩⟩⟩

/-! ### operators of two places: over what is looked at -/
abbrev NewOp (mg : Str → Option Value) (r : R2) (g : D → D → Option Sl) : Prop := ∀ (F H : Hp) (x y : V) (dx dy : D) (s : Sl) (Q : VK), Same F H → Vw mg F H x dx → Vw mg F H y dy → g dx dy = some s → (∀ v H', NewR mg F H s v H' → Q v H') → r x y H Q
/-- a flat answer -/
abbrev FlatOp (mg : Str → Option Value) (r : R2) (g : D → D → Option D) : Prop := ∀ (F H : Hp) (x y : V) (dx dy : D) (d : D) (Q : VK), Same F H → Vw mg F H x dx → Vw mg F H y dy → g dx dy = some d → (∀ v, (∀ F', Rep mg F' v d) → Q v H) → r x y H Q
def mOp2 {τ υ α : Type} (g : D → D → Option α) (pa : Mr τ) (qa : τ → List Sl → Option D) (pb : Mr υ) (qb : υ → List Sl → Option D) : Mr α := fun env =>
  (pa env).bind fun t => (pb t.2).bind fun u => (qa t.1 u.2).bind fun x => (qb u.1 u.2).bind fun y => (g x y).bind fun z => some (z, u.2)
theorem mOp2_some {τ υ α : Type} {g : D → D → Option α} {pa : Mr τ} {qa : τ → List Sl → Option D} {pb : Mr υ} {qb : υ → List Sl → Option D} {env e2 : List Sl} {z : α} (h : mOp2 g pa qa pb qb env = some (z, e2)) :
    ∃ t e1 u x y, pa env = some (t, e1) ∧ pb e1 = some (u, e2) ∧ qa t e2 = some x ∧ qb u e2 = some y ∧ g x y = some z := by
  unfold mOp2 at h
  cases h1 : pa env with
  | none => rw [h1] at h; cases h
  | some t =>
    obtain ⟨t, e1⟩ := t
    rw [h1] at h
    cases h2 : pb e1 with
    | none => simp [h2] at h
    | some u =>
      obtain ⟨u, e3⟩ := u
      simp only [Option.bind_some, h2] at h
      cases h3 : qa t e3 with
      | none => simp [h3] at h
      | some x =>
        simp only [Option.bind_some, h3] at h
        cases h4 : qb u e3 with
        | none => simp [h4] at h
        | some y =>
          simp only [Option.bind_some, h4] at h
          cases h5 : g x y with
          | none => simp [h5] at h
          | some z' => simp [h5] at h; obtain ⟨rfl, rfl⟩ := h; exact ⟨t, e1, u, x, y, rfl, h2, h3, h4, h5⟩
section
variable {a : Ax} {r : R2} {τ υ : Type} {pa : Mr τ} {qa : τ → List Sl → Option D} {pb : Mr υ} {qb : υ → List Sl → Option D} {σ : L2.St} {H : Hp} {Q : VK}
theorem rd_op2 {α : Type} {g : D → D → Option α} {P : α → (Nat → Nat) → Prop} {env e2 : List Sl} {F : Hp} {z : α} (R0 : RX a env σ F H) (hm : mOp2 g pa qa pb qb env = some (z, e2))
    (h : ∀ x y dx dy F2 H2, Same F F2 → RX a e2 σ F2 H2 → Vw a.mg F2 H2 x dx → Vw a.mg F2 H2 y dy → g dx dy = some z → r x y H2 Q) : tOp r (rdV a pa qa) (rdV a pb qb) σ H Q := by
  obtain ⟨t, e1, u, dx, dy, h1, h2, h3, h4, h5⟩ := mOp2_some hm
  refine ⟨env, F, t, e1, R0, h1, fun x F1 H1 s1 R1 vx => ⟨e1, F1, u, e2, R1, h2, fun y F2 H2 s2 R2 vy => ?_⟩⟩
  exact h x y dx dy F2 H2 (s1.trans s2) R2 (vx e2 F2 H2 dx s2 R2 h3) (vy e2 F2 H2 dy (Same.refl F2) R2 h4) h5
theorem rd_flat {g : D → D → Option D} (fl : FlatOp a.mg r g) : rdE a (mOp2 g pa qa pb qb) σ H Q → tOp r (rdV a pa qa) (rdV a pb qb) σ H Q := fun ⟨env, F, d, env', R0, hm, q⟩ =>
  rd_op2 (P := fun _ _ => True) R0 hm fun x y dx dy F2 H2 s2 R2 vx vy e => fl F2 H2 x y dx dy d Q (by obtain ⟨_, R2⟩ := R2; exact R2.fh) vx vy e fun v hv => q v F2 H2 s2 R2 (hv F2)
theorem rd_new {g : D → D → Option Sl} (fl : NewOp a.mg r g) : rdF a (mOp2 g pa qa pb qb) σ H Q → tOp r (rdV a pa qa) (rdV a pb qb) σ H Q := fun ⟨env, F, s, env', R0, hm, q⟩ =>
  rd_op2 (P := fun _ _ => True) R0 hm fun x y dx dy F2 H2 s2 R2 vx vy e => fl F2 H2 x y dx dy s Q (by obtain ⟨_, R2⟩ := R2; exact R2.fh) vx vy e fun v H' nr => by
    obtain ⟨F3, s3, R3⟩ := R2.new nr
    exact q v F3 H' (s2.trans s3) (by obtain ⟨_, R2⟩ := R2; exact R2.nl) R3
end
section
variable {e1 e2 : Expr} {pos : Pos} {τ υ : Type} {pa : Mr τ} {qa : τ → List Sl → Option D} {pb : Mr υ} {qb : υ → List Sl → Option D} {r : R2}
theorem se_bin {op : Operator} {g : D → D → Option D} (ho : OpR X (binaryOp op) r) (fl : FlatOp X.mg r g) (h1 : SV X n e1 pa qa) (h2 : SV X n e2 pb qb) : SE X n (.BinOp e1 op e2 pos) (mOp2 g pa qa pb qb) :=
  ⟨fun a ha hn => (pe_op ho (h1.run a ha hn) (h2.run a ha hn)).w fun σ H Q q => rd_flat (by rw [ha]; exact fl) q⟩
theorem sf_bin {op : Operator} {g : D → D → Option Sl} (ho : OpR X (binaryOp op) r) (fl : NewOp X.mg r g) (h1 : SV X n e1 pa qa) (h2 : SV X n e2 pb qb) : SF X n (.BinOp e1 op e2 pos) (mOp2 g pa qa pb qb) :=
  ⟨fun a ha hn => (pe_op ho (h1.run a ha hn) (h2.run a ha hn)).w fun σ H Q q => rd_new (by rw [ha]; exact fl) q⟩
theorem se_cmp {op : CmpOp} {g : D → D → Option D} (ho : OpR X (compareOp op) r) (fl : FlatOp X.mg r g) (h1 : SV X n e1 pa qa) (h2 : SV X n e2 pb qb) (hb : behindInMarks op e2 = false) : SE X n (.Compare e1 [op] [e2] pos) (mOp2 g pa qa pb qb) :=
  ⟨fun a ha hn => (pe_cmpR ho (h1.run a ha hn) (h2.run a ha hn) hb).w fun σ H Q q => rd_flat (by rw [ha]; exact fl) q⟩
theorem se_ix {g : D → D → Option D} (ho : IxR X r) (fl : ∀ (F H : Hp) (x y : V) (dx dy : D) (d : D) (Q : VK), Same F H → Vw X.mg F H x dx → Vw X.mg F H y dy → g dx dy = some d → (∀ v, Rep X.mg F v d → Q v H) → r x y H Q)
    (h1 : SV X n e1 pa qa) (h2 : SV X n e2 pb qb) (hs : PlainIx e2) : SE X n (.Subscript e1 e2 pos) (mOp2 g pa qa pb qb) :=
  ⟨fun a ha hn => (pe_ix ho (h1.run a ha hn) (h2.run a ha hn) hs).w fun σ H Q ⟨env, F, d, env', R0, hm, q⟩ =>
    rd_op2 (P := fun _ _ => True) R0 hm fun x y dx dy F2 H2 s2 R2 vx vy e => fl F2 H2 x y dx dy d Q (by obtain ⟨_, R2⟩ := R2; exact R2.fh) (ha ▸ vx) (ha ▸ vy) e fun v hv => q v F2 H2 s2 R2 (by rw [ha]; exact hv)⟩
end
end
end HU
set_option maxRecDepth 100000
namespace HU
open PySem PySem.Spec L2

section
variable {mg : Str → Option Value} {F H : Hp} {v : V}
theorem vw_int {i : Int} (h : Vw mg F H v (.int i)) : v = .int i := by cases h with | rep r => cases r; rfl
theorem vw_bl {i : Bool} (h : Vw mg F H v (.bl i)) : v = .bl i := by cases h with | rep r => cases r; rfl
theorem vw_str {i : Str} (h : Vw mg F H v (.str i)) : v = .str i := by cases h with | rep r => cases r; rfl
theorem vw_non (h : Vw mg F H v .non) : v = .non := by cases h with | rep r => cases r; rfl
theorem vw_lst {xs : List D} (s : Same F H) (h : Vw mg F H v (.lst xs)) : ∃ p vs, v = .ref p ∧ H p = some (.lst vs) ∧ RepL mg F vs xs := by
  cases h with
  | rep r => cases r with | lst e q => exact ⟨_, _, rfl, s _ _ e, q⟩
  | lst e q => exact ⟨_, _, rfl, e, q⟩
theorem vw_tup {xs : List D} (s : Same F H) (h : Vw mg F H v (.tup xs)) : ∃ p vs, v = .ref p ∧ H p = some (.tup vs) ∧ RepL mg F vs xs := by
  cases h with
  | rep r => cases r with | tup e q => exact ⟨_, _, rfl, s _ _ e, q⟩
theorem vw_dic {xs : List (Key × D)} (s : Same F H) (h : Vw mg F H v (.dic xs)) : ∃ p ws, v = .ref p ∧ Rd H p (.dK ws) ∧ RepA mg F ws xs := by
  cases h with
  | rep r => cases r with | dic e q => exact ⟨_, _, rfl, .inr ⟨_, s _ _ e⟩, q⟩
  | dic e q => exact ⟨_, _, rfl, .inl e, q⟩
theorem vw_dit {xs : List (List Key × D)} (s : Same F H) (h : Vw mg F H v (.dit xs)) : ∃ p ws, v = .ref p ∧ Rd H p (.dT ws) ∧ RepA mg F ws xs := by
  cases h with
  | rep r => cases r with | dit e q => exact ⟨_, _, rfl, .inr ⟨_, s _ _ e⟩, q⟩
  | dit e q => exact ⟨_, _, rfl, .inl e, q⟩
theorem vw_ins {c : Str} {xs : List (Str × D)} (s : Same F H) (h : Vw mg F H v (.ins c xs)) : ∃ p C dx ws, v = .ref p ∧ mg c = some (.ref C) ∧ H p = some (.ins C dx ws) ∧ RepA mg F ws xs := by
  cases h with
  | rep r => cases r with | ins m e q => exact ⟨_, _, _, _, rfl, m, s _ _ e, q⟩
  | ins m e q => exact ⟨_, _, _, _, rfl, m, e, q⟩
end

/-! ### ints -/
def iI (C : Int → Int → Bool) (g : Int → Int → D) : D → D → Option D
  | .int i, .int j => if C i j = true then some (g i j) else none
  | _, _ => none
theorem iI_some {C : Int → Int → Bool} {g : Int → Int → D} {x y d : D} (h : iI C g x y = some d) : ∃ i j, x = .int i ∧ y = .int j ∧ C i j = true ∧ d = g i j := by
  unfold iI at h
  split at h
  · split at h
    · cases h; exact ⟨_, _, rfl, rfl, ‹_›, rfl⟩
    · cases h
  · cases h
/-- an int or a bool of two ints -/
def fV : D → V
  | .int i => .int i
  | .bl b => .bl b
  | .str x => .str x
  | _ => .non
def flat : D → Bool
  | .non | .int _ | .bl _ | .str _ => true
  | _ => false
theorem rep_flat {mg : Str → Option Value} {F : Hp} : ∀ {d : D}, flat d = true → Rep mg F (fV d) d
  | .non, _ => .non
  | .int _, _ => .int _
  | .bl _, _ => .bl _
  | .str _, _ => .str _
theorem rep_flat_eq {mg : Str → Option Value} {F : Hp} {v : V} {d : D} (r : Rep mg F v d) (h : flat d = true) : v = fV d := by
  cases r <;> first | rfl | cases h
theorem vw_flat {mg : Str → Option Value} {F H : Hp} {v : V} {d : D} (r : Vw mg F H v d) (h : flat d = true) : v = fV d := by
  cases r with
  | rep r => exact rep_flat_eq r h
  | _ => cases h
theorem fl_I {mg : Str → Option Value} {C : Int → Int → Prop} {Cb : Int → Int → Bool} {f : Int → Int → V} {g : Int → Int → D} (hC : ∀ i j, Cb i j = true → C i j) (hf : ∀ i j, f i j = fV (g i j)) (hg : ∀ i j, flat (g i j) = true) :
    FlatOp mg (rI C f) (iI Cb g) := fun F H x y dx dy d Q sm vx vy e k => by
  obtain ⟨i, j, rfl, rfl, c, rfl⟩ := iI_some e
  refine ⟨i, j, vw_int vx, vw_int vy, hC i j c, ?_⟩
  rw [hf]
  exact k _ fun F' => rep_flat (hg i j)
theorem fl_I0 {mg : Str → Option Value} {f : Int → Int → V} {g : Int → Int → D} (hf : ∀ i j, f i j = fV (g i j)) (hg : ∀ i j, flat (g i j) = true) :
    FlatOp mg (rI0 f) (iI (fun _ _ => true) g) := fun F H x y dx dy d Q sm vx vy e k => by
  obtain ⟨i, j, rfl, rfl, c, rfl⟩ := iI_some e
  refine ⟨i, j, vw_int vx, vw_int vy, ?_⟩
  rw [hf]
  exact k _ fun F' => rep_flat (hg i j)
def subD : D → D → Option D := iI (fun _ _ => true) fun i j => .int (i - j)
def fdivD : D → D → Option D := iI (fun _ j => decide (j ≠ 0 ∧ j.natAbs < 1073741824)) fun i j => .int (i.fdiv j)
def modD : D → D → Option D := iI (fun _ j => decide (j ≠ 0)) fun i j => .int (i.fmod j)
def powD : D → D → Option D := iI (fun i j => decide (0 ≤ j ∧ j ≤ 1000000 ∧ i.natAbs < 2 ^ 64)) fun i j => .int (i ^ j.toNat)
theorem fl_sub {mg} : FlatOp mg (rI0 fun i j => .int (i - j)) subD := fl_I0 (fun _ _ => rfl) fun _ _ => rfl
theorem fl_fdiv {mg} : FlatOp mg (rI CDivN fun i j => .int (i.fdiv j)) fdivD := fl_I (fun i j h => show j ≠ 0 ∧ j.natAbs < 1073741824 from of_decide_eq_true h) (fun _ _ => rfl) fun _ _ => rfl
theorem fl_mod {mg} : FlatOp mg (rI (fun _ j => j ≠ 0) fun i j => .int (i.fmod j)) modD := fl_I (fun _ _ h => of_decide_eq_true h) (fun _ _ => rfl) fun _ _ => rfl
theorem fl_pow {mg} : FlatOp mg (rI CPow fun i j => .int (i ^ j.toNat)) powD := fl_I (fun i j h => show 0 ≤ j ∧ j ≤ 1000000 ∧ i.natAbs < 2 ^ 64 from of_decide_eq_true h) (fun _ _ => rfl) fun _ _ => rfl

theorem w_log {j : Int} {k : Nat} (h : j.natAbs.log2 < k) : -(2 ^ k : Int) ≤ j ∧ j < 2 ^ k := by
  have h1 : j.natAbs < 2 ^ k := by
    by_cases z : j.natAbs = 0
    · rw [z]; exact Nat.two_pow_pos k
    · exact (Nat.log2_lt z).mp h
  have h2 : ((2 ^ k : Nat) : Int) = (2 : Int) ^ k := by simp
  generalize hB : (2 : Int) ^ k = B at h2 ⊢
  generalize (2 : Nat) ^ k = C at h1 h2
  constructor <;> omega
/-! ### + and * -/
def addD : D → D → Option Sl
  | .int i, .int j => some (.val (.int (i + j)))
  | .str x, .str y => if x.length + y.length ≤ sizeLine then some (.val (.str (x ++ y))) else none
  | .lst xs, .lst ys => if xs.length + ys.length ≤ sizeLine then some (.lst (xs ++ ys)) else none
  | _, _ => none
def rAddA : R2 := fun x y H Q => (rI0 (fun i j => .int (i + j)) x y H Q) ∨ (∃ i j, x = .str i ∧ y = .str j ∧ i.length + j.length ≤ sizeLine ∧ Q (.str (i ++ j)) H) ∨ rCat x y H Q
theorem op_addA {X : Cx} : OpR X (binaryOp .Add) rAddA := op_add.or (op_add_str.or op_cat)
theorem fl_add {mg} : NewOp mg rAddA addD := fun F H x y dx dy s Q sm vx vy e k => by
  unfold addD at e
  split at e
  · cases e
    exact .inl ⟨_, _, vw_int vx, vw_int vy, k _ _ (.inl ⟨rfl, .int _⟩)⟩
  · split at e
    · cases e
      exact .inr (.inl ⟨_, _, vw_str vx, vw_str vy, ‹_›, k _ _ (.inl ⟨rfl, .str _⟩)⟩)
    · cases e
  · split at e
    · rename_i hl
      cases e
      obtain ⟨p, vs, e1, h1, r1⟩ := vw_lst sm vx
      obtain ⟨q, us, e2, h2, r2⟩ := vw_lst sm vy
      exact .inr (.inr ⟨p, q, vs, us, e1, e2, h1, h2, by rw [r1.length, r2.length]; exact hl, fun t ht => k _ _ ⟨t, _, rfl, ht, rfl, r1.app r2⟩⟩)
    · cases e
  · cases e
theorem repl_rep {mg : Str → Option Value} {F : Hp} {vs : List V} {xs : List D} (r : RepL mg F vs xs) : ∀ n : Nat, RepL mg F (List.replicate n vs).flatten (List.replicate n xs).flatten
  | 0 => .nil
  | n + 1 => by rw [List.replicate_succ, List.replicate_succ, List.flatten_cons, List.flatten_cons]; exact r.app (repl_rep r n)
def mulD : D → D → Option Sl
  | .int i, .int j => if i.natAbs.log2 + j.natAbs.log2 < 1000000 then some (.val (.int (i * j))) else none
  | .lst xs, .int k => if k.natAbs.log2 < 63 ∧ xs.length * k.toNat ≤ sizeLine then some (.lst (List.replicate k.toNat xs).flatten) else none
  | _, _ => none
def rMulA : R2 := fun x y H Q => (rI CMulW (fun i j => .int (i * j)) x y H Q) ∨ rRep x y H Q
theorem op_mulA {X : Cx} : OpR X (binaryOp .Mult) rMulA := op_mulW.or op_rep
theorem fl_mul {mg} : NewOp mg rMulA mulD := fun F H x y dx dy s Q sm vx vy e k => by
  unfold mulD at e
  split at e
  · split at e
    · cases e
      exact .inl ⟨_, _, vw_int vx, vw_int vy, ‹_›, k _ _ (.inl ⟨rfl, .int _⟩)⟩
    · cases e
  · split at e
    · rename_i hl
      cases e
      obtain ⟨p, vs, e1, h1, r1⟩ := vw_lst sm vx
      exact .inr ⟨p, _, vs, e1, vw_int vy, h1, (w_log hl.1).1, (w_log hl.1).2, by rw [r1.length]; exact hl.2, fun t ht => k _ _ ⟨t, _, rfl, ht, rfl, repl_rep r1 _⟩⟩
    · cases e
  · cases e

/-! ### order -/
def ordD (fi : Int → Int → Bool) (fs : List Nat → List Nat → Bool) : D → D → Option D
  | .int i, .int j => some (.bl (fi i j))
  | .str x, .str y => some (.bl (fs x.cps.toList y.cps.toList))
  | _, _ => none
def rOrd (fi : Int → Int → Bool) (fs : List Nat → List Nat → Bool) : R2 := fun x y H Q => (rI0 (fun i j => .bl (fi i j)) x y H Q) ∨ (∃ i j, x = .str i ∧ y = .str j ∧ Q (.bl (fs i.cps.toList j.cps.toList)) H)
theorem fl_ord {mg} {fi : Int → Int → Bool} {fs : List Nat → List Nat → Bool} : FlatOp mg (rOrd fi fs) (ordD fi fs) := fun F H x y dx dy d Q sm vx vy e k => by
  unfold ordD at e
  split at e
  · cases e; exact .inl ⟨_, _, vw_int vx, vw_int vy, k _ fun _ => .bl _⟩
  · cases e; exact .inr ⟨_, _, vw_str vx, vw_str vy, k _ fun _ => .bl _⟩
  · cases e
def ltD := ordD (fun i j => decide (i < j)) fun x y => decide (x < y)
def leD := ordD (fun i j => decide (i ≤ j)) fun x y => !decide (y < x)
def gtD := ordD (fun i j => decide (j < i)) fun x y => decide (y < x)
def geD := ordD (fun i j => decide (j ≤ i)) fun x y => !decide (x < y)
theorem op_ltA {X : Cx} : OpR X (compareOp .Lt) (rOrd (fun i j => decide (i < j)) fun x y => decide (x < y)) := op_lt.or op_lt_str
theorem op_leA {X : Cx} : OpR X (compareOp .LtE) (rOrd (fun i j => decide (i ≤ j)) fun x y => !decide (y < x)) := op_le.or op_le_str
theorem op_gtA {X : Cx} : OpR X (compareOp .Gt) (rOrd (fun i j => decide (j < i)) fun x y => decide (y < x)) := op_gt.or op_gt_str
theorem op_geA {X : Cx} : OpR X (compareOp .GtE) (rOrd (fun i j => decide (j ≤ i)) fun x y => !decide (x < y)) := op_ge.or op_ge_str

/-! ### == -/
mutual
def toPy : D → Option PyData
  | .non => some .none
  | .bl b => some (.bool b)
  | .int i => some (.int i)
  | .str x => some (.str x)
  | .lst xs => (toPyL xs).map .list
  | .tup xs => (toPyL xs).map .tuple
  | .dic _ => none
  | .dit _ => none
  | .ins _ _ => none
def toPyL : List D → Option (List PyData)
  | [] => some []
  | d :: ds => (toPy d).bind fun p => (toPyL ds).map (p :: ·)
end
section
variable {K : PySem.W.Frag} {mg : Str → Option Value} {F H : Hp}
mutual
theorem dp_of (s : Same F H) : ∀ {d : D} {v : V} {p : PyData}, Rep mg F v d → toPy d = some p → Dp K H v p
  | .non, _, _, r, e => by cases r; simp [toPy] at e; subst e; exact .non
  | .bl b, _, _, r, e => by cases r; simp [toPy] at e; subst e; exact .bl b
  | .int i, _, _, r, e => by cases r; simp [toPy] at e; subst e; exact .int i
  | .str x, _, _, r, e => by cases r; simp [toPy] at e; subst e; exact .str x
  | .lst xs, _, _, r, e => by
    cases r with
    | lst h q =>
      simp only [toPy, Option.map_eq_some_iff] at e
      obtain ⟨ps, e1, rfl⟩ := e
      exact .lst (SqL.of (s _ _ h)) (dpl_of s q e1)
  | .tup xs, _, _, r, e => by
    cases r with
    | tup h q =>
      simp only [toPy, Option.map_eq_some_iff] at e
      obtain ⟨ps, e1, rfl⟩ := e
      exact .tup (SqT.of (s _ _ h)) (dpl_of s q e1)
  | .dic _, _, _, r, e => by simp [toPy] at e
  | .dit _, _, _, r, e => by simp [toPy] at e
  | .ins _ _, _, _, r, e => by simp [toPy] at e
theorem dpl_of (s : Same F H) : ∀ {ds : List D} {vs : List V} {ps : List PyData}, RepL mg F vs ds → toPyL ds = some ps → DpAll K H vs ps
  | [], _, _, r, e => by cases r; simp [toPyL] at e; subst e; exact .nil
  | d :: ds, _, _, r, e => by
    cases r with
    | cons a b =>
      simp only [toPyL, Option.bind_eq_some_iff, Option.map_eq_some_iff] at e
      obtain ⟨p, e1, ps, e2, rfl⟩ := e
      exact .cons (dp_of s a e1) (dpl_of s b e2)
end
theorem dp_vw (s : Same F H) {d : D} {v : V} {p : PyData} (r : Vw mg F H v d) (e : toPy d = some p) : Dp K H v p := by
  cases r with
  | rep r => exact dp_of s r e
  | lst h q =>
    simp only [toPy, Option.map_eq_some_iff] at e
    obtain ⟨ps, e1, rfl⟩ := e
    exact .lst (SqL.of h) (dpl_of s q e1)
  | dic h q => simp [toPy] at e
  | dit h q => simp [toPy] at e
  | ins m h q => simp [toPy] at e
end
/-- two plain values of kinds that == tells apart by value or by kind -/
def scalD : D → D → Option Bool
  | .non, .non => some true | .non, .int _ => some false | .int _, .non => some false | .non, .bl _ => some false | .bl _, .non => some false | .non, .str _ => some false | .str _, .non => some false
  | .int i, .int j => some (decide (i = j)) | .bl a, .bl b => some (decide (a = b)) | .str x, .str y => some (decide (x = y))
  | .int _, .str _ => some false | .str _, .int _ => some false | .bl _, .str _ => some false | .str _, .bl _ => some false
  | _, _ => none
def pyEq (x y : D) : Option Bool := (toPy x).bind fun p => (toPy y).bind fun q => if SeqAt.shaped p = true ∧ SeqAt.shaped q = true then some (PyData.eqv p q) else none
def eqB (x y : D) : Option Bool := match scalD x y with
  | some b => some b
  | none => pyEq x y
def eqD (x y : D) : Option D := (eqB x y).map .bl
def neD (x y : D) : Option D := (eqB x y).map fun b => .bl (!b)
def rEqA (K : PySem.W.Frag) : R2 := fun x y H Q => rEq x y H Q ∨ rEqD K x y H Q
def rNeA (K : PySem.W.Frag) : R2 := fun x y H Q => rNe x y H Q ∨ rNeD K x y H Q
theorem op_eqA {X : Cx} (hu : X.A.units + 64 < cLine) : OpR X (compareOp .Eq) (rEqA X.K) := op_eq.or (op_eqD hu)
theorem op_neA {X : Cx} (hu : X.A.units + 64 < cLine) : OpR X (compareOp .NotEq) (rNeA X.K) := op_ne.or (op_neD hu)
theorem eq_at {mg : Str → Option Value} {K : PySem.W.Frag} {F H : Hp} {x y : V} {dx dy : D} {b : Bool} (sm : Same F H) (vx : Vw mg F H x dx) (vy : Vw mg F H y dy) (e : eqB dx dy = some b) :
    (scal x y = true ∧ b = decide (x = y)) ∨ ∃ p q, Dp K H x p ∧ Dp K H y q ∧ SeqAt.shaped p = true ∧ SeqAt.shaped q = true ∧ b = PyData.eqv p q := by
  unfold eqB at e
  cases h : scalD dx dy with
  | some c =>
    rw [h] at e
    cases e
    refine .inl ?_
    unfold scalD at h
    split at h <;> first
      | (cases h; rw [vw_flat vx rfl, vw_flat vy rfl]; exact ⟨rfl, by simp [fV]⟩)
      | cases h
  | none =>
    rw [h] at e
    refine .inr ?_
    simp only [pyEq, Option.bind_eq_some_iff] at e
    obtain ⟨p, h1, q, h2, e⟩ := e
    split at e
    · rename_i hs
      cases e
      exact ⟨p, q, dp_vw sm vx h1, dp_vw sm vy h2, hs.1, hs.2, rfl⟩
    · cases e
theorem fl_eq {mg} {K : PySem.W.Frag} : FlatOp mg (rEqA K) eqD := fun F H x y dx dy d Q sm vx vy e k => by
  unfold eqD at e
  simp only [Option.map_eq_some_iff] at e
  obtain ⟨b, e, rfl⟩ := e
  rcases eq_at (K := K) sm vx vy e with ⟨h1, rfl⟩ | ⟨p, q, h1, h2, h3, h4, rfl⟩
  · exact .inl ⟨h1, k _ fun _ => .bl _⟩
  · exact .inr ⟨p, q, h1, h2, h3, h4, k _ fun _ => .bl _⟩
theorem fl_ne {mg} {K : PySem.W.Frag} : FlatOp mg (rNeA K) neD := fun F H x y dx dy d Q sm vx vy e k => by
  unfold neD at e
  simp only [Option.map_eq_some_iff] at e
  obtain ⟨b, e, rfl⟩ := e
  rcases eq_at (K := K) sm vx vy e with ⟨h1, rfl⟩ | ⟨p, q, h1, h2, h3, h4, rfl⟩
  · exact .inl ⟨h1, k _ fun _ => .bl _⟩
  · exact .inr ⟨p, q, h1, h2, h3, h4, k _ fun _ => .bl _⟩

/-! ### is None -/
def isNon : D → Bool
  | .non => true
  | _ => false
def isND : D → D → Option D
  | x, .non => some (.bl (isNon x))
  | _, _ => none
def notND : D → D → Option D
  | x, .non => some (.bl (!isNon x))
  | _, _ => none
theorem vw_isN {mg : Str → Option Value} {F H : Hp} {v : V} {d : D} (h : Vw mg F H v d) : decide (v = .non) = isNon d := by
  cases h with
  | rep r => cases r <;> simp [isNon]
  | _ => simp [isNon]
theorem fl_isN {mg} : FlatOp mg (fun x y H Q => y = .non ∧ Q (.bl (decide (x = .non))) H) isND := fun F H x y dx dy d Q sm vx vy e k => by
  unfold isND at e
  split at e
  · cases e; exact ⟨vw_non vy, by rw [vw_isN vx]; exact k _ fun _ => .bl _⟩
  · cases e
theorem fl_notN {mg} : FlatOp mg (fun x y H Q => y = .non ∧ Q (.bl (!decide (x = .non))) H) notND := fun F H x y dx dy d Q sm vx vy e k => by
  unfold notND at e
  split at e
  · cases e; exact ⟨vw_non vy, by rw [vw_isN vx]; exact k _ fun _ => .bl _⟩
  · cases e
/-! ### in -/
def asKey : D → Option Key
  | .int i => some (.inl i)
  | .str x => some (.inr x)
  | _ => none
def asKeys : List D → Option (List Key)
  | [] => some []
  | d :: ds => (asKey d).bind fun k => (asKeys ds).map (k :: ·)
theorem asKey_rep {mg : Str → Option Value} {F : Hp} {v : V} {d : D} {k : Key} (r : Rep mg F v d) (e : asKey d = some k) : v = kV k := by
  cases r <;> simp [asKey] at e <;> subst e <;> rfl
theorem asKeys_rep {mg : Str → Option Value} {F : Hp} : ∀ {ds : List D} {vs : List V} {ks : List Key}, RepL mg F vs ds → asKeys ds = some ks → vs = ks.map kV
  | [], _, _, r, e => by cases r; simp [asKeys] at e; subst e; rfl
  | d :: ds, _, _, r, e => by
    cases r with
    | cons a b =>
      simp only [asKeys, Option.bind_eq_some_iff, Option.map_eq_some_iff] at e
      obtain ⟨k, e1, ks, e2, rfl⟩ := e
      rw [asKey_rep a e1, asKeys_rep b e2]; rfl
/-- what a dict holds at x -/
def getD? (d x : D) : Option (Option D) := match d, x with
  | .dic kvs, x => (asKey x).map fun k => getA kvs k
  | .dit kvs, .tup xs => (asKeys xs).map fun k => getA kvs k
  | _, _ => none
def OptR (mg : Str → Option Value) (F : Hp) : Option V → Option D → Prop
  | w, some z => ∃ u, w = some u ∧ Rep mg F u z
  | w, none => w = none
theorem optR_get {mg : Str → Option Value} {F : Hp} {κ : Type} [DecidableEq κ] {ws : List (κ × V)} {kvs : List (κ × D)} {k : κ} (r : RepA mg F ws kvs) : OptR mg F (valV ws k) (getA kvs k) := by
  cases ho : getA kvs k with
  | some z => exact r.get ho
  | none => exact r.getN ho
theorem dget_of {mg : Str → Option Value} {F H : Hp} {v y : V} {d x : D} {o : Option D} (s : Same F H) (vd : Vw mg F H v d) (vx : Vw mg F H y x) (e : getD? d x = some o) :
    ∃ a w, v = .ref a ∧ DGet H a y w ∧ OptR mg F w o := by
  have vk : ∀ {k : Key}, asKey x = some k → y = kV k := fun {k} e => by
    cases vx with
    | rep r => exact asKey_rep r e
    | _ => simp [asKey] at e
  unfold getD? at e
  split at e
  · obtain ⟨p, ws, rfl, h, r⟩ := vw_dic s vd
    simp only [Option.map_eq_some_iff] at e
    obtain ⟨k, e1, rfl⟩ := e
    refine ⟨p, valV ws k, rfl, .inl ⟨ws, k, h, vk e1, rfl⟩, ?_⟩
    exact optR_get r
  · obtain ⟨p, ws, rfl, h, r⟩ := vw_dit s vd
    obtain ⟨q, us, rfl, hq, rq⟩ := vw_tup s vx
    simp only [Option.map_eq_some_iff] at e
    obtain ⟨k, e1, rfl⟩ := e
    refine ⟨p, valV ws k, rfl, .inr ⟨ws, k, q, h, rfl, by rw [hq, asKeys_rep rq e1], rfl⟩, ?_⟩
    exact optR_get r
  · cases e
/-- == of flat values -/
def eqF : D → D → Bool
  | .non, .non => true
  | .bl a, .bl b => a == b
  | .bl a, .int b => (if a then 1 else 0) == b
  | .int a, .bl b => a == (if b then 1 else 0)
  | .int a, .int b => a == b
  | .str a, .str b => a == b
  | _, _ => false
theorem eqV_F {x y : D} (hx : flat x = true) (hy : flat y = true) : eqV (fV x) (fV y) = eqF x y := by
  cases x <;> cases y <;> first | rfl | exact (Bool.false_ne_true hx).elim | exact (Bool.false_ne_true hy).elim
def sgn (z : Str) : Option Nat := match z.cps.toList with
  | [c] => some c
  | _ => none
theorem sgn_some {z : Str} {c : Nat} (h : sgn z = some c) : z = ⟨#[c]⟩ := by
  obtain ⟨⟨l⟩⟩ := z
  match l, h with
  | [], h => cases h
  | [d], h => cases h; rfl
  | _ :: _ :: _, h => cases h
def inB (x y : D) : Option Bool := match x, y with
  | .str a, .str b => (sgn a).map fun c => decide (c ∈ b.cps.toList)
  | x, .lst ys => if flat x = true ∧ ys.all flat = true then some (ys.any fun y => eqF y x) else (toPy x).bind fun p => (toPyL ys).bind fun ps => if SeqAt.shaped p = true ∧ SeqAt.shaped (.list ps) = true then some (ps.any fun z => PyData.eqv z p) else none
  | x, .tup ys => if flat x = true ∧ ys.all flat = true then some (ys.any fun y => eqF y x) else none
  | x, .dic kvs => (getD? (.dic kvs) x).map Option.isSome
  | x, .dit kvs => (getD? (.dit kvs) x).map Option.isSome
  | _, _ => none
def inD (x y : D) : Option D := (inB x y).map .bl
def ninD (x y : D) : Option D := (inB x y).map fun b => .bl (!b)
def rInA (K : PySem.W.Frag) (f : Bool → Bool) : R2 := fun x y H Q => (∃ (c : Nat) (z : Str), x = .str ⟨#[c]⟩ ∧ y = .str z ∧ Q (.bl (f (decide (c ∈ z.cps.toList)))) H) ∨
  (∃ p xs, y = .ref p ∧ (SqL K H p xs ∨ SqT K H p xs) ∧ flatV x = true ∧ xs.all flatV = true ∧ Q (.bl (f (inV x xs))) H) ∨
  (∃ d ds, Dp K H x d ∧ Dp K H y (.list ds) ∧ SeqAt.shaped d = true ∧ SeqAt.shaped (.list ds) = true ∧ Q (.bl (f (ds.any fun z => PyData.eqv z d))) H) ∨
  (∃ a o, y = .ref a ∧ DGet H a x o ∧ Q (.bl (f o.isSome)) H)
theorem op_inDict {X : Cx} (hu : X.A.units + 1 < cLine) : OpR X (compareOp .In) (fun x y H Q => ∃ a o, y = .ref a ∧ DGet H a x o ∧ Q (.bl o.isSome) H) := by
  intro pins s σ H x y v u Q I rx ry h
  obtain ⟨a, o, rfl, g, q⟩ := h
  cases ry
  exact d_in hu I g rx fun s' I' => ⟨.bl _, H, I', rfl, q⟩
theorem op_ninDict {X : Cx} (hu : X.A.units + 1 < cLine) : OpR X (compareOp .NotIn) (fun x y H Q => ∃ a o, y = .ref a ∧ DGet H a x o ∧ Q (.bl (!o.isSome)) H) := by
  intro pins s σ H x y v u Q I rx ry h
  obtain ⟨a, o, rfl, g, q⟩ := h
  cases ry
  exact d_notIn hu I g rx fun s' I' => ⟨.bl _, H, I', rfl, q⟩
theorem op_inA {X : Cx} (hu : X.A.units + 65 < cLine) : OpR X (compareOp .In) (rInA X.K id) := op_in_sign.or (op_in_seq.or ((op_inD hu).or (op_inDict (by omega))))
theorem op_ninA {X : Cx} (hu : X.A.units + 65 < cLine) : OpR X (compareOp .NotIn) (rInA X.K (!·)) := op_notIn_sign.or (op_notIn_seq.or ((op_notInD hu).or (op_ninDict (by omega))))
theorem all_flatV {mg : Str → Option Value} {F : Hp} : ∀ {ds : List D} {vs : List V}, RepL mg F vs ds → ds.all flat = true → vs = ds.map fV ∧ vs.all flatV = true
  | [], _, .nil, _ => ⟨rfl, rfl⟩
  | d :: ds, _, .cons a b, h => by
    simp only [List.all_cons, Bool.and_eq_true] at h
    obtain ⟨h1, h2⟩ := all_flatV b h.2
    have e := rep_flat_eq a h.1
    subst e
    refine ⟨by rw [h1]; rfl, ?_⟩
    simp only [List.all_cons, Bool.and_eq_true]
    refine ⟨?_, h2⟩
    have h1 := h.1
    cases d <;> first | rfl | exact (Bool.false_ne_true h1).elim
theorem any_eqF : ∀ {ds : List D} {x : D}, flat x = true → ds.all flat = true → inV (fV x) (ds.map fV) = ds.any fun y => eqF y x
  | [], x, _, _ => rfl
  | d :: ds, x, hx, h => by
    simp only [List.all_cons, Bool.and_eq_true] at h
    have ih := any_eqF (ds := ds) hx h.2
    unfold inV at ih ⊢
    simp only [List.map_cons, List.any_cons]
    rw [eqV_F h.1 hx, ih]
theorem flatV_of {x : D} (h : flat x = true) : flatV (fV x) = true := by cases x <;> first | rfl | exact (Bool.false_ne_true h).elim
theorem in_at {mg : Str → Option Value} {K : PySem.W.Frag} {F H : Hp} {x y : V} {dx dy : D} {b : Bool} {f : Bool → Bool} {Q : VK} (sm : Same F H) (vx : Vw mg F H x dx) (vy : Vw mg F H y dy) (e : inB dx dy = some b) (q : Q (.bl (f b)) H) : rInA K f x y H Q := by
  have dict : ∀ {kvs : D}, Vw mg F H y kvs → (getD? kvs dx).map Option.isSome = some b → rInA K f x y H Q := fun {kvs} vy e => by
    simp only [Option.map_eq_some_iff] at e
    obtain ⟨o, e1, rfl⟩ := e
    obtain ⟨a, w, rfl, g, hw⟩ := dget_of sm vy vx e1
    have z : w.isSome = o.isSome := by
      cases o with
      | none => rw [show w = none from hw]; rfl
      | some z => obtain ⟨u, hu, _⟩ := hw; rw [hu] <;> rfl
    exact .inr (.inr (.inr ⟨a, w, rfl, g, by rw [z]; exact q⟩))
  unfold inB at e
  split at e
  · simp only [Option.map_eq_some_iff] at e
    obtain ⟨c, h1, rfl⟩ := e
    rw [vw_str vx, vw_str vy, sgn_some h1]
    exact .inl ⟨c, _, rfl, rfl, q⟩
  · obtain ⟨p, vs, rfl, h, r⟩ := vw_lst sm vy
    split at e
    · rename_i hf
      cases e
      obtain ⟨h1, h2⟩ := all_flatV r hf.2
      have ex := vw_flat vx hf.1
      subst h1 ex
      exact .inr (.inl ⟨p, _, rfl, .inl (SqL.of h), flatV_of hf.1, h2, by rw [any_eqF hf.1 hf.2]; exact q⟩)
    · simp only [Option.bind_eq_some_iff] at e
      obtain ⟨d, e1, ps, e2, e⟩ := e
      split at e
      · rename_i hs
        cases e
        exact .inr (.inr (.inl ⟨d, ps, dp_vw sm vx e1, .lst (SqL.of h) (dpl_of sm r e2), hs.1, hs.2, q⟩))
      · cases e
  · obtain ⟨p, vs, rfl, h, r⟩ := vw_tup sm vy
    split at e
    · rename_i hf
      cases e
      obtain ⟨h1, h2⟩ := all_flatV r hf.2
      have ex := vw_flat vx hf.1
      subst h1 ex
      exact .inr (.inl ⟨p, _, rfl, .inr (SqT.of h), flatV_of hf.1, h2, by rw [any_eqF hf.1 hf.2]; exact q⟩)
    · cases e
  · exact dict vy e
  · exact dict vy e
  · cases e
theorem fl_in {mg} {K : PySem.W.Frag} : FlatOp mg (rInA K id) inD := fun F H x y dx dy d Q sm vx vy e k => by
  unfold inD at e
  simp only [Option.map_eq_some_iff] at e
  obtain ⟨b, e, rfl⟩ := e
  exact in_at (f := id) sm vx vy e (k _ fun _ => .bl _)
theorem fl_nin {mg} {K : PySem.W.Frag} : FlatOp mg (rInA K (!·)) ninD := fun F H x y dx dy d Q sm vx vy e k => by
  unfold ninD at e
  simp only [Option.map_eq_some_iff] at e
  obtain ⟨b, e, rfl⟩ := e
  exact in_at (f := (!·)) sm vx vy e (k _ fun _ => .bl _)

/-! ### items -/
def itemD (x i : D) : Option D := match x, i with
  | .lst xs, .int i => atI xs i
  | .tup xs, .int i => atI xs i
  | .str z, .int i => if z.length ≤ sizeLine then (atI z.cps.toList i).map fun c => .str ⟨#[c]⟩ else none
  | d, k => (getD? d k).join
def rIxA (K : PySem.W.Frag) : R2 := fun x y H Q => rIx K x y H Q ∨ (∃ a v, x = .ref a ∧ DGet H a y (some v) ∧ Q v H)
theorem ix_dict {X : Cx} (hu : X.A.units + 1 < cLine) : IxR X (fun x y H Q => ∃ a v, x = .ref a ∧ DGet H a y (some v) ∧ Q v H) := by
  intro value slice pins s σ H x y v u Q I rx ry h hs
  obtain ⟨a, w, rfl, g, q⟩ := h
  cases rx
  exact PyProof.Rows.tail_any (dict_typeIs I g) PySem.F.slot_dict_getitem.lookup (d_getItem hu I g ry fun w' s3 I3 rw' => ⟨w, H, I3, rw', q⟩) hs
theorem ix_A {X : Cx} (hu : X.A.units + 1 < cLine) : IxR X (rIxA X.K) := ix_seq.or (ix_dict hu)
theorem atI_rep {mg : Str → Option Value} {F : Hp} {vs : List V} {xs : List D} {i : Int} {d : D} (r : RepL mg F vs xs) (e : atI xs i = some d) : ∃ v, atI vs i = some v ∧ Rep mg F v d := by
  unfold atI at e ⊢
  rw [r.length]
  cases h : ixN xs.length i with
  | none => rw [h] at e; cases e
  | some j => rw [h] at e; exact r.get e
theorem fl_item {mg} {K : PySem.W.Frag} (F H : Hp) (x y : V) (dx dy : D) (d : D) (Q : VK) (sm : Same F H) (vx : Vw mg F H x dx) (vy : Vw mg F H y dy) (e : itemD dx dy = some d) (k : ∀ v, Rep mg F v d → Q v H) : rIxA K x y H Q := by
  unfold itemD at e
  split at e
  · obtain ⟨p, vs, rfl, h, r⟩ := vw_lst sm vx
    obtain ⟨v, e1, rv⟩ := atI_rep r e
    exact .inl (.inl ⟨p, vs, _, v, rfl, vw_int vy, SqL.of h, e1, k v rv⟩)
  · obtain ⟨p, vs, rfl, h, r⟩ := vw_tup sm vx
    obtain ⟨v, e1, rv⟩ := atI_rep r e
    exact .inl (.inr (.inl ⟨p, vs, _, v, rfl, vw_int vy, SqT.of h, e1, k v rv⟩))
  · split at e
    · simp only [Option.map_eq_some_iff] at e
      obtain ⟨c, e1, rfl⟩ := e
      exact .inl (.inr (.inr ⟨_, _, c, vw_str vx, vw_int vy, ‹_›, e1, k _ (.str _)⟩))
    · cases e
  · rw [Option.join_eq_some_iff] at e
    obtain ⟨a, w, rfl, g, u, rfl, hw⟩ := dget_of sm vx vy e
    exact .inr ⟨a, u, rfl, g, k u hw⟩
end HU
set_option maxRecDepth 100000
namespace HU
open PySem PySem.Spec L2
section
variable {X : Cx} {n : Nat} {e a b : Expr} {rest es : List Expr} {pos p p2 apos : Pos}

/-! ### displays -/
def mTup (ms : Mr (List D)) : Mr D := mBnd ms fun ds => if ds.length ≤ sizeLine then mRet (.tup ds) else fun _ => none
def mLst (ms : Mr (List D)) : Mr Sl := mBnd ms fun ds => if ds.length ≤ sizeLine then mRet (.lst ds) else fun _ => none
theorem se_tup {ms : Mr (List D)} {x1} (h : SA X n es ms) : SE X n (.Tuple es x1 pos) (mTup ms) := ⟨fun a ha hn => (pe_tup (h.run a ha hn)).w fun σ H Q ⟨env, F, d, env', r, hm, q⟩ => by
  obtain ⟨ds, e1, h1, hm⟩ := mBnd_some hm
  refine ⟨env, F, ds, e1, r, h1, fun vs F' H' s' r' rp => ?_⟩
  split at hm
  · rename_i hl
    cases hm
    refine ⟨by rw [rp.length]; exact hl, fun p hp => ?_⟩
    obtain ⟨ow, r'⟩ := r'
    have hF := (r'.fresh hp).1
    exact q _ (upd F' p (.tup vs)) _ (s'.trans (Same.upd hF)) ⟨ow, r'.frz hp⟩ (.tup upd_same (rp.mono (Same.upd hF)))
  · cases hm⟩
theorem sf_lst {ms : Mr (List D)} (h : SA X n es ms) : SF X n (.List es pos) (mLst ms) := ⟨fun a ha hn => (pe_lst (h.run a ha hn)).w fun σ H Q ⟨env, F, d, env', r, hm, q⟩ => by
  obtain ⟨ds, e1, h1, hm⟩ := mBnd_some hm
  refine ⟨env, F, ds, e1, r, h1, fun vs F' H' s' r' rp => ?_⟩
  split at hm
  · rename_i hl
    cases hm
    refine ⟨by rw [rp.length]; exact hl, fun p hp => ?_⟩
    obtain ⟨F2, s2, R2⟩ := r'.new (s := .lst ds) (v := .ref p) (H' := upd H' p (.lst vs)) ⟨p, vs, rfl, hp, rfl, rp⟩
    exact q _ F2 _ (s'.trans s2) (by obtain ⟨_, r'⟩ := r'; exact r'.nl) R2
  · cases hm⟩
theorem sf_dicK : SF X n (.Dict [] [] pos) (mRet (.dic [])) := ⟨fun a ha hn => pe_dnewK.w fun σ H Q ⟨env, F, d, env', r, hm, q⟩ p hp => by
  cases hm
  obtain ⟨F2, s2, R2⟩ := r.new (s := .dic []) (v := .ref p) (H' := upd H p (.dK [])) ⟨p, [], rfl, hp, rfl, .nil⟩
  exact q _ F2 _ s2 (by obtain ⟨_, r'⟩ := r; exact r'.nl) R2⟩
theorem sf_dicT : SF X n (.Dict [] [] pos) (mRet (.dit [])) := ⟨fun a ha hn => pe_dnewT.w fun σ H Q ⟨env, F, d, env', r, hm, q⟩ p hp => by
  cases hm
  obtain ⟨F2, s2, R2⟩ := r.new (s := .dit []) (v := .ref p) (H' := upd H p (.dT [])) ⟨p, [], rfl, hp, rfl, .nil⟩
  exact q _ F2 _ s2 (by obtain ⟨_, r'⟩ := r; exact r'.nl) R2⟩

/-! ### tests -/
def mTr (m : Mr D) : Mr Bool := mBnd m fun d => match d with
  | .bl b => mRet b
  | _ => fun _ => none
theorem st_val {m : Mr D} (h : SE X n e m) (he : ∀ whole, isTrue e X.env whole = (do let v ← whole; standAt e.pos; holding [v] (truthy v)) := by intro _; rfl) : ST X n e (mTr m) := ⟨fun a ha hn => (pt_val (h.run a ha hn) he).w fun σ H Q ⟨env, F, b, env', r, hm, q⟩ => by
  obtain ⟨d, e1, h1, hm⟩ := mBnd_some hm
  refine ⟨env, F, d, e1, r, h1, fun v F' H' s' r' rp => ?_⟩
  split at hm
  · cases hm; cases rp; exact ⟨_, rfl, q F' H' s' r'⟩
  · cases hm⟩
theorem st_not {m : Mr Bool} (h : ST X n a m) : ST X n (.UnaryOp .Not a pos) (mBnd m fun b => mRet (!b)) := ⟨fun a ha hn => (pt_not (h.run a ha hn)).w fun σ H Q ⟨env, F, b, env', r, hm, q⟩ => by
  obtain ⟨d, e1, h1, hm⟩ := mBnd_some hm
  cases hm
  exact ⟨env, F, d, _, r, h1, fun F' H' s' r' => q F' H' s' r'⟩⟩
theorem SW.t {m : Mr Bool} (h : SW X n e m) : ST X n e m := ⟨fun a ha hn => (h.run a ha hn).pt⟩
def mAnd {α : Type} (m : Mr Bool) (k : Mr α) (f : α) : Mr α := mBnd m fun b => if b = true then k else mRet f
def mOr {α : Type} (m : Mr Bool) (k : Mr α) (t : α) : Mr α := mBnd m fun b => if b = true then mRet t else k
theorem sw_and1 {m : Mr Bool} (h : ST X n a m) : SW X n (.BoolOp .And [a] pos) m := ⟨fun a ha hn => pw_and1 (h.run a ha hn)⟩
theorem sw_or1 {m : Mr Bool} (h : ST X n a m) : SW X n (.BoolOp .Or [a] pos) m := ⟨fun a ha hn => pw_or1 (h.run a ha hn)⟩
theorem sw_and {m k : Mr Bool} (h : ST X n a m) (hk : SW X n (.BoolOp .And (b :: rest) pos) k) : SW X n (.BoolOp .And (a :: b :: rest) pos) (mAnd m k false) := ⟨fun a ha hn => (pw_and (h.run a ha hn) (hk.run a ha hn)).w fun σ H Q ⟨env, F, b, env', r, hm, q⟩ => by
  obtain ⟨c, e1, h1, hm⟩ := mBnd_some hm
  refine ⟨env, F, c, e1, r, h1, fun F' H' s' r' => ?_⟩
  cases c with
  | true => exact ⟨e1, F', b, env', r', hm, fun F2 H2 s2 r2 => q F2 H2 (s'.trans s2) r2⟩
  | false => cases hm; exact q F' H' s' r'⟩
theorem sw_or {m k : Mr Bool} (h : ST X n a m) (hk : SW X n (.BoolOp .Or (b :: rest) pos) k) : SW X n (.BoolOp .Or (a :: b :: rest) pos) (mOr m k true) := ⟨fun a ha hn => (pw_or (h.run a ha hn) (hk.run a ha hn)).w fun σ H Q ⟨env, F, b, env', r, hm, q⟩ => by
  obtain ⟨c, e1, h1, hm⟩ := mBnd_some hm
  refine ⟨env, F, c, e1, r, h1, fun F' H' s' r' => ?_⟩
  cases c with
  | false => exact ⟨e1, F', b, env', r', hm, fun F2 H2 s2 r2 => q F2 H2 (s'.trans s2) r2⟩
  | true => cases hm; exact q F' H' s' r'⟩
/-! ### and, or, not as values -/
theorem se_one {op} {m : Mr D} (h : SE X n a m) : SE X n (.BoolOp op [a] pos) m := ⟨fun a ha hn => pe_one (h.run a ha hn)⟩
theorem se_and {m k : Mr D} (h : SE X n a m) (hk : SE X n (.BoolOp .And (b :: rest) pos) k) : SE X n (.BoolOp .And (a :: b :: rest) pos) (mAnd (mTr m) k (.bl false)) := ⟨fun a ha hn => (pe_and (h.run a ha hn) (hk.run a ha hn)).w fun σ H Q ⟨env, F, d, env', r, hm, q⟩ => by
  obtain ⟨c, e1, h1, hm⟩ := mBnd_some hm
  obtain ⟨d1, e2, h1, h2⟩ := mBnd_some h1
  refine ⟨env, F, d1, e2, r, h1, fun v F' H' s' r' rp => ?_⟩
  split at h2
  · cases h2; cases rp
    refine ⟨_, rfl, ?_⟩
    cases c with
    | true => exact ⟨e1, F', d, env', r', hm, fun v F2 H2 s2 r2 => q v F2 H2 (s'.trans s2) r2⟩
    | false => cases hm; exact q _ F' H' s' r' (.bl false)
  · cases h2⟩
theorem se_or {m k : Mr D} (h : SE X n a m) (hk : SE X n (.BoolOp .Or (b :: rest) pos) k) : SE X n (.BoolOp .Or (a :: b :: rest) pos) (mOr (mTr m) k (.bl true)) := ⟨fun a ha hn => (pe_or (h.run a ha hn) (hk.run a ha hn)).w fun σ H Q ⟨env, F, d, env', r, hm, q⟩ => by
  obtain ⟨c, e1, h1, hm⟩ := mBnd_some hm
  obtain ⟨d1, e2, h1, h2⟩ := mBnd_some h1
  refine ⟨env, F, d1, e2, r, h1, fun v F' H' s' r' rp => ?_⟩
  split at h2
  · cases h2; cases rp
    refine ⟨_, rfl, ?_⟩
    cases c with
    | false => exact ⟨e1, F', d, env', r', hm, fun v F2 H2 s2 r2 => q v F2 H2 (s'.trans s2) r2⟩
    | true => cases hm; exact q _ F' H' s' r' (.bl true)
  · cases h2⟩
theorem se_not {m : Mr D} (h : SE X n a m) : SE X n (.UnaryOp .Not a pos) (mBnd (mTr m) fun b => mRet (.bl (!b))) := ⟨fun a ha hn => (pe_not (h.run a ha hn)).w fun σ H Q ⟨env, F, d, env', r, hm, q⟩ => by
  obtain ⟨c, e1, h0, hm⟩ := mBnd_some hm
  obtain ⟨d1, e2, h1, h2⟩ := mBnd_some h0
  cases hm
  refine ⟨env, F, d1, e2, r, h1, fun v F' H' s' r' rp => ?_⟩
  split at h2
  · cases h2; cases rp
    exact ⟨_, rfl, q _ F' H' s' r' (.bl _)⟩
  · cases h2⟩
def mIf {α : Type} (c : Mr Bool) (t u : Mr α) : Mr α := mBnd c fun b => if b = true then t else u
theorem se_if {c : Expr} {mc : Mr Bool} {ma mb : Mr D} (hc : ST X n c mc) (h : SE X n a ma) (h2 : SE X n b mb) : SE X n (.IfExp c a b pos) (mIf mc ma mb) := ⟨fun a ha hn => (pe_ifExp (hc.run a ha hn) (h.run a ha hn) (h2.run a ha hn)).w fun σ H Q ⟨env, F, d, env', r, hm, q⟩ => by
  obtain ⟨c, e1, h1, hm⟩ := mBnd_some hm
  refine ⟨env, F, c, e1, r, h1, fun F' H' s' r' => ?_⟩
  cases c with
  | true => exact ⟨e1, F', d, env', r', hm, fun v F2 H2 s2 r2 => q v F2 H2 (s'.trans s2) r2⟩
  | false => exact ⟨e1, F', d, env', r', hm, fun v F2 H2 s2 r2 => q v F2 H2 (s'.trans s2) r2⟩⟩
/-- -a -/
def negD : D → Option D
  | .int i => some (.int (-i))
  | _ => none
def mOpt {α β : Type} (g : α → Option β) (m : Mr α) : Mr β := fun env => (m env).bind fun r => (g r.1).bind fun y => some (y, r.2)
theorem mOpt_some {α β : Type} {g : α → Option β} {m : Mr α} {env e2 : List Sl} {y : β} (h : mOpt g m env = some (y, e2)) : ∃ x, m env = some (x, e2) ∧ g x = some y := by
  unfold mOpt at h
  simp only [Option.bind_eq_some_iff] at h
  obtain ⟨⟨x, e3⟩, h1, y', h2, h3⟩ := h
  cases h3
  exact ⟨x, h1, h2⟩
theorem se_neg {m : Mr D} (h : SE X n a m) : SE X n (.UnaryOp .USub a pos) (mOpt negD m) := ⟨fun a ha hn => (pe_un un_neg (h.run a ha hn)).w fun σ H Q ⟨env, F, d, env', r, hm, q⟩ => by
  obtain ⟨x, h1, h2⟩ := mOpt_some hm
  refine ⟨env, F, x, _, r, h1, fun v F' H' s' r' rp => ?_⟩
  unfold negD at h2
  split at h2
  · cases h2; cases rp; exact ⟨_, rfl, q _ F' H' s' r' (.int _)⟩
  · cases h2⟩

/-! ### calls of built-ins with one argument, looked at -/
def mOp1 {τ α : Type} (g : D → Option α) (pa : Mr τ) (qa : τ → List Sl → Option D) : Mr α := fun env => (pa env).bind fun t => (qa t.1 t.2).bind fun x => (g x).bind fun z => some (z, t.2)
theorem mOp1_some {τ α : Type} {g : D → Option α} {pa : Mr τ} {qa : τ → List Sl → Option D} {env e2 : List Sl} {z : α} (h : mOp1 g pa qa env = some (z, e2)) : ∃ t x, pa env = some (t, e2) ∧ qa t e2 = some x ∧ g x = some z := by
  unfold mOp1 at h
  simp only [Option.bind_eq_some_iff] at h
  obtain ⟨⟨t, e1⟩, h1, x, h2, z', h3, h4⟩ := h
  cases h4
  exact ⟨t, x, h1, h2, h3⟩
abbrev Flat1 (mg : Str → Option Value) (r : List V → Hp → VK → Prop) (g : D → Option D) : Prop := ∀ (F H : Hp) (x : V) (dx d : D) (Q : VK), Same F H → Vw mg F H x dx → g dx = some d → (∀ v, (∀ F', Rep mg F' v d) → Q v H) → r [x] H Q
/-- an answer that stands in what stands still -/
abbrev Part1 (mg : Str → Option Value) (r : List V → Hp → VK → Prop) (g : D → Option D) : Prop := ∀ (F H : Hp) (x : V) (dx d : D) (Q : VK), Same F H → Vw mg F H x dx → g dx = some d → (∀ v, Rep mg F v d → Q v H) → r [x] H Q
abbrev New1 (mg : Str → Option Value) (r : List V → Hp → VK → Prop) (g : D → Option Sl) : Prop := ∀ (F H : Hp) (x : V) (dx : D) (s : Sl) (Q : VK), Same F H → Vw mg F H x dx → g dx = some s → (∀ v H', NewR mg F H s v H' → Q v H') → r [x] H Q
section
variable {τ : Type} {pa : Mr τ} {qa : τ → List Sl → Option D} {r : List V → Hp → VK → Prop} {x : Str} {id T : String}
theorem rd_flat1 {ax : Ax} {g : D → Option D} (fl : Flat1 ax.mg r g) : ∀ σ H Q, rdE ax (mOp1 g pa qa) σ H Q → tCB r (tCons (rdV ax pa qa) tNil) σ H Q := fun σ H Q ⟨env, F, d, env', R0, hm, q⟩ => by
  obtain ⟨t, dx, h1, h2, h3⟩ := mOp1_some hm
  exact ⟨env, F, t, _, R0, h1, fun v F' H' s' R' vw => fl F' H' v dx d Q (by obtain ⟨_, R'⟩ := R'; exact R'.fh) (vw _ F' H' dx (Same.refl F') R' h2) h3 fun w hw => q w F' H' s' R' (hw F')⟩
theorem rd_part1 {ax : Ax} {g : D → Option D} (fl : Part1 ax.mg r g) : ∀ σ H Q, rdE ax (mOp1 g pa qa) σ H Q → tCB r (tCons (rdV ax pa qa) tNil) σ H Q := fun σ H Q ⟨env, F, d, env', R0, hm, q⟩ => by
  obtain ⟨t, dx, h1, h2, h3⟩ := mOp1_some hm
  exact ⟨env, F, t, _, R0, h1, fun v F' H' s' R' vw => fl F' H' v dx d Q (by obtain ⟨_, R'⟩ := R'; exact R'.fh) (vw _ F' H' dx (Same.refl F') R' h2) h3 fun w hw => q w F' H' s' R' hw⟩
theorem rd_new1 {ax : Ax} {g : D → Option Sl} (fl : New1 ax.mg r g) : ∀ σ H Q, rdF ax (mOp1 g pa qa) σ H Q → tCB r (tCons (rdV ax pa qa) tNil) σ H Q := fun σ H Q ⟨env, F, s, env', R0, hm, q⟩ => by
  obtain ⟨t, dx, h1, h2, h3⟩ := mOp1_some hm
  refine ⟨env, F, t, _, R0, h1, fun v F' H' s' R' vw => fl F' H' v dx s Q (by obtain ⟨_, R'⟩ := R'; exact R'.fh) (vw _ F' H' dx (Same.refl F') R' h2) h3 fun w H2 nr => ?_⟩
  obtain ⟨F3, s3, R3⟩ := R'.new nr
  exact q w F3 H2 (s'.trans s3) (by obtain ⟨_, R2⟩ := R'; exact R2.nl) R3
theorem se_callB {g : D → Option D} (hc : CallR X (.builtin id) r) (fl : Flat1 X.mg r g) (h : SV X n e pa qa) (hm : X.mg x = none) (hv : bootBuiltins x = some (.builtin id)) (hg : Gl X x := by rfl) (he : starEach [e] X.env = (false, eval e X.env) :: starEach [] X.env := by rfl)
    (hn : x ≠ "__name__" := by decide) (hdb : (x == ("__debug__" : Str)) = false := by decide) (hpl : (backTo pos (starEach [] X.env)).any (·.1) = false := by rfl) : SE X n (.Call (.Name x p) [e] [] pos) (mOp1 g pa qa) :=
  ⟨fun a ha hn' => (pe_callB hc hg hm hv (pa_cons (h.run a ha hn') pa_nil he) hn hdb he hpl).w (rd_flat1 (by rw [ha]; exact fl))⟩
theorem sf_callB {g : D → Option Sl} (hc : CallR X (.builtin id) r) (fl : New1 X.mg r g) (h : SV X n e pa qa) (hm : X.mg x = none) (hv : bootBuiltins x = some (.builtin id)) (hg : Gl X x := by rfl) (he : starEach [e] X.env = (false, eval e X.env) :: starEach [] X.env := by rfl)
    (hn : x ≠ "__name__" := by decide) (hdb : (x == ("__debug__" : Str)) = false := by decide) (hpl : (backTo pos (starEach [] X.env)).any (·.1) = false := by rfl) : SF X n (.Call (.Name x p) [e] [] pos) (mOp1 g pa qa) :=
  ⟨fun a ha hn' => (pe_callB hc hg hm hv (pa_cons (h.run a ha hn') pa_nil he) hn hdb he hpl).w (rd_new1 (by rw [ha]; exact fl))⟩
theorem se_callTy {g : D → Option D} (hc : CallR X (.type T) r) (fl : Flat1 X.mg r g) (h : SV X n e pa qa) (hm : X.mg x = none) (hv : bootBuiltins x = some (.type T)) (hg : Gl X x := by rfl) (he : starEach [e] X.env = (false, eval e X.env) :: starEach [] X.env := by rfl)
    (hn : x ≠ "__name__" := by decide) (hdb : (x == ("__debug__" : Str)) = false := by decide) (hpl : (backTo pos (starEach [] X.env)).any (·.1) = false := by rfl) : SE X n (.Call (.Name x p) [e] [] pos) (mOp1 g pa qa) :=
  ⟨fun a ha hn' => (pe_callTy hc hg hm hv (pa_cons (h.run a ha hn') pa_nil he) hn hdb he hpl).w (rd_flat1 (by rw [ha]; exact fl))⟩
theorem sf_callTy {g : D → Option Sl} (hc : CallR X (.type T) r) (fl : New1 X.mg r g) (h : SV X n e pa qa) (hm : X.mg x = none) (hv : bootBuiltins x = some (.type T)) (hg : Gl X x := by rfl) (he : starEach [e] X.env = (false, eval e X.env) :: starEach [] X.env := by rfl)
    (hn : x ≠ "__name__" := by decide) (hdb : (x == ("__debug__" : Str)) = false := by decide) (hpl : (backTo pos (starEach [] X.env)).any (·.1) = false := by rfl) : SF X n (.Call (.Name x p) [e] [] pos) (mOp1 g pa qa) :=
  ⟨fun a ha hn' => (pe_callTy hc hg hm hv (pa_cons (h.run a ha hn') pa_nil he) hn hdb he hpl).w (rd_new1 (by rw [ha]; exact fl))⟩
end
end

/-! ### len -/
def lenD : D → Option D
  | .lst xs => some (.int xs.length)
  | .tup xs => some (.int xs.length)
  | .str z => if z.length ≤ sizeLine then some (.int z.length) else none
  | .dic kvs => some (.int kvs.length)
  | .dit kvs => some (.int kvs.length)
  | _ => none
theorem cr_lenD {X : Cx} : CallR X (.builtin "len") (fun xs H Q => ∃ a kvs, xs = [V.ref a] ∧ Rd H a (.dK kvs) ∧ Q (.int kvs.length) H) := by
  intro pins s σ H xs us Q I r h
  obtain ⟨a, kvs, rfl, hd, q⟩ := h
  cases r with
  | cons r1 r2 =>
    cases r2
    cases r1
    exact d_len I hd fun t s' I' => ⟨.int kvs.length, H, I', ⟨t, rfl⟩, q⟩
theorem cr_lenT {X : Cx} : CallR X (.builtin "len") (fun xs H Q => ∃ (p : Addr) (kvs : List (List Key × V)), xs = [V.ref p] ∧ Rd H p (.dT kvs) ∧ Q (.int ((kvs.length : Nat) : Int)) H) := by
  intro pins s σ H xs us Q I r h
  obtain ⟨p, kvs, rfl, hp, q⟩ := h
  obtain ⟨u, rfl, rx⟩ := vals1 r
  obtain rfl : u = .ref p := rx
  obtain ⟨z, hd, ys, rel, dd⟩ := dt_rd I.hok hp
  have hl : kvs.length = ys.length := Paired.length rel
  refine PySem.call_len_dictH hd dd (by rw [← hl]; rw [sizeLine_eq] at z; omega) ?_
  rw [← hl]
  exact ⟨.int ((kvs.length : Nat) : Int), H, I.tok _, ⟨_, rfl⟩, q⟩
def rLenA (K : PySem.W.Frag) : List V → Hp → VK → Prop := fun xs H Q => (∃ p ys, xs = [V.ref p] ∧ (SqL K H p ys ∨ SqT K H p ys) ∧ Q (.int ys.length) H) ∨ (∃ z, xs = [.str z] ∧ z.length ≤ sizeLine ∧ Q (.int z.length) H) ∨
  (∃ a kvs, xs = [V.ref a] ∧ Rd H a (.dK kvs) ∧ Q (.int kvs.length) H) ∨ (∃ (p : Addr) (kvs : List (List Key × V)), xs = [V.ref p] ∧ Rd H p (.dT kvs) ∧ Q (.int ((kvs.length : Nat) : Int)) H)
theorem cr_lenA {X : Cx} : CallR X (.builtin "len") (rLenA X.K) := call_len_seq.or (call_len_str.or (cr_lenD.or cr_lenT))
theorem fl_len {mg} {K : PySem.W.Frag} : Flat1 mg (rLenA K) lenD := fun F H x dx d Q sm vx e k => by
  unfold lenD at e
  split at e
  · cases e
    obtain ⟨p, vs, rfl, h, r⟩ := vw_lst sm vx
    exact .inl ⟨p, vs, rfl, .inl (SqL.of h), by rw [r.length]; exact k _ fun _ => .int _⟩
  · cases e
    obtain ⟨p, vs, rfl, h, r⟩ := vw_tup sm vx
    exact .inl ⟨p, vs, rfl, .inr (SqT.of h), by rw [r.length]; exact k _ fun _ => .int _⟩
  · split at e
    · cases e; rw [vw_str vx]; exact .inr (.inl ⟨_, rfl, ‹_›, k _ fun _ => .int _⟩)
    · cases e
  · cases e
    obtain ⟨p, vs, rfl, h, r⟩ := vw_dic sm vx
    exact .inr (.inr (.inl ⟨p, vs, rfl, h, by rw [r.length]; exact k _ fun _ => .int _⟩))
  · cases e
    obtain ⟨p, vs, rfl, h, r⟩ := vw_dit sm vx
    exact .inr (.inr (.inr ⟨p, vs, rfl, h, by rw [r.length]; exact k _ fun _ => .int _⟩))
  · cases e

/-! ### all, any, sum, max, min of a list -/
def asBls : List D → Option (List Bool)
  | [] => some []
  | .bl b :: r => (asBls r).map (b :: ·)
  | _ => none
def asInts : List D → Option (List Int)
  | [] => some []
  | .int b :: r => (asInts r).map (b :: ·)
  | _ => none
def asStrs : List D → Option (List Str)
  | [] => some []
  | .str b :: r => (asStrs r).map (b :: ·)
  | _ => none
theorem asBls_eq : ∀ {ds : List D} {bs : List Bool}, asBls ds = some bs → ds = bs.map D.bl
  | [], _, h => by cases h; rfl
  | .bl b :: r, _, h => by simp only [asBls, Option.map_eq_some_iff] at h; obtain ⟨bs, h1, rfl⟩ := h; rw [asBls_eq h1]; rfl
  | .non :: r, _, h => by cases h
  | .int _ :: r, _, h => by cases h
  | .str _ :: r, _, h => by cases h
  | .lst _ :: r, _, h => by cases h
  | .tup _ :: r, _, h => by cases h
  | .dic _ :: r, _, h => by cases h
  | .dit _ :: r, _, h => by cases h
  | .ins _ _ :: r, _, h => by cases h
theorem asInts_eq : ∀ {ds : List D} {bs : List Int}, asInts ds = some bs → ds = bs.map D.int
  | [], _, h => by cases h; rfl
  | .int b :: r, _, h => by simp only [asInts, Option.map_eq_some_iff] at h; obtain ⟨bs, h1, rfl⟩ := h; rw [asInts_eq h1]; rfl
  | .non :: r, _, h => by cases h
  | .bl _ :: r, _, h => by cases h
  | .str _ :: r, _, h => by cases h
  | .lst _ :: r, _, h => by cases h
  | .tup _ :: r, _, h => by cases h
  | .dic _ :: r, _, h => by cases h
  | .dit _ :: r, _, h => by cases h
  | .ins _ _ :: r, _, h => by cases h
theorem asStrs_eq : ∀ {ds : List D} {bs : List Str}, asStrs ds = some bs → ds = bs.map D.str
  | [], _, h => by cases h; rfl
  | .str b :: r, _, h => by simp only [asStrs, Option.map_eq_some_iff] at h; obtain ⟨bs, h1, rfl⟩ := h; rw [asStrs_eq h1]; rfl
  | .non :: r, _, h => by cases h
  | .bl _ :: r, _, h => by cases h
  | .int _ :: r, _, h => by cases h
  | .lst _ :: r, _, h => by cases h
  | .tup _ :: r, _, h => by cases h
  | .dic _ :: r, _, h => by cases h
  | .dit _ :: r, _, h => by cases h
  | .ins _ _ :: r, _, h => by cases h
theorem asBls_map (bs : List Bool) : asBls (bs.map D.bl) = some bs := by induction bs with | nil => rfl | cons b r ih => simp [asBls, ih]
theorem asInts_map (bs : List Int) : asInts (bs.map D.int) = some bs := by induction bs with | nil => rfl | cons b r ih => simp [asInts, ih]
theorem asStrs_map (bs : List Str) : asStrs (bs.map D.str) = some bs := by induction bs with | nil => rfl | cons b r ih => simp [asStrs, ih]
def allD : D → Option D
  | .lst xs => (asBls xs).map fun bs => .bl (bs.all id)
  | _ => none
def anyD : D → Option D
  | .lst xs => (asBls xs).map fun bs => .bl (bs.any id)
  | _ => none
theorem fl_all {mg} {K : PySem.W.Frag} : Flat1 mg (rAll K) allD := fun F H x dx d Q sm vx e k => by
  unfold allD at e
  split at e
  · simp only [Option.map_eq_some_iff] at e
    obtain ⟨bs, h1, rfl⟩ := e
    obtain ⟨p, vs, rfl, h, r⟩ := vw_lst sm vx
    rw [asBls_eq h1] at r
    exact ⟨p, bs, rfl, by rw [← r.bls]; exact SqL.of h, k _ fun _ => .bl _⟩
  · cases e
theorem fl_any {mg} {K : PySem.W.Frag} : Flat1 mg (rAny K) anyD := fun F H x dx d Q sm vx e k => by
  unfold anyD at e
  split at e
  · simp only [Option.map_eq_some_iff] at e
    obtain ⟨bs, h1, rfl⟩ := e
    obtain ⟨p, vs, rfl, h, r⟩ := vw_lst sm vx
    rw [asBls_eq h1] at r
    exact ⟨p, bs, rfl, by rw [← r.bls]; exact SqL.of h, k _ fun _ => .bl _⟩
  · cases e
def sumD : D → Option D
  | .lst xs => (asInts xs).map fun ns => .int ns.sum
  | _ => none
theorem fl_sum {mg} {K : PySem.W.Frag} : Flat1 mg (rSum K) sumD := fun F H x dx d Q sm vx e k => by
  unfold sumD at e
  split at e
  · simp only [Option.map_eq_some_iff] at e
    obtain ⟨bs, h1, rfl⟩ := e
    obtain ⟨p, vs, rfl, h, r⟩ := vw_lst sm vx
    rw [asInts_eq h1] at r
    exact ⟨p, bs, rfl, by rw [← r.ints]; exact SqL.of h, k _ fun _ => .int _⟩
  · cases e
/-- the greatest, the least of ints -/
def maxI : Int → List Int → Int
  | m, [] => m
  | m, x :: r => maxI (if m < x then x else m) r
def minI : Int → List Int → Int
  | m, [] => m
  | m, x :: r => minI (if x < m then x else m) r
theorem maxI_ge : ∀ (m : Int) (l : List Int), m ≤ maxI m l ∧ ∀ y ∈ l, y ≤ maxI m l
  | m, [] => ⟨Int.le_refl _, fun _ h => nomatch h⟩
  | m, x :: r => by
    obtain ⟨h1, h2⟩ := maxI_ge (if m < x then x else m) r
    unfold maxI
    have h3 : m ≤ (if m < x then x else m) ∧ x ≤ (if m < x then x else m) := by split <;> omega
    exact ⟨by omega, fun y hy => by rcases List.mem_cons.mp hy with e | hy; · subst e; omega
                                    · exact h2 y hy⟩
theorem maxI_mem : ∀ (m : Int) (l : List Int), maxI m l = m ∨ maxI m l ∈ l
  | m, [] => .inl rfl
  | m, x :: r => by
    unfold maxI
    rcases maxI_mem (if m < x then x else m) r with h | h
    · rw [h]; split
      · exact .inr List.mem_cons_self
      · exact .inl rfl
    · exact .inr (List.mem_cons_of_mem _ h)
theorem minI_le : ∀ (m : Int) (l : List Int), minI m l ≤ m ∧ ∀ y ∈ l, minI m l ≤ y
  | m, [] => ⟨Int.le_refl _, fun _ h => nomatch h⟩
  | m, x :: r => by
    obtain ⟨h1, h2⟩ := minI_le (if x < m then x else m) r
    unfold minI
    have h3 : (if x < m then x else m) ≤ m ∧ (if x < m then x else m) ≤ x := by split <;> omega
    exact ⟨by omega, fun y hy => by rcases List.mem_cons.mp hy with e | hy; · subst e; omega
                                    · exact h2 y hy⟩
theorem minI_mem : ∀ (m : Int) (l : List Int), minI m l = m ∨ minI m l ∈ l
  | m, [] => .inl rfl
  | m, x :: r => by
    unfold minI
    rcases minI_mem (if x < m then x else m) r with h | h
    · rw [h]; split
      · exact .inr List.mem_cons_self
      · exact .inl rfl
    · exact .inr (List.mem_cons_of_mem _ h)
def maxL : List Int → Option Int
  | [] => none
  | x :: r => some (maxI x r)
def minL : List Int → Option Int
  | [] => none
  | x :: r => some (minI x r)
def maxD : D → Option D
  | .lst xs => (asInts xs).bind fun ns => (maxL ns).map .int
  | _ => none
def minD : D → Option D
  | .lst xs => (asInts xs).bind fun ns => (minL ns).map .int
  | _ => none
theorem fl_max {mg} {K : PySem.W.Frag} : Flat1 mg (rMax K) maxD := fun F H x dx d Q sm vx e k => by
  unfold maxD at e
  split at e
  · simp only [Option.bind_eq_some_iff, Option.map_eq_some_iff] at e
    obtain ⟨ns, h1, m, h2, rfl⟩ := e
    obtain ⟨p, vs, rfl, h, r⟩ := vw_lst sm vx
    rw [asInts_eq h1] at r
    cases ns with
    | nil => cases h2
    | cons y l =>
      cases h2
      refine ⟨p, y :: l, rfl, by rw [← r.ints]; exact SqL.of h, by simp, fun m hm hle => ?_⟩
      have h5 := maxI_ge y l
      have h6 : m = maxI y l := by
        apply Int.le_antisymm
        · rcases List.mem_cons.mp hm with e | hm
          · rw [e]; exact h5.1
          · exact h5.2 m hm
        · rcases maxI_mem y l with e | e
          · rw [e]; exact hle _ List.mem_cons_self
          · exact hle _ (List.mem_cons_of_mem _ e)
      rw [h6]; exact k _ fun _ => .int _
  · cases e
theorem fl_min {mg} {K : PySem.W.Frag} : Flat1 mg (rMin K) minD := fun F H x dx d Q sm vx e k => by
  unfold minD at e
  split at e
  · simp only [Option.bind_eq_some_iff, Option.map_eq_some_iff] at e
    obtain ⟨ns, h1, m, h2, rfl⟩ := e
    obtain ⟨p, vs, rfl, h, r⟩ := vw_lst sm vx
    rw [asInts_eq h1] at r
    cases ns with
    | nil => cases h2
    | cons y l =>
      cases h2
      refine ⟨p, y :: l, rfl, by rw [← r.ints]; exact SqL.of h, by simp, fun m hm hle => ?_⟩
      have h5 := minI_le y l
      have h6 : m = minI y l := by
        apply Int.le_antisymm
        · rcases minI_mem y l with e | e
          · rw [e]; exact hle _ List.mem_cons_self
          · exact hle _ (List.mem_cons_of_mem _ e)
        · rcases List.mem_cons.mp hm with e | hm
          · rw [e]; exact h5.1
          · exact h5.2 m hm
      rw [h6]; exact k _ fun _ => .int _
  · cases e

/-! ### int, abs, str, list, tuple -/
def intD : D → Option D
  | .int i => some (.int i)
  | .bl b => some (.int (if b then 1 else 0))
  | _ => none
theorem fl_int {mg} : Flat1 mg (fun xs H Q => (∃ i, xs = [.int i] ∧ Q (.int i) H) ∨ ∃ k, xs = [.bl k] ∧ Q (.int (if k then 1 else 0)) H) intD := fun F H x dx d Q sm vx e k => by
  unfold intD at e
  split at e
  · cases e; rw [vw_int vx]; exact .inl ⟨_, rfl, k _ fun _ => .int _⟩
  · cases e; rw [vw_bl vx]; exact .inr ⟨_, rfl, k _ fun _ => .int _⟩
  · cases e
def absD : D → Option D
  | .int i => some (.int (if i < 0 then -i else i))
  | _ => none
theorem fl_abs {mg} : Flat1 mg (fun xs H Q => ∃ i, xs = [.int i] ∧ Q (.int (if i < 0 then -i else i)) H) absD := fun F H x dx d Q sm vx e k => by
  unfold absD at e
  split at e
  · cases e; rw [vw_int vx]; exact ⟨_, rfl, k _ fun _ => .int _⟩
  · cases e
def strD : D → Option D
  | .int i => if i.natAbs.log2 < 1920 then some (.str (toString i)) else none
  | .str x => some (.str x)
  | _ => none
def listD : D → Option Sl
  | .lst xs => some (.lst xs)
  | .tup xs => some (.lst xs)
  | .dic kvs => some (.lst (kvs.map fun kv => match kv.1 with | .inl i => .int i | .inr x => .str x))
  | _ => none
theorem keys_rep {mg : Str → Option Value} {F : Hp} : ∀ {ws : List (Key × V)} {kvs : List (Key × D)}, RepA mg F ws kvs → RepL mg F (ws.map fun kv => kV kv.1) (kvs.map fun kv => match kv.1 with | .inl i => .int i | .inr x => .str x)
  | _, _, .nil => .nil
  | _, _, .cons (k := .inl i) a r => .cons (.int i) (keys_rep r)
  | _, _, .cons (k := .inr i) a r => .cons (.str i) (keys_rep r)
def rListA (K : PySem.W.Frag) : List V → Hp → VK → Prop := fun xs H Q => (∃ p ys, xs = [.ref p] ∧ (SqL K H p ys ∨ SqT K H p ys) ∧ ∀ l, H l = none → Q (.ref l) (upd H l (.lst ys))) ∨
  (∃ (a : Addr) (kvs : List (Key × V)), xs = [.ref a] ∧ Rd H a (.dK kvs) ∧ ∀ p, H p = none → Q (.ref p) (upd H p (.lst (kvs.map fun kv => kV kv.1))))
theorem cr_listA {X : Cx} (hc : X.calm = true) : CallR X (.type "list") (rListA X.K) := call_list_of.or (call_listD hc)
theorem fl_list {mg} {K : PySem.W.Frag} : New1 mg (rListA K) listD := fun F H x dx s Q sm vx e k => by
  unfold listD at e
  split at e
  · cases e
    obtain ⟨p, vs, rfl, h, r⟩ := vw_lst sm vx
    exact .inl ⟨p, vs, rfl, .inl (SqL.of h), fun l hl => k _ _ ⟨l, vs, rfl, hl, rfl, r⟩⟩
  · cases e
    obtain ⟨p, vs, rfl, h, r⟩ := vw_tup sm vx
    exact .inl ⟨p, vs, rfl, .inr (SqT.of h), fun l hl => k _ _ ⟨l, vs, rfl, hl, rfl, r⟩⟩
  · cases e
    obtain ⟨p, vs, rfl, h, r⟩ := vw_dic sm vx
    exact .inr ⟨p, vs, rfl, h, fun l hl => k _ _ ⟨l, _, rfl, hl, rfl, keys_rep r⟩⟩
  · cases e
def tupleD : D → Option Sl
  | .lst xs => some (.val (.tup xs))
  | .tup xs => some (.val (.tup xs))
  | _ => none
end HU
set_option maxRecDepth 100000
namespace HU
open PySem PySem.Spec L2
/-! ### statements -/
/-- slot i takes s; an own object of an argument is never lost -/
def setSl (n i : Nat) (s : Sl) (env : List Sl) : Option (List Sl) := if i < env.length ∧ (i < n → s.own = false ∧ (env[i]?.any Sl.own) = false) then some (env.set i s) else none
def sNext : Ms := fun env => some (.next env)
def sSeq (m k : Ms) : Ms := fun env => match m env with
  | some (.next e) => k e
  | o => o
def sAsg (n i : Nat) (m : Mr Sl) : Ms := fun env => (m env).bind fun r => (setSl n i r.1 r.2).map .next
def sRet (m : Mr Sl) : Ms := fun env => (m env).map fun r => .ret r.1 r.2
def sIf (c : Mr Bool) (t u : Ms) : Ms := fun env => (c env).bind fun r => if r.1 = true then t r.2 else u r.2
def sDrop {α : Type} (m : Mr α) : Ms := fun env => (m env).map fun r => .next r.2
def sFail : Ms := fun _ => none

section
variable {X : Cx} {n : Nat} {st : Stmt} {sts : List Stmt} {e : Expr} {pos : Pos}
theorem sss_nil : SSs X n [] sNext := ⟨fun a ha hn => pss_nil.w fun D σ H ⟨env, F, r, q⟩ => q σ F H (Same.refl F) r⟩
theorem sss_cons {m k : Ms} (h : SS X n st m) (hk : SSs X n sts k) : SSs X n (st :: sts) (sSeq m k) := ⟨fun a ha hn => (pss_cons (h.run a ha hn) (hk.run a ha hn)).w fun D σ H ⟨env, F, r, q⟩ => by
  refine ⟨env, F, r, ?_⟩
  unfold sSeq at q
  cases h1 : m env with
  | none => rw [h1] at q; exact q
  | some o =>
    rw [h1] at q
    cases o with
    | next e =>
      refine fun σ' F' H' s' r' => ⟨e, F', r', ?_⟩
      show match k e with | some (.next e) => _ | some (.brk e) => _ | some (.cnt e) => _ | some (.ret r e) => _ | none => _
      cases h2 : k e with
      | none => simp only [h2] at q
      | some o2 =>
        simp only [h2] at q
        cases o2 with
        | next e2 => exact fun σ2 F2 H2 s2 r2 => q σ2 F2 H2 (s'.trans s2) r2
        | brk e2 => exact fun σ2 F2 H2 s2 r2 => q σ2 F2 H2 (s'.trans s2) r2
        | cnt e2 => exact fun σ2 F2 H2 s2 r2 => q σ2 F2 H2 (s'.trans s2) r2
        | ret v e2 => exact fun v σ2 F2 H2 s2 h r2 => q v σ2 F2 H2 (s'.trans s2) h r2
    | brk e => exact q
    | cnt e => exact q
    | ret v e => exact q⟩
theorem ss_pass : SS X n (.Pass pos) sNext := ⟨fun a ha hn => ps_pass.w fun D σ H ⟨env, F, r, q⟩ => q σ F H (Same.refl F) r⟩
theorem ss_break : SS X n (.Break pos) (fun env => some (.brk env)) := ⟨fun a ha hn => ps_break.w fun D σ H ⟨env, F, r, q⟩ => q σ F H (Same.refl F) r⟩
theorem ss_never : SS X n st sFail := ⟨fun a ha hn => ps_never.w fun D σ H ⟨env, F, r, q⟩ => q⟩
/-- slot i takes what was made -/
theorem RX.store {a : Ax} {env env2 : List Sl} {σ : L2.St} {F H : Hp} {s : Sl} {v : V} {i : Nat} (r : RX a (env ++ [s]) (σ ++ [some v]) F H) (hn : a.n ≤ env.length) (e : setSl a.n i s env = some env2) : RX a env2 (σ.set i (some v)) F H := by
  unfold setSl at e
  split at e
  · rename_i hc
    cases e
    obtain ⟨ow, r⟩ := r
    have hl : env.length = σ.length := by have := r.ln; simpa using this
    obtain ⟨o, ho, q⟩ := r.at (i := env.length) get_snoc
    rw [hl, get_snoc] at ho
    cases ho
    have r1 : R a (env.set i s ++ [.none]) (σ.set i (some v) ++ [some v]) F H (setOw (setOw ow i (ow env.length)) env.length []) := by
      have hw := r.wipe1 (i := env.length) (by simp) (some v)
      have e1 : (env ++ [s]).set env.length .none = env ++ [.none] := by simp
      have e2 : (σ ++ [some v]).set env.length (some v) = σ ++ [some v] := by rw [hl]; simp
      rw [e1, e2] at hw
      have hp := hw.put (i := i) (s := s) (o := some v) (ps := ow env.length) (by simp; omega) q (r.on _) (fun p hp => ?_) (fun p hp j hj hm => ?_) (fun p hp => r.ob _ p hp) (fun hi ho v' hv => ?_)
      · have e3 : (env ++ [Sl.none]).set i s = env.set i s ++ [.none] := by rw [List.set_append]; simp [hc.1]
        have e4 : (σ ++ [some v]).set i (some v) = σ.set i (some v) ++ [some v] := by rw [List.set_append]; simp [show i < σ.length by omega]
        rw [e3, e4] at hp
        have e5 : setOw (setOw ow env.length []) i (ow env.length) = setOw (setOw ow i (ow env.length)) env.length [] := by
          funext j; unfold setOw
          by_cases z : j = env.length
          · have : ¬ j = i := by omega
            simp [z]; omega
          · simp [z]
        rw [e5] at hp
        exact hp
      · obtain ⟨x, y, w⟩ := r.of _ p hp
        exact ⟨x, y, fun _ => w hn⟩
      · by_cases z : j = env.length
        · subst z; rw [setOw_same] at hm; simp at hm
        · rw [setOw_ne z] at hm; exact z (r.oi j env.length p hm hp)
      · rw [(hc.2 hi).1] at ho; cases ho
    exact RX.init ⟨_, r1⟩ (by simpa using hn)
  · cases e
theorem ss_set {i : Nat} {x : Str} {m : Mr Sl} {pos' : Pos} (h : SF X n e m) (hN : X.N.Nodup) (hi : X.N[i]? = some x) (hx : Loc X.env.scope x) (hf : X.fn x = true ∨ X.env.scope.names.lookup x = some .local := by first | exact .inl rfl | exact .inr rfl | assumption)
    (hs : swapsWith e (some (.Name x pos')) pos.line X.env = pure false := by rfl) : SS X n (.Assign [.Name x pos'] e pos) (sAsg n i m) := ⟨fun a ha hn => (ps_set hN hi hx (h.run a ha hn) hs hf).w fun D σ H ⟨env, F, r, q⟩ => by
  unfold sAsg at q
  cases h1 : m env with
  | none => rw [h1] at q; exact q.elim
  | some z =>
    obtain ⟨s, e1⟩ := z
    rw [h1] at q
    simp only [Option.bind_some] at q
    cases h2 : setSl n i s e1 with
    | none => rw [h2] at q; exact q.elim
    | some e2 =>
      rw [h2] at q
      exact ⟨env, F, s, e1, r, h1, fun v F' H' s' hn' r' => q _ F' H' s' (r'.store hn' (by rw [hn]; exact h2))⟩⟩
theorem ss_ret {m : Mr Sl} (h : SF X n e m) : SS X n (.Return (some e) pos) (sRet m) := ⟨fun a ha hn => (ps_ret (h.run a ha hn)).w fun D σ H ⟨env, F, r, q⟩ => by
  unfold sRet at q
  cases h1 : m env with
  | none => rw [h1] at q; exact q.elim
  | some z =>
    rw [h1] at q
    exact ⟨env, F, z.1, z.2, r, h1, fun v F' H' s' hn' r' => q v σ F' H' s' hn' r'⟩⟩
theorem ss_expr {m : Mr D} (h : SE X n e m) (hs : swapsWith e none pos.line X.env = pure false := by rfl) : SS X n (.Expr e pos) (sDrop m) := ⟨fun a ha hn => (ps_expr (h.run a ha hn) hs).w fun D σ H ⟨env, F, r, q⟩ => by
  unfold sDrop at q
  cases h1 : m env with
  | none => rw [h1] at q; exact q.elim
  | some z =>
    rw [h1] at q
    exact ⟨env, F, z.1, z.2, r, h1, fun v F' H' s' r' _ => q σ F' H' s' r'⟩⟩
theorem ss_if {c : Expr} {t u : List Stmt} {mc : Mr Bool} {mt mu : Ms} (hc : ST X n c mc) (ht : SSs X n t mt) (hu : SSs X n u mu) : SS X n (.If c t u pos) (sIf mc mt mu) := ⟨fun a ha hn => (ps_if (hc.run a ha hn) (ht.run a ha hn) (hu.run a ha hn)).w fun D σ H ⟨env, F, r, q⟩ => by
  unfold sIf at q
  cases h1 : mc env with
  | none => rw [h1] at q; exact q.elim
  | some z =>
    obtain ⟨b, e1⟩ := z
    rw [h1] at q
    simp only [Option.bind_some] at q
    refine ⟨env, F, b, e1, r, h1, fun F' H' s' r' => ?_⟩
    have fin : ∀ m : Ms, (match m e1 with
        | some (.next e) => ∀ σ' F' H', Same F F' → RX a e σ' F' H' → D.nx σ' H'
        | some (.brk e) => ∀ σ' F' H', Same F F' → RX a e σ' F' H' → D.bk σ' H'
        | some (.cnt e) => ∀ σ' F' H', Same F F' → RX a e σ' F' H' → D.ct σ' H'
        | some (.ret r e) => ∀ v σ' F' H', Same F F' → a.n ≤ e.length → RX a (e ++ [r]) (σ' ++ [some v]) F' H' → D.rt v H'
        | none => False) → rdS a m D σ H' := fun m q => by
      refine ⟨e1, F', r', ?_⟩
      cases h2 : m e1 with
      | none => rw [h2] at q; exact q.elim
      | some o2 =>
        rw [h2] at q
        cases o2 with
        | next e2 => exact fun σ2 F2 H2 s2 r2 => q σ2 F2 H2 (s'.trans s2) r2
        | brk e2 => exact fun σ2 F2 H2 s2 r2 => q σ2 F2 H2 (s'.trans s2) r2
        | cnt e2 => exact fun σ2 F2 H2 s2 r2 => q σ2 F2 H2 (s'.trans s2) r2
        | ret v e2 => exact fun v σ2 F2 H2 s2 h r2 => q v σ2 F2 H2 (s'.trans s2) h r2
    cases b with
    | true => exact fin mt q
    | false => exact fin mu q⟩
end

/-! ### functions -/
/-- a def: what it is handed, what it hands back and how its arguments' own objects stand then -/
abbrev Fn := List Sl → Option (Sl × List Sl)
def Sl.keep (s : Sl) : Sl := if s.own = true then s else .none
/-- a body: k names beside the parameters -/
def runB (k : Nat) (m : Ms) : Fn := fun sls => match m (sls ++ List.replicate k .none) with
  | some (.next e) => some (.val .non, (e.take sls.length).map Sl.keep)
  | some (.ret r e) => some (r, (e.take sls.length).map Sl.keep)
  | _ => none
/-- the promise: where f gives something, so does the def -/
def spF (mg : Str → Option Value) (n : Nat) (f : Fn) : Sp := fun vs H Q _ => ∃ F G sls r sls', vs.length = n ∧ sls.length = n ∧ RX ⟨mg, n, F, G, H, vs, fun _ => none⟩ sls (vs.map some) F H ∧ f sls = some (r, sls') ∧
  ∀ v F' H', Same F F' → sls'.length = n → RX ⟨mg, n, F, G, H, vs, fun _ => none⟩ (sls' ++ [r]) (vs.map some ++ [some v]) F' H' → Q v H'
theorem replace_getElem? {α : Type} {l : List α} {i : Nat} {x : α} (h : l[i]? = some x) : i < l.length := (List.getElem?_eq_some_iff.mp h).1
/-- the end of a body -/
theorem RX.exit {a : Ax} {e : List Sl} {r : Sl} {σ : L2.St} {v : V} {F H : Hp} (h : RX a (e ++ [r]) (σ ++ [some v]) F H) (hn : a.n ≤ e.length) (hv : a.vs.length = a.n) :
    RX a ((e.take a.n).map Sl.keep ++ [r]) (a.vs.map some ++ [some v]) F H := by
  obtain ⟨ow, h⟩ := h
  have hl : e.length = σ.length := by have := h.ln; simpa using this
  have ht : (e.take a.n).length = a.n := by simp; omega
  refine ⟨fun i => if i < a.n then (if ((e[i]?).any Sl.own) = true then ow i else []) else if i = a.n then ow e.length else [], ⟨by simp [hv, ht]; omega, by simp; omega, h.fh, h.gh, h.ff, h.nw, h.dm, fun i s es => ?_, fun i hi => ?_, fun i j p h1 h2 => ?_, fun i => ?_, fun i p h1 => ?_, h.bh, h.bf, fun i p h1 => ?_, fun i s v' hi es ho ev => ?_⟩⟩
  · by_cases hi : i < a.n
    · rw [List.getElem?_append_left (by simp; omega), List.getElem?_map, List.getElem?_take_of_lt hi] at es
      cases q : e[i]? with
      | none => rw [q] at es; cases es
      | some s0 =>
        rw [q] at es
        cases es
        simp only [hi, if_true]
        unfold Sl.keep
        by_cases hw : s0.own = true
        · simp only [hw, if_true, Option.any_some]
          have q2 : (e ++ [r])[i]? = some s0 := by rw [List.getElem?_append_left (by omega)]; exact q
          have vi : a.vs[i]? = some (a.vs[i]'(by omega)) := by simp
          have p1 := h.pr i s0 _ hi q2 hw vi
          have sl := h.sl i s0 q2
          rw [p1] at sl
          rw [List.getElem?_append_left (by simp; omega), List.getElem?_map, vi]
          exact sl
        · simp only [hw, Option.any_some]
          rfl
    · have z : i = a.n := by have := replace_getElem? es; simp at this; omega
      subst z
      have e1 : ((e.take a.n).map Sl.keep ++ [r])[a.n]? = some r := by
        have z := get_snoc (l := (e.take a.n).map Sl.keep) (x := r)
        rwa [show ((e.take a.n).map Sl.keep).length = a.n by simp; omega] at z
      rw [e1] at es; cases es
      have q := h.sl e.length r get_snoc
      rw [hl, get_snoc] at q
      simp only [Nat.lt_irrefl, if_false, if_true]
      have e2 : (a.vs.map some ++ [some v])[a.n]? = some (some v) := by
        have z := get_snoc (l := a.vs.map some) (x := some v)
        rwa [show (a.vs.map some).length = a.n by simp; omega] at z
      rw [e2, hl]
      exact q
  · simp at hi
    have h1 : ¬ i < a.n := by omega
    have h2 : ¬ i = a.n := by omega
    simp [h1, h2]
  · have key : ∀ i, p ∈ (if i < a.n then (if ((e[i]?).any Sl.own) = true then ow i else []) else if i = a.n then ow e.length else []) → (i < a.n ∧ p ∈ ow i) ∨ (i = a.n ∧ p ∈ ow e.length) := fun i hp => by
      split at hp
      · split at hp
        · exact .inl ⟨‹_›, hp⟩
        · simp at hp
      · split at hp
        · exact .inr ⟨‹_›, hp⟩
        · simp at hp
    rcases key i h1 with ⟨a1, b1⟩ | ⟨a1, b1⟩ <;> rcases key j h2 with ⟨a2, b2⟩ | ⟨a2, b2⟩
    · exact h.oi i j p b1 b2
    · have := h.oi _ _ p b1 b2; omega
    · have := h.oi _ _ p b1 b2; omega
    · omega
  · split
    · split
      · exact h.on i
      · exact List.nodup_nil
    · split
      · exact h.on _
      · exact List.nodup_nil
  · split at h1
    · split at h1
      · have := h.of i p h1; exact ⟨this.1, this.2.1, fun z => by omega⟩
      · simp at h1
    · split at h1
      · have := h.of _ p h1; exact ⟨this.1, this.2.1, fun _ => this.2.2 hn⟩
      · simp at h1
  · split at h1
    · split at h1
      · exact h.ob i p h1
      · simp at h1
    · split at h1
      · exact h.ob _ p h1
      · simp at h1
  · rw [List.getElem?_append_left (by simp; omega), List.getElem?_map, ev]; rfl
/-- THE RULE for a def -/
theorem okF {P : Program} {w : World} {K : PySem.W.Frag} {mg : Str → Option Value} {base : Heap} {x qual : Str} {st : Stmt} {f : Addr} {fd : FuncData} {N ps : List Str} {k : Nat} {m : Ms} (F : Fun K x qual st f fd) (S : FnScope N ps (defScope st))
    (h : ∀ (cdv : Value) (A : Around) (outer : List Env) (s : Shared) (H : Hp) (E : XK), Room k (A.deeper (PyProof.Rows.envOfC qual (defScope st) s.heap.objs.size f cdv)) → SSs (cxOf CX0 P w K mg base N qual (defScope st) f cdv A outer s H E).nox ps.length (defBody st) m) :
    FnOk P w K mg base CX0 (k + 1) f fd ps (spF mg ps.length (runB (N.length - ps.length) m)) := by
  refine F.ok S (fun vs H Q E h => ?_) (fun cdv A outer s H vs Q E hr h' => ?_)
  · obtain ⟨_, _, _, _, _, h1, _⟩ := h; exact h1
  · obtain ⟨F0, G, sls, r, sls', h1, h2, h3, h4, h5⟩ := h'
    have ht := (h cdv A outer s H E hr).run ⟨mg, ps.length, F0, G, H, vs, fun _ => none⟩ rfl rfl
    refine ⟨_, ht, sls ++ List.replicate (N.length - ps.length) .none, F0, ?_, ?_⟩
    · obtain ⟨ow, h3⟩ := h3
      have e0 : L2.start N vs = vs.map some ++ List.replicate (N.length - ps.length) none := by unfold L2.start; rw [h1]
      rw [e0]
      refine ⟨ow, ⟨by simp [h1, h2], by simp [h2], h3.fh, h3.gh, h3.ff, h3.nw, h3.dm, fun i s' e => ?_, fun i hi => h3.oz i (by simp at hi; omega), h3.oi, h3.on, h3.of, h3.bh, h3.bf, h3.ob, fun i s' v hi e ho ev => ?_⟩⟩
      · by_cases hi : i < sls.length
        · rw [List.getElem?_append_left hi] at e
          rw [List.getElem?_append_left (by simp; omega)]
          exact h3.sl i s' e
        · rw [List.getElem?_append_right (by omega), List.getElem?_replicate] at e
          split at e
          · cases e; exact h3.oz i (by omega)
          · cases e
      · by_cases hi' : i < sls.length
        · rw [List.getElem?_append_left hi'] at e
          rw [List.getElem?_append_left (by simp; omega)]
          exact h3.pr i s' v hi e ho ev
        · exact absurd hi (by show ¬ i < ps.length; omega)
    · unfold runB at h4
      rw [h2] at h4
      cases q : m (sls ++ List.replicate (N.length - ps.length) .none) with
      | none => rw [q] at h4; cases h4
      | some o =>
        rw [q] at h4
        cases o with
        | next e =>
          cases h4
          intro σ' F' H' s' r'
          have nl : ps.length ≤ e.length := by obtain ⟨_, r'⟩ := r'; exact r'.nl
          exact h5 .non F' H' s' (by simp; omega) (RX.exit (r'.snocV .non) nl h1)
        | ret v e =>
          cases h4
          intro v σ' F' H' s' hn r'
          have hn' : ps.length ≤ e.length := hn
          exact h5 v F' H' s' (by simp; omega) (RX.exit r' hn h1)
        | brk e => cases h4
        | cnt e => cases h4
end HU
set_option maxRecDepth 100000
namespace HU
open PySem PySem.Spec L2
/-! ### calls -/
/-- an argument: data; slot i's own object, which the callee may change; slot i looked at -/
inductive Ag where
  | v (d : D) | rf (i : Nat) | pk (i : Nat)
def Sl.peek : Sl → Option Sl
  | .val d => some (.val d)
  | .lst xs => some (.pkl xs)
  | .dic kvs => some (.pkd kvs)
  | .dit kvs => some (.pkt kvs)
  | .ins c fs => some (.pki c fs)
  | .pkl xs => some (.pkl xs)
  | .pkd kvs => some (.pkd kvs)
  | .pkt kvs => some (.pkt kvs)
  | .pki c fs => some (.pki c fs)
  | .scr ns => some (.scr ns)
  | _ => .none
def Ag.sl (env : List Sl) : Ag → Option Sl
  | .v d => some (.val d)
  | .rf i => (env[i]?).bind fun s => if s.own = true then some s else none
  | .pk i => (env[i]?).bind Sl.peek
def slsOf (env : List Sl) : List Ag → Option (List Sl)
  | [] => some []
  | g :: gs => (g.sl env).bind fun s => (slsOf env gs).map (s :: ·)
/-- the arguments that the callee may change: their places, their slots -/
def rfs : Nat → List Ag → List (Nat × Nat)
  | _, [] => []
  | k, .rf i :: gs => (k, i) :: rfs (k + 1) gs
  | k, _ :: gs => rfs (k + 1) gs
/-- one at most, and none of them looked at besides -/
def agOk (gs : List Ag) : Bool := decide ((rfs 0 gs).length ≤ 1) && (rfs 0 gs).all fun q => gs.all fun g => match g with
  | .pk i => i != q.2
  | _ => true
/-- the slots behind the call -/
def back (gs : List Ag) (sls' : List Sl) (env : List Sl) : List Sl := match rfs 0 gs with
  | [(k, i)] => env.set i (sls'.getD k .none).keep
  | _ => env
def Sl.res : Sl → Bool
  | .val _ | .lst _ | .dic _ | .dit _ | .ins _ _ | .stm _ => true
  | _ => false
def mCall (f : Fn) (ms : Mr (List Ag)) : Mr Sl := fun env => (ms env).bind fun g => (slsOf g.2 g.1).bind fun sls => if agOk g.1 = true then (f sls).bind fun r => if r.1.res = true then some (r.1, back g.1 r.2 g.2) else none else none
def AgR (mg : Str → Option Value) (F : Hp) (σ : L2.St) : Ag → V → Prop
  | .v d, v => Rep mg F v d
  | .rf i, v => σ[i]? = some (some v)
  | .pk i, v => σ[i]? = some (some v)
inductive AgsR (mg : Str → Option Value) (F : Hp) (σ : L2.St) : List Ag → List V → Prop
  | nil : AgsR mg F σ [] []
  | cons {g : Ag} {v : V} {gs : List Ag} {vs : List V} : AgR mg F σ g v → AgsR mg F σ gs vs → AgsR mg F σ (g :: gs) (v :: vs)
theorem AgR.mono {mg : Str → Option Value} {F F' : Hp} {σ : L2.St} (s : Same F F') : ∀ {g : Ag} {v : V}, AgR mg F σ g v → AgR mg F' σ g v
  | .v d, v, h => Rep.mono s h
  | .rf i, v, h => h
  | .pk i, v, h => h
theorem AgsR.mono {mg : Str → Option Value} {F F' : Hp} {σ : L2.St} (s : Same F F') : ∀ {gs : List Ag} {vs : List V}, AgsR mg F σ gs vs → AgsR mg F' σ gs vs
  | _, _, .nil => .nil
  | _, _, .cons a b => .cons (a.mono s) (b.mono s)
theorem AgsR.length {mg : Str → Option Value} {F : Hp} {σ : L2.St} : ∀ {gs : List Ag} {vs : List V}, AgsR mg F σ gs vs → gs.length = vs.length
  | _, _, .nil => rfl
  | _, _, .cons a b => by simp [b.length]
theorem AgsR.get {mg : Str → Option Value} {F : Hp} {σ : L2.St} : ∀ {gs : List Ag} {vs : List V} {i : Nat} {g : Ag}, AgsR mg F σ gs vs → gs[i]? = some g → ∃ v, vs[i]? = some v ∧ AgR mg F σ g v
  | _, _, _, _, .nil, e => by simp at e
  | _, _, 0, _, .cons a b, e => by simp at e; subst e; exact ⟨_, rfl, a⟩
  | _, _, i + 1, _, .cons a b, e => by
    obtain ⟨v, h1, h2⟩ := AgsR.get (i := i) b (by simpa using e)
    exact ⟨v, by simpa using h1, h2⟩
theorem slsOf_get {env : List Sl} : ∀ {gs : List Ag} {sls : List Sl} {i : Nat} {s : Sl}, slsOf env gs = some sls → sls[i]? = some s → ∃ g, gs[i]? = some g ∧ g.sl env = some s
  | [], _, _, _, e, h => by cases e; simp at h
  | g :: gs, _, i, s, e, h => by
    simp only [slsOf, Option.bind_eq_some_iff, Option.map_eq_some_iff] at e
    obtain ⟨s0, e1, ss, e2, rfl⟩ := e
    cases i with
    | zero => simp at h; subst h; exact ⟨g, rfl, e1⟩
    | succ i =>
      obtain ⟨g', h1, h2⟩ := slsOf_get (i := i) e2 (by simpa using h)
      exact ⟨g', by simpa using h1, h2⟩
theorem slsOf_len {env : List Sl} : ∀ {gs : List Ag} {sls : List Sl}, slsOf env gs = some sls → sls.length = gs.length
  | [], _, e => by cases e; rfl
  | g :: gs, _, e => by
    simp only [slsOf, Option.bind_eq_some_iff, Option.map_eq_some_iff] at e
    obtain ⟨s0, e1, ss, e2, rfl⟩ := e
    simp [slsOf_len e2]
theorem rfs_get : ∀ {gs : List Ag} {k j i : Nat}, gs[j]? = some (.rf i) → (k + j, i) ∈ rfs k gs
  | [], _, _, _, e => by simp at e
  | .rf i' :: gs, k, 0, i, e => by simp at e; subst e; exact List.mem_cons_self
  | .v _ :: gs, k, 0, i, e => by simp at e
  | .pk _ :: gs, k, 0, i, e => by simp at e
  | g :: gs, k, j + 1, i, e => by
    have h := rfs_get (gs := gs) (k := k + 1) (j := j) (i := i) (by simpa using e)
    rw [show k + (j + 1) = k + 1 + j by omega]
    cases g with
    | rf _ => exact List.mem_cons_of_mem _ h
    | v _ => exact h
    | pk _ => exact h
theorem rfs_of : ∀ {gs : List Ag} {k j i : Nat}, (j, i) ∈ rfs k gs → k ≤ j ∧ gs[j - k]? = some (.rf i)
  | [], _, _, _, e => by simp [rfs] at e
  | .rf i' :: gs, k, j, i, e => by
    rcases List.mem_cons.mp e with e | e
    · cases e; exact ⟨Nat.le_refl _, by simp⟩
    · obtain ⟨h1, h2⟩ := rfs_of e
      exact ⟨by omega, by rw [show j - k = (j - (k + 1)) + 1 by omega]; simpa using h2⟩
  | .v _ :: gs, k, j, i, e => by
    obtain ⟨h1, h2⟩ := rfs_of (gs := gs) (k := k + 1) e
    exact ⟨by omega, by rw [show j - k = (j - (k + 1)) + 1 by omega]; simpa using h2⟩
  | .pk _ :: gs, k, j, i, e => by
    obtain ⟨h1, h2⟩ := rfs_of (gs := gs) (k := k + 1) e
    exact ⟨by omega, by rw [show j - k = (j - (k + 1)) + 1 by omega]; simpa using h2⟩
/-- all but some addresses -/
def cut (H : Hp) (ps : List Addr) : Hp := fun x => if x ∈ ps then none else H x
theorem cut_some {H : Hp} {ps : List Addr} {x : Addr} {o : HO} (h : cut H ps x = some o) : H x = some o ∧ x ∉ ps := by
  unfold cut at h
  split at h
  · cases h
  · exact ⟨h, ‹_›⟩
theorem cut_out {H : Hp} {ps : List Addr} {x : Addr} (h : x ∉ ps) : cut H ps x = H x := if_neg h
theorem cut_in {H : Hp} {ps : List Addr} {x : Addr} (h : x ∈ ps) : cut H ps x = none := if_pos h
theorem SlR.peek {mg : Str → Option Value} {G F H : Hp} {s s' : Sl} {o : Option V} {ps : List Addr} {G' : Hp} (r : SlR mg G F H s o ps) (e : s.peek = some s') (sg : Same G G') (hp : ∀ p ∈ ps, G' p = H p) : SlR mg G' F H s' o [] := by
  cases s with
  | none => cases e
  | stm s => cases e
  | val d => cases e; obtain ⟨h1, h2⟩ := r; exact ⟨rfl, h2⟩
  | lst xs => cases e; obtain ⟨p, vs, h1, rfl, h2, h3⟩ := r; exact ⟨rfl, p, vs, h1, (hp p (by simp)).trans h2, h3⟩
  | dic xs => cases e; obtain ⟨p, vs, h1, rfl, h2, h3⟩ := r; exact ⟨rfl, p, vs, h1, (hp p (by simp)).trans h2, h3⟩
  | dit xs => cases e; obtain ⟨p, vs, h1, rfl, h2, h3⟩ := r; exact ⟨rfl, p, vs, h1, (hp p (by simp)).trans h2, h3⟩
  | ins c fs => cases e; obtain ⟨p, C, dx, vs, h1, rfl, hm, h2, h3⟩ := r; exact ⟨rfl, p, C, dx, vs, h1, hm, (hp p (by simp)).trans h2, h3⟩
  | pkl xs => cases e; obtain ⟨h0, p, vs, h1, h2, h3⟩ := r; exact ⟨rfl, p, vs, h1, sg _ _ h2, h3⟩
  | pkd xs => cases e; obtain ⟨h0, p, vs, h1, h2, h3⟩ := r; exact ⟨rfl, p, vs, h1, sg _ _ h2, h3⟩
  | pkt xs => cases e; obtain ⟨h0, p, vs, h1, h2, h3⟩ := r; exact ⟨rfl, p, vs, h1, sg _ _ h2, h3⟩
  | pki c fs => cases e; obtain ⟨h0, p, C, dx, vs, h1, hm, h2, h3⟩ := r; exact ⟨rfl, p, C, dx, vs, h1, hm, sg _ _ h2, h3⟩
  | scr ns => cases e; obtain ⟨h0, p, od, h1, h2⟩ := r; exact ⟨rfl, p, od, h1, sg _ _ h2⟩
theorem peek_own {s s' : Sl} (e : s.peek = some s') : s'.own = false := by
  cases s <;> first | (cases e; rfl) | cases e
theorem joined {σ : L2.St} {i : Nat} {v : V} (h : σ[i]? = some (some v)) : (σ[i]?).join = some v := by rw [h] <;> rfl
theorem SlR.free {mg : Str → Option Value} {G G' F H : Hp} {s : Sl} {o : Option V} {ps : List Addr} (r : SlR mg G F H s o ps) (h : s.own = true ∨ s.res = true ∨ s = .none) : SlR mg G' F H s o ps := by
  cases s <;> first | exact r | (rcases h with h | h | h <;> first | exact (Bool.false_ne_true h).elim | cases h)
section
variable {a : Ax} {env : List Sl} {σ : L2.St} {F H F' H' : Hp} {ow : Nat → List Addr}
/-- behind something that may have changed the objects at ps alone, which no slot holds -/
theorem R.after (r : R a env σ F H ow) {ps : List Addr} (hps : ∀ i p, p ∈ ow i → p ∉ ps) (hG : ∀ p ∈ ps, a.G p = none) (hB : ∀ p ∈ ps, a.bar p = none) (sF : Same F F') (fh : Same F' H') (gh : Same (cut H ps) H')
    (nw : ∀ x o, F' x = some o → F x = some o ∨ H x = none ∨ ∃ ys, o = .tup ys) (dm : ∀ x, H' x = none → H x = none) : R a env σ F' H' ow := by
  have hk : ∀ i p, p ∈ ow i → H' p = H p := fun i p hp => by
    obtain ⟨x, e, _⟩ := r.trk hp
    rw [e]
    exact gh p x (by rw [cut_out (hps i p hp)]; exact e)
  refine ⟨r.ln, r.nl, fh, fun x o e => gh x o (by rw [cut_out]; · exact r.gh x o e
                                                  · intro hx; have := hG x hx; rw [e] at this; cases this), r.ff.trans sF, fun x o e => ?_, fun x e => r.dm x (dm x e), fun i s e => ?_, r.oz, r.oi, r.on, fun i p hp => ⟨?_, (r.of i p hp).2⟩, fun p o b2 => ?_, fun p o b2 => ?_, r.ob, r.pr⟩
  · rcases nw x o e with h | h | h
    · exact r.nw x o h
    · exact .inr (.inl (r.dm x h))
    · exact .inr (.inr h)
  · exact (r.sl i s e).mono sF (Same.refl _) fun p hp => hk i p hp
  · cases q : F' p with
    | none => rfl
    | some o =>
      obtain ⟨x, e, nt⟩ := r.trk hp
      rcases nw p o q with h | h | ⟨ys, h⟩
      · rw [(r.of i p hp).1] at h; cases h
      · rw [h] at e; cases e
      · subst h
        have h1 := fh p _ q
        rw [hk i p hp, e] at h1
        cases h1
        exact absurd rfl (nt ys)
  · exact gh p o (by rw [cut_out]; · exact r.bh p o b2
                     · intro hx; have := hB p hx; rw [b2] at this; cases this)
  · obtain ⟨b1, b4, b3⟩ := r.bf p o b2
    have hn : p ∉ ps := fun hx => by have := hB p hx; rw [b2] at this; cases this
    refine ⟨?_, b4, b3⟩
    cases q : F' p with
    | none => rfl
    | some u =>
      rcases nw p u q with h | h | ⟨ys, h⟩
      · rw [b1] at h; cases h
      · have := r.bh p o b2; rw [h] at this; cases this
      · subst h
        have h1 := fh p _ q
        rw [gh p o (by rw [cut_out hn]; exact r.bh p o b2)] at h1
        cases h1
        exact absurd rfl (b3 ys)
/-- .. with something new handed back -/
theorem R.answer (r : R a env σ F H ow) {rr : Sl} {v : V} {qs : List Addr} {G : Hp} (q : SlR a.mg G F H rr (some v) qs) (hr : rr.res = true) (nd : qs.Nodup) (hq : ∀ p ∈ qs, F p = none ∧ a.G p = none ∧ a.H0 p = none ∧ ∀ i, p ∉ ow i) (hb : ∀ p ∈ qs, a.bar p = none) : RX a (env ++ [rr]) (σ ++ [some v]) F H :=
  r.snoc (q.free (.inr (.inl hr))) nd (fun p hp => ⟨(hq p hp).1, (hq p hp).2.1, (hq p hp).2.2.1⟩) (fun p hp j => (hq p hp).2.2.2 j) hb
end
/-- at a call: what the callee sees, and the caller's state behind it -/
theorem R.call {a : Ax} {env : List Sl} {σ : L2.St} {F H : Hp} {ow : Nat → List Addr} (r : R a env σ F H ow) {gs : List Ag} {vs : List V} {sls : List Sl} (ag : AgsR a.mg F σ gs vs) (hs : slsOf env gs = some sls) (hok : agOk gs = true) :
    ∃ G, RX ⟨a.mg, gs.length, F, G, H, vs, fun _ => none⟩ sls (vs.map some) F H ∧ ∀ sls' rr v F' H', rr.res = true → Same F F' → sls'.length = gs.length → RX ⟨a.mg, gs.length, F, G, H, vs, fun _ => none⟩ (sls' ++ [rr]) (vs.map some ++ [some v]) F' H' →
      RX a (back gs sls' env ++ [rr]) (σ ++ [some v]) F' H' := by
  unfold agOk at hok
  simp only [Bool.and_eq_true, decide_eq_true_eq] at hok
  obtain ⟨h1, hpk⟩ := hok
  -- the addresses that the callee may change
  obtain ⟨ps, owC, hps, hC⟩ : ∃ (ps : List Addr) (owC : Nat → List Addr), (∀ (j i : Nat), gs[j]? = some (Ag.rf i) → owC j = ow i ∧ ps = ow i) ∧ ((∀ j : Nat, (∀ i : Nat, gs[j]? ≠ some (Ag.rf i)) → owC j = []) ∧ ((∀ j i : Nat, gs[j]? ≠ some (Ag.rf i)) → ps = [])) := by
    cases q : rfs 0 gs with
    | nil =>
      refine ⟨[], fun _ => [], fun j i e => ?_, fun _ _ => rfl, fun _ => rfl⟩
      have := rfs_get (k := 0) e
      rw [q] at this; simp at this
    | cons z zs =>
      obtain ⟨k, i⟩ := z
      have hz : zs = [] := by rw [q] at h1; simp at h1; exact h1
      subst hz
      have hki : gs[k]? = some (Ag.rf i) := by
        have := (rfs_of (gs := gs) (k := 0) (j := k) (i := i) (by rw [q]; simp)).2
        simpa using this
      refine ⟨ow i, fun j => if j = k then ow i else [], fun j i' e => ?_, fun j e => ?_, fun e => ?_⟩
      · have := rfs_get (k := 0) e
        rw [q] at this
        simp at this
        obtain ⟨rfl, rfl⟩ := this
        simp
      · by_cases hj : j = k
        · subst hj
          exact absurd hki (e i)
        · simp [hj]
      · exact absurd hki (e k i)
  have hpsow : ∀ p ∈ ps, ∃ i, p ∈ ow i ∧ ∃ j : Nat, gs[j]? = some (Ag.rf i) := fun p hp => by
    by_cases z : ∃ (j i : Nat), gs[j]? = some (Ag.rf i)
    · obtain ⟨j, i, e⟩ := z
      exact ⟨i, by rw [← (hps j i e).2]; exact hp, j, e⟩
    · have := hC.2 fun j i e => z ⟨j, i, e⟩
      rw [this] at hp; simp at hp
  have hgl : gs.length = vs.length := ag.length
  have hsl : sls.length = gs.length := slsOf_len hs
  have hGps : ∀ p ∈ ps, a.G p = none := fun p hp => by obtain ⟨i, hi, _⟩ := hpsow p hp; exact (r.of i p hi).2.1
  have hBps : ∀ p ∈ ps, a.bar p = none := fun p hp => by obtain ⟨i, hi, _⟩ := hpsow p hp; exact r.ob i p hi
  have sGG : Same a.G (cut H ps) := fun x o e => by
    rw [cut_out]
    · exact r.gh x o e
    · intro hx; have := hGps x hx; rw [e] at this; cases this
  have owCm : ∀ j p, p ∈ owC j → ∃ i, gs[j]? = some (Ag.rf i) ∧ p ∈ ow i ∧ ps = ow i := fun j p hp => by
    by_cases z : ∃ i, gs[j]? = some (Ag.rf i)
    · obtain ⟨i, e⟩ := z
      rw [(hps j i e).1] at hp
      exact ⟨i, e, hp, (hps j i e).2⟩
    · rw [hC.1 j fun i e => z ⟨i, e⟩] at hp; simp at hp
  refine ⟨cut H ps, ⟨owC, ⟨by simp [hsl, hgl], by simp [hsl], r.fh, fun x o e => (cut_some e).1, Same.refl F, fun x o e => .inl e, fun x e => e, fun j s e => ?_, fun j hj => ?_, fun j j2 p h2 h3 => ?_, fun j => ?_, fun j p hp => ?_, (fun _ _ z => nomatch z), (fun _ _ z => nomatch z), (fun _ _ _ => rfl), fun j s v hj e ho ev => ?_⟩⟩, ?_⟩
  · obtain ⟨g, hg, hgs⟩ := slsOf_get hs e
    obtain ⟨v, hv, av⟩ := ag.get hg
    have e2 : ((vs.map some)[j]?).join = some v := by rw [List.getElem?_map, hv]; rfl
    rw [e2]
    cases g with
    | v d =>
      cases hgs
      rw [hC.1 j (fun i e => by rw [hg] at e; cases e)]
      exact ⟨rfl, v, rfl, av⟩
    | rf i =>
      rw [(hps j i hg).1]
      simp only [Ag.sl, Option.bind_eq_some_iff] at hgs
      obtain ⟨s0, h4, h5⟩ := hgs
      split at h5
      · cases h5
        have q := r.sl i s h4
        rw [joined av] at q
        exact q.mono (Same.refl F) sGG fun p hp => rfl
      · cases h5
    | pk i =>
      rw [hC.1 j (fun i e => by rw [hg] at e; cases e)]
      simp only [Ag.sl, Option.bind_eq_some_iff] at hgs
      obtain ⟨s0, h4, h5⟩ := hgs
      have q := r.sl i s0 h4
      rw [joined av] at q
      refine q.peek h5 sGG fun p hp => cut_out fun hx => ?_
      obtain ⟨i2, hi2, j2, e2⟩ := hpsow p hx
      have z := r.oi i i2 p hp hi2
      subst z
      have hm := rfs_get (k := 0) e2
      have h6 := (List.all_eq_true.mp ((List.all_eq_true.mp hpk) _ hm)) _ (List.mem_of_getElem? hg)
      simp at h6
  · by_cases z : ∃ i, gs[j]? = some (Ag.rf i)
    · obtain ⟨i, e⟩ := z
      have := replace_getElem? e
      omega
    · exact hC.1 j fun i e => z ⟨i, e⟩
  · obtain ⟨i, e1, m1, e2⟩ := owCm j p h2
    obtain ⟨i2, e3, m2, e4⟩ := owCm j2 p h3
    have q1 := rfs_get (k := 0) e1
    have q2 := rfs_get (k := 0) e3
    match rfs 0 gs, h1, q1, q2 with
    | [(k, i)], _, q1, q2 => simp at q1 q2; omega
  · by_cases z : ∃ i, gs[j]? = some (Ag.rf i)
    · obtain ⟨i, e⟩ := z
      rw [(hps j i e).1]; exact r.on i
    · rw [hC.1 j fun i e => z ⟨i, e⟩]; exact List.nodup_nil
  · obtain ⟨i, e1, m1, e2⟩ := owCm j p hp
    have hj := replace_getElem? e1
    exact ⟨(r.of i p m1).1, cut_in (by rw [e2]; exact m1), fun z => by exact absurd hj (by show ¬ j < gs.length; exact Nat.not_lt.mpr z)⟩
  · rw [List.getElem?_map, show vs[j]? = some v from ev]; rfl
  · intro sls' rr v F' H' hres sF hl' ⟨owC', r'⟩
    have slR := r'.sl gs.length rr (by rw [← hl']; exact get_snoc)
    have e9 : (vs.map some ++ [some v])[gs.length]? = some (some v) := by
      have z := get_snoc (l := vs.map some) (x := some v)
      rwa [show (vs.map some).length = gs.length by simp [hgl]] at z
    rw [e9] at slR
    have hqs : ∀ p ∈ owC' gs.length, F' p = none ∧ H p = none := fun p hp => ⟨(r'.of _ p hp).1, (r'.of _ p hp).2.2 (Nat.le_refl _)⟩
    have hB0 : ∀ p, H p = none → a.bar p = none := fun p hp => by
      cases e : a.bar p with
      | none => rfl
      | some o => have := r.bh p o e; rw [hp] at this; cases this
    have hG0 : ∀ p, H p = none → a.G p = none := fun p hp => by
      cases e : a.G p with
      | none => rfl
      | some o => have := r.gh p o e; rw [hp] at this; cases this
    have fin : ∀ {env2 : List Sl} {ow2 : Nat → List Addr}, R a env2 σ F' H' ow2 → (∀ p ∈ owC' gs.length, ∀ i, p ∉ ow2 i) → RX a (env2 ++ [rr]) (σ ++ [some v]) F' H' := fun {env2 ow2} r2 hd =>
      r2.answer slR hres (r'.on _) (fun p hp => ⟨(hqs p hp).1, hG0 p (hqs p hp).2, r.dm p (hqs p hp).2, hd p hp⟩) fun p hp => hB0 p (hqs p hp).2
    have notow : ∀ p, H p = none → ∀ i, p ∉ ow i := fun p hp i hm => by obtain ⟨x, e, _⟩ := r.trk hm; rw [hp] at e; cases e
    unfold back
    cases q : rfs 0 gs with
    | nil =>
      have hps0 : ps = [] := hC.2 fun j i e => by have := rfs_get (k := 0) e; rw [q] at this; simp at this
      have r2 := r.after (ps := ps) (fun i p hp => by rw [hps0]; simp) hGps hBps sF r'.fh r'.gh r'.nw r'.dm
      exact fin r2 fun p hp i => notow p (hqs p hp).2 i
    | cons z zs =>
      obtain ⟨k, i0⟩ := z
      have hz : zs = [] := by rw [q] at h1; simp at h1; exact h1
      subst hz
      show RX a (env.set i0 (sls'.getD k .none).keep ++ [rr]) (σ ++ [some v]) F' H'
      have hki : gs[k]? = some (Ag.rf i0) := by
        have := (rfs_of (gs := gs) (k := 0) (j := k) (i := i0) (by rw [q]; simp)).2
        simpa using this
      have hpsi : ps = ow i0 := (hps k i0 hki).2
      obtain ⟨vk, hvk, hσ⟩ := ag.get hki
      have hσ : σ[i0]? = some (some vk) := hσ
      have hkl := replace_getElem? hki
      -- slot i0 is an own one
      obtain ⟨s0, hs0, hw0⟩ : ∃ s0, env[i0]? = some s0 ∧ s0.own = true := by
        have e1 : (sls[k]?).isSome := by simp; omega
        obtain ⟨s1, e1⟩ := Option.isSome_iff_exists.mp e1
        obtain ⟨g, hg, hgs⟩ := slsOf_get hs e1
        rw [hki] at hg; cases hg
        simp only [Ag.sl, Option.bind_eq_some_iff] at hgs
        obtain ⟨s0, h4, h5⟩ := hgs
        split at h5
        · exact ⟨s0, h4, ‹_›⟩
        · cases h5
      have hi0 : i0 < env.length := replace_getElem? hs0
      have rw1 := r.wipe1 (i := i0) hi0 (some vk)
      rw [set_self hσ] at rw1
      have r1 := rw1.after (ps := ps) (fun i p hp => by
        by_cases z : i = i0
        · subst z; rw [setOw_same] at hp; simp at hp
        · rw [setOw_ne z] at hp; intro hx; rw [hpsi] at hx; exact z (r.oi i i0 p hp hx)) hGps hBps sF r'.fh r'.gh r'.nw r'.dm
      -- the slot as the callee leaves it
      have hk' : sls'[k]? = some (sls'.getD k .none) := by simp [List.getD, show k < sls'.length by omega]
      have sk := r'.sl k _ (by rw [List.getElem?_append_left (by omega)]; exact hk')
      have ek : ((vs.map some ++ [some v])[k]?).join = some vk := by rw [List.getElem?_append_left (by simp; omega), List.getElem?_map, hvk]; rfl
      rw [ek] at sk
      by_cases hw : (sls'.getD k .none).own = true
      · have hkeep : (sls'.getD k .none).keep = sls'.getD k .none := by unfold Sl.keep; rw [if_pos hw]
        rw [hkeep]
        have hof : ∀ p ∈ owC' k, F' p = none ∧ a.G p = none ∧ (p ∈ ps ∨ H p = none) := fun p hp => by
          have h7 := r'.of k p hp
          have h8 : cut H ps p = none := h7.2.1
          have h9 : p ∈ ps ∨ H p = none := by
            by_cases hx : p ∈ ps
            · exact .inl hx
            · rw [cut_out hx] at h8; exact .inr h8
          refine ⟨h7.1, ?_, h9⟩
          cases e : a.G p with
          | none => rfl
          | some o => have := sGG p o e; rw [h8] at this; cases this
        have r2 := r1.put (i := i0) (s := sls'.getD k .none) (o := some vk) (ps := owC' k) (by simp; exact hi0) (sk.free (.inl hw)) (r'.on k) (fun p hp => ?_) (fun p hp j hj hm => ?_) (fun p hp => (hof p hp).2.2.elim (fun w => hBps p w) (fun w => hB0 p w)) (fun hi ho v' hv' => ?_)
        · rw [set_self hσ] at r2
          have e3 : (env.set i0 .none).set i0 (sls'.getD k .none) = env.set i0 (sls'.getD k .none) := by rw [List.set_set]
          rw [e3] at r2
          refine fin r2 fun p hp i hm => ?_
          by_cases z : i = i0
          · subst z
            rw [setOw_same] at hm
            have := r'.oi k gs.length p hm hp
            omega
          · rw [setOw_ne z, setOw_ne z] at hm
            exact notow p (hqs p hp).2 i hm
        · obtain ⟨x, y, w⟩ := hof p hp
          refine ⟨x, y, fun hn => ?_⟩
          rcases w with w | w
          · rw [hpsi] at w; exact (r.of i0 p w).2.2 hn
          · exact r.dm p w
        · rw [setOw_ne hj] at hm
          obtain ⟨x, y, w⟩ := hof p hp
          rcases w with w | w
          · rw [hpsi] at w; exact hj (r.oi j i0 p hm w)
          · exact notow p w j hm
        · have := r.pr i0 s0 v' hi hs0 hw0 hv'
          rw [hσ] at this
          exact Option.some.inj this
      · have hkeep : (sls'.getD k .none).keep = .none := by unfold Sl.keep; rw [if_neg hw]
        rw [hkeep]
        refine fin r1 fun p hp i hm => ?_
        by_cases z : i = i0
        · subst z; rw [setOw_same] at hm; simp at hm
        · rw [setOw_ne z] at hm
          exact notow p (hqs p hp).2 i hm
end HU
set_option maxRecDepth 100000
namespace HU
open PySem PySem.Spec L2

/-! ### what is walked -/
/-- a turn's item: it stands, or is a new tuple -/
def YR (mg : Str → Option Value) (F H : Hp) (x : V) (H' : Hp) (d : D) : Prop := (H' = H ∧ Rep mg F x d) ∨ ∃ T vs xs, x = .ref T ∧ H T = none ∧ H' = upd H T (.tup vs) ∧ d = .tup xs ∧ RepL mg F vs xs
structure Walks (mg : Str → Option Value) (F : Hp) (J : It) (ds : List D) : Prop where
  goes : ∀ i H, i < ds.length → Same F H → J.go i H
  stops : ∀ H, Same F H → J.stop ds.length H
  yields : ∀ i H x H' d, ds[i]? = some d → Same F H → J.yld i H x H' → YR mg F H x H' d
def rdI (a : Ax) (m : Mr (List D)) : TI := fun σ H R => ∃ env F ds env', RX a env σ F H ∧ m env = some (ds, env') ∧ ∀ J F' H', Same F F' → RX a env' σ F' H' → Walks a.mg F' J ds → R J H'
structure SI (X : Cx) (n : Nat) (tg iter : Expr) (m : Mr (List D)) : Prop where
  run : ∀ a, a.mg = X.mg → a.n = n → PI X tg iter (rdI a m)
theorem RX.yield {a : Ax} {env : List Sl} {σ : L2.St} {F F1 H H' : Hp} {x : V} {d : D} (r : RX a env σ F H) (s : Same F1 F) (y : YR a.mg F1 H x H' d) : ∃ F2, Same F F2 ∧ RX a env σ F2 H' ∧ Rep a.mg F2 x d := by
  rcases y with ⟨rfl, q⟩ | ⟨T, vs, xs, rfl, hT, rfl, rfl, q⟩
  · exact ⟨F, Same.refl F, r, q.mono s⟩
  · obtain ⟨ow, r⟩ := r
    have hF := (r.fresh hT).1
    exact ⟨upd F T (.tup vs), Same.upd hF, ⟨ow, r.frz hT⟩, .tup upd_same (q.mono (s.trans (Same.upd hF)))⟩

/-! ### targets -/
abbrev Bd := D → List Sl → Option (List Sl)
def rdG (a : Ax) (b : Bd) (ts : List Nat) : TG := fun v σ H Q => ∃ env F d env', RX a env σ F H ∧ Rep a.mg F v d ∧ b d env = some env' ∧ ∀ σ', RX a env' σ' F H → (∀ vs : List Nat, (∀ t ∈ ts, t ∈ vs) → wipe σ' vs = wipe σ vs) → Q σ' H
structure SG (X : Cx) (n : Nat) (tg : Expr) (b : Bd) (ts : List Nat) : Prop where
  run : ∀ a, a.mg = X.mg → a.n = n → PG X tg (rdG a b ts)
abbrev Bds := List D → List Sl → Option (List Sl)
def rdGs (a : Ax) (b : Bds) (ts : List Nat) : TGs := fun vs σ H Q => ∃ env F ds env', RX a env σ F H ∧ RepL a.mg F vs ds ∧ b ds env = some env' ∧ ∀ σ', RX a env' σ' F H → (∀ vs : List Nat, (∀ t ∈ ts, t ∈ vs) → wipe σ' vs = wipe σ vs) → Q σ' H
structure SGs (X : Cx) (n : Nat) (tgs : List Expr) (b : Bds) (ts : List Nat) : Prop where
  run : ∀ a, a.mg = X.mg → a.n = n → PGs X tgs (rdGs a b ts)
theorem _root_.L2.PG.w {X : Cx} {e : Expr} {t t' : TG} (h : PG X e t) (w : ∀ v σ H Q, t' v σ H Q → t v σ H Q) : PG X e t' := ⟨fun pins s σ H v u Q I r q => h.run pins s σ H v u Q I r (w _ _ _ _ q)⟩
def bNm (n i : Nat) : Bd := fun d env => setSl n i (.val d) env
theorem wipe_set {σ : L2.St} {i : Nat} {x : Option V} : ∀ {vs : List Nat}, i ∈ vs → wipe (σ.set i x) vs = wipe σ vs
  | [], h => by simp at h
  | v :: vs, h => by
    unfold wipe
    by_cases z : v = i
    · subst z
      by_cases hm : v ∈ vs
      · rw [wipe_set hm]
      · have : ∀ (vs : List Nat), v ∉ vs → wipe (σ.set v x) vs = (wipe σ vs).set v x := fun vs => by
          induction vs with
          | nil => intro _; rfl
          | cons u us ih =>
            intro hu
            simp only [List.mem_cons, not_or] at hu
            unfold wipe
            rw [ih hu.2, List.set_comm _ _ hu.1]
        rw [this vs hm, List.set_set]
    · rw [wipe_set (List.mem_of_ne_of_mem (Ne.symm z) h)]

theorem RX.setV {a : Ax} {env env' : List Sl} {σ : L2.St} {F H : Hp} {i : Nat} {d : D} {v : V} (r : RX a env σ F H) (q : Rep a.mg F v d) (e : setSl a.n i (.val d) env = some env') : RX a env' (σ.set i (some v)) F H := by
  unfold setSl at e
  split at e
  · rename_i hc
    cases e
    obtain ⟨ow, r⟩ := r
    exact ⟨_, r.putV hc.1 q⟩
  · cases e
section
variable {X : Cx} {n : Nat} {pos : Pos}
theorem sg_nm {i : Nat} {x : Str} (h : PG X (.Name x pos) (gName i)) : SG X n (.Name x pos) (bNm n i) [i] := ⟨fun a ha hn => h.w fun v σ H Q ⟨env, F, d, env', r, q, e, k⟩ =>
  k _ (r.setV q (by rw [hn]; exact e)) fun vs hv => wipe_set (hv i (List.mem_singleton.mpr rfl))⟩
def bsNil : Bds := fun ds env => match ds with
  | [] => some env
  | _ => none
def bsCons (b : Bd) (bs : Bds) : Bds := fun ds env => match ds with
  | d :: r => (b d env).bind fun e => bs r e
  | [] => none
theorem sgs_nil : SGs X n [] bsNil [] := ⟨fun a ha hn => ⟨fun pins s σ H vs us Q I rv h => pgs_nil.run pins s σ H vs us Q I rv (by
  obtain ⟨env, F, ds, env', r, q, e, k⟩ := h
  cases q with
  | nil => cases e; exact ⟨rfl, k σ r fun _ _ => rfl⟩
  | cons _ _ => cases e)⟩⟩
theorem sgs_cons {e : Expr} {es : List Expr} {b : Bd} {bs : Bds} {ts us : List Nat} (h1 : SG X n e b ts) (h2 : SGs X n es bs us)
    (hs : (assignEach (e :: es) X.env).map (·.2) = assign e X.env :: (assignEach es X.env).map (·.2) := by rfl) : SGs X n (e :: es) (bsCons b bs) (ts ++ us) := ⟨fun a ha hn => ⟨fun pins s σ H vs us Q I rv h => (pgs_cons (h1.run a ha hn) (h2.run a ha hn) hs).run pins s σ H vs us Q I rv (by
  obtain ⟨env, F, ds, env', r, q, e, k⟩ := h
  cases q with
  | nil => cases e
  | cons q1 q2 =>
    simp only [bsCons, Option.bind_eq_some_iff] at e
    obtain ⟨e1, h3, h4⟩ := e
    refine ⟨_, _, rfl, env, F, _, e1, r, q1, h3, fun σ1 r1 w1 => ⟨e1, F, _, env', r1, q2, h4, fun σ2 r2 w2 => k σ2 r2 fun vs hv => ?_⟩⟩
    rw [w2 vs (fun t ht => hv t (List.mem_append_right _ ht)), w1 vs (fun t ht => hv t (List.mem_append_left _ ht))])⟩⟩
/-- a tuple of just so many -/
def bTup (k : Nat) (bs : Bds) : Bd := fun d env => match d with
  | .tup ds => if ds.length = k then bs ds env else none
  | _ => none
theorem sg_tup {es : List Expr} {j : Nat} {bs : Bds} {ts : List Nat} {k : Nat} (hc : X.calm = true) (h : SGs X n es bs ts) (hk : (assignEach es X.env).length = k := by rfl) (hst : (assignEach es X.env).findIdx? (·.1) = none := by rfl) :
    SG X n (.Tuple es j pos) (bTup k bs) ts := ⟨fun a ha hn => (pg_tup hc (h.run a ha hn) hk hst).w fun v σ H Q ⟨env, F, d, env', r, q, e, kk⟩ => by
  unfold bTup at e
  split at e
  · split at e
    · rename_i hl
      cases q with
      | tup h1 q1 =>
        obtain ⟨ow, r⟩ := r
        exact ⟨_, _, rfl, SqT.of (r.fh _ _ h1), by rw [q1.length]; exact hl, env, F, _, env', ⟨ow, r⟩, q1, e, kk⟩
    · cases e
  · cases e⟩

/-! ### for -/
def forL (b : Bd) (body : Ms) : List D → Ms
  | [] => sNext
  | d :: ds => fun env => (b d env).bind fun e1 => match body e1 with
    | some (.next e) => forL b body ds e
    | some (.cnt e) => forL b body ds e
    | some (.brk e) => some (.next e)
    | some (.ret r e) => some (.ret r e)
    | none => none
def sFor (mi : Mr (List D)) (b : Bd) (body : Ms) : Ms := fun env => (mi env).bind fun r => forL b body r.1 r.2
/-- what is wanted of an outcome -/
def Want (a : Ax) (D : Ends) (F : Hp) : Option Out → Prop
  | some (.next e) => ∀ σ' F' H', Same F F' → RX a e σ' F' H' → D.nx σ' H'
  | some (.brk e) => ∀ σ' F' H', Same F F' → RX a e σ' F' H' → D.bk σ' H'
  | some (.cnt e) => ∀ σ' F' H', Same F F' → RX a e σ' F' H' → D.ct σ' H'
  | some (.ret r e) => ∀ v σ' F' H', Same F F' → a.n ≤ e.length → RX a (e ++ [r]) (σ' ++ [some v]) F' H' → D.rt v H'
  | none => False
theorem rdS_iff {a : Ax} {m : Ms} {D : Ends} {σ : L2.St} {H : Hp} : rdS a m D σ H ↔ ∃ env F, RX a env σ F H ∧ Want a D F (m env) := by
  unfold rdS Want
  constructor
  · intro ⟨env, F, r, q⟩
    refine ⟨env, F, r, ?_⟩
    cases h : m env with
    | none => rw [h] at q; exact q
    | some o => rw [h] at q; cases o <;> exact q
  · intro ⟨env, F, r, q⟩
    refine ⟨env, F, r, ?_⟩
    cases h : m env with
    | none => rw [h] at q; exact q
    | some o => rw [h] at q; cases o <;> exact q
theorem Want.mono {a : Ax} {D : Ends} {F F1 : Hp} {o : Option Out} (h : Want a D F o) (s : Same F F1) : Want a D F1 o := by
  cases o with
  | none => exact h
  | some o =>
    cases o with
    | next e => exact fun σ' F' H' s' r => h σ' F' H' (s.trans s') r
    | brk e => exact fun σ' F' H' s' r => h σ' F' H' (s.trans s') r
    | cnt e => exact fun σ' F' H' s' r => h σ' F' H' (s.trans s') r
    | ret r e => exact fun v σ' F' H' s' hn r => h v σ' F' H' (s.trans s') hn r
theorem ss_for {tg iter : Expr} {body : List Stmt} {mi : Mr (List D)} {b : Bd} {ts : List Nat} {mb : Ms} (hc : X.calm = true) (hp : PassesOwn (model X.prog X.w) X.A X.env X.xe) (hi : SI X n tg iter mi) (hg : SG X n tg b ts) (hb : SSs X n body mb)
    (hs : ∀ x, foldedSetIterable iter X.env x = pure x := by intro _; rfl) : SS X n (.For tg iter body [] pos) (sFor mi b mb) := ⟨fun a ha hn => (ps_for hp hc (hi.run a ha hn) (hg.run a ha hn) (hb.run a ha hn) hs).w fun D σ H q => by
  obtain ⟨env, F, r, q⟩ := rdS_iff.mp q
  unfold sFor at q
  cases h1 : mi env with
  | none => rw [h1] at q; exact q.elim
  | some z =>
    obtain ⟨ds, env1⟩ := z
    rw [h1] at q
    simp only [Option.bind_some] at q
    refine ⟨env, F, ds, env1, r, h1, fun J F1 H1 s1 r1 w => ?_⟩
    refine ⟨fun i m σ H => m = ds.length - i ∧ i ≤ ds.length ∧ ∃ env F, RX a env σ F H ∧ Same F1 F ∧ Want a D F (forL b mb (ds.drop i) env), ⟨ds.length, by simp, Nat.zero_le _, env1, F1, r1, Same.refl F1, q.mono s1⟩, ?_⟩
    rintro i m σ H ⟨rfl, hi, env, F, r, sF, q⟩
    have sH : Same F1 H := by obtain ⟨_, r⟩ := r; exact sF.trans r.fh
    by_cases hlt : i < ds.length
    · refine .inr ⟨w.goes i H hlt sH, fun σ H => ∃ env F, RX a env σ F H ∧ Same F1 F ∧ Want a D F (forL b mb (ds.drop (i + 1)) env), fun σ' H' q' => ⟨ds.length - (i + 1), by omega, rfl, hlt, q'⟩, fun x H' y => ?_⟩
      obtain ⟨F2, s2, r2, rp⟩ := r.yield sF (w.yields i H x H' ds[i] (by simp [hlt]) sH y)
      rw [List.drop_eq_getElem_cons hlt] at q
      unfold forL at q
      cases h2 : b ds[i] env with
      | none => rw [h2] at q; exact q.elim
      | some e1 =>
        rw [h2] at q
        simp only [Option.bind_some] at q
        refine ⟨env, F2, ds[i], e1, r2, rp, h2, fun σ2 r3 _ => rdS_iff.mpr ⟨e1, F2, r3, ?_⟩⟩
        cases h3 : mb e1 with
        | none => rw [h3] at q; exact q.elim
        | some o =>
          rw [h3] at q
          cases o with
          | next e => exact fun σ' F' H' s' r' => ⟨e, F', r', (sF.trans s2).trans s', (q.mono s2).mono s'⟩
          | cnt e => exact fun σ' F' H' s' r' => ⟨e, F', r', (sF.trans s2).trans s', (q.mono s2).mono s'⟩
          | brk e => exact (q.mono s2 : Want a D F2 (some (.next e)))
          | ret v e => exact (q.mono s2 : Want a D F2 (some (.ret v e)))
    · have e : i = ds.length := by omega
      subst e
      refine .inl ⟨w.stops H sH, ?_⟩
      rw [List.drop_length] at q
      exact q σ F H (Same.refl F) r⟩
/-! ### while -/
def whileL (c : Mr Bool) (body : Ms) : Nat → Ms
  | 0 => fun _ => none
  | k + 1 => fun env => (c env).bind fun r => if r.1 = true then match body r.2 with
      | some (.next e) => whileL c body k e
      | some (.cnt e) => whileL c body k e
      | some (.brk e) => some (.next e)
      | some (.ret r e) => some (.ret r e)
      | none => none
    else some (.next r.2)
/-- more turns than there will be -/
def fuel : Nat := 1000000000
theorem ss_while {c : Expr} {body : List Stmt} {mc : Mr Bool} {mb : Ms} (hp : PassesOwn (model X.prog X.w) X.A X.env X.xe) (hc : ST X n c mc) (hb : SSs X n body mb) : SS X n (.While c body [] pos) (whileL mc mb fuel) := ⟨fun a ha hn => (ps_while hp (hc.run a ha hn) (hb.run a ha hn)).w fun D σ H q => by
  obtain ⟨env, F, r, q⟩ := rdS_iff.mp q
  refine ⟨fun m σ H => ∃ env F, RX a env σ F H ∧ Want a D F (whileL mc mb m env), ⟨fuel, env, F, r, q⟩, ?_⟩
  rintro m σ H ⟨env, F, r, q⟩
  cases m with
  | zero => exact q.elim
  | succ m =>
    unfold whileL at q
    cases h1 : mc env with
    | none => rw [h1] at q; exact q.elim
    | some z =>
      obtain ⟨b, e1⟩ := z
      rw [h1] at q
      simp only [Option.bind_some] at q
      refine ⟨env, F, b, e1, r, h1, fun F1 H1 s1 r1 => ?_⟩
      cases b with
      | false => exact (q.mono s1 : Want a D F1 (some (.next e1))) σ F1 H1 (Same.refl F1) r1
      | true =>
        simp only [if_true] at q
        refine ⟨fun σ H => ∃ env F, RX a env σ F H ∧ Want a D F (whileL mc mb m env), fun σ' H' q' => ⟨m, Nat.lt_succ_self m, q'⟩, rdS_iff.mpr ⟨e1, F1, r1, ?_⟩⟩
        cases h3 : mb e1 with
        | none => rw [h3] at q; exact q.elim
        | some o =>
          rw [h3] at q
          cases o with
          | next e => exact fun σ' F' H' s' r' => ⟨e, F', r', (q.mono s1).mono s'⟩
          | cnt e => exact fun σ' F' H' s' r' => ⟨e, F', r', (q.mono s1).mono s'⟩
          | brk e => exact (q.mono s1 : Want a D F1 (some (.next e)))
          | ret v e => exact (q.mono s1 : Want a D F1 (some (.ret v e)))⟩
end
end HU
set_option maxRecDepth 100000
namespace HU
open PySem PySem.Spec L2
/-! ### an object under way that no slot holds -/
def Ax.at (a : Ax) (D : Addr) (u : HO) : Ax := { a with bar := upd a.bar D u }
section
variable {a : Ax} {env : List Sl} {σ : L2.St} {F H : Hp} {ow : Nat → List Addr} {D : Addr} {u u' : HO}
theorem R.bar0 (r : R a env σ F H ow) (hD : H D = none) (nt : ∀ ys, u ≠ .tup ys) : R (a.at D u) env σ F (upd H D u) ow := by
  obtain ⟨f1, f2, f3, f4⟩ := r.fresh hD
  have g := r.grow (H' := upd H D u) (Same.upd hD)
  refine ⟨g.ln, g.nl, g.fh, g.gh, g.ff, g.nw, g.dm, g.sl, g.oz, g.oi, g.on, g.of, fun x o e => ?_, fun x o e => ?_, fun i p hp => ?_, g.pr⟩
  · have e : upd a.bar D u x = some o := e
    by_cases z : x = D
    · subst z; rw [upd_same] at e ⊢; exact e
    · rw [upd_ne z] at e ⊢; exact r.bh x o e
  · have e : upd a.bar D u x = some o := e
    by_cases z : x = D
    · subst z; rw [upd_same] at e; cases e; exact ⟨f1, f2, nt⟩
    · rw [upd_ne z] at e; exact r.bf x o e
  · show upd a.bar D u p = none
    have z : p ≠ D := by rintro rfl; exact f4 i hp
    rw [upd_ne z]; exact r.ob i p hp
theorem R.barNext (r : R (a.at D u) env σ F H ow) (nt : ∀ ys, u' ≠ .tup ys) : R (a.at D u') env σ F (upd H D u') ow := by
  have hbD : (a.at D u).bar D = some u := upd_same
  obtain ⟨f1, f2, f3⟩ := r.bf D u hbD
  have nD : ∀ i p, p ∈ ow i → p ≠ D := fun i p hp z => by subst z; have := r.ob i p hp; rw [hbD] at this; cases this
  refine ⟨r.ln, r.nl, fun x o e => ?_, fun x o e => ?_, r.ff, r.nw, fun x e => ?_, fun i s e => ?_, r.oz, r.oi, r.on, fun i p hp => r.of i p hp, fun x o e => ?_, fun x o e => ?_, fun i p hp => ?_, r.pr⟩
  · have z : x ≠ D := by rintro rfl; rw [f1] at e; cases e
    rw [upd_ne z]; exact r.fh x o e
  · have z : x ≠ D := by rintro rfl; have e : a.G x = some o := e; have f2 : a.G x = none := f2; rw [f2] at e; cases e
    rw [upd_ne z]; exact r.gh x o e
  · have z : x ≠ D := by rintro rfl; rw [upd_same] at e; cases e
    rw [upd_ne z] at e; exact r.dm x e
  · exact (r.sl i s e).mono (Same.refl F) (Same.refl _) fun p hp => upd_ne (nD i p hp)
  · have e : upd a.bar D u' x = some o := e
    by_cases z : x = D
    · subst z; rw [upd_same] at e ⊢; exact e
    · rw [upd_ne z] at e ⊢
      exact r.bh x o (by show upd a.bar D u x = some o; rw [upd_ne z]; exact e)
  · have e : upd a.bar D u' x = some o := e
    by_cases z : x = D
    · subst z; rw [upd_same] at e; cases e; exact ⟨f1, f2, nt⟩
    · rw [upd_ne z] at e; exact r.bf x o (by show upd a.bar D u x = some o; rw [upd_ne z]; exact e)
  · show upd a.bar D u' p = none
    rw [upd_ne (nD i p hp)]
    have := r.ob i p hp
    rwa [show (a.at D u).bar p = a.bar p from upd_ne (nD i p hp)] at this
theorem R.barEnd (r : R (a.at D u) env σ F H ow) (hb : a.bar D = none) : R a env σ F H ow ∧ H D = some u ∧ F D = none ∧ a.G D = none ∧ ∀ i, D ∉ ow i := by
  have hbD : (a.at D u).bar D = some u := upd_same
  obtain ⟨f1, f2, f3⟩ := r.bf D u hbD
  have nD : ∀ i p, p ∈ ow i → p ≠ D := fun i p hp z => by subst z; have := r.ob i p hp; rw [hbD] at this; cases this
  refine ⟨⟨r.ln, r.nl, r.fh, r.gh, r.ff, r.nw, r.dm, r.sl, r.oz, r.oi, r.on, r.of, fun x o e => ?_, fun x o e => ?_, fun i p hp => ?_, r.pr⟩, r.bh D u hbD, f1, f2, fun i hi => nD i D hi rfl⟩
  · have z : x ≠ D := by rintro rfl; rw [hb] at e; cases e
    exact r.bh x o (by show upd a.bar D u x = some o; rw [upd_ne z]; exact e)
  · have z : x ≠ D := by rintro rfl; rw [hb] at e; cases e
    exact r.bf x o (by show upd a.bar D u x = some o; rw [upd_ne z]; exact e)
  · have := r.ob i p hp
    rwa [show (a.at D u).bar p = a.bar p from upd_ne (nD i p hp)] at this
end

/-! ### the block's own names -/
def wipeE (env : List Sl) : List Nat → List Sl
  | [] => env
  | v :: vs => (wipeE env vs).set v .none
theorem RX.wipe {a : Ax} {env : List Sl} {σ : L2.St} {F H : Hp} (r : RX a env σ F H) : ∀ vs : List Nat, RX a (wipeE env vs) (L2.wipe σ vs) F H
  | [] => r
  | v :: vs => by
    obtain ⟨ow, q⟩ := RX.wipe r vs
    unfold wipeE L2.wipe
    by_cases hv : v < (wipeE env vs).length
    · exact ⟨_, q.wipe1 hv none⟩
    · rw [List.set_eq_of_length_le (by omega), List.set_eq_of_length_le (by rw [← q.ln]; omega)]
      exact ⟨ow, q⟩
/-- the names behind the block: as they were -/
def restore : List Nat → List Sl → List Sl → List Sl
  | [], _, e => e
  | v :: vs, e0, e => restore vs e0 (e.set v (if v ∈ vs then .none else match e0[v]? with
      | some (.val d) => .val d
      | _ => .none))
theorem wipe_not {σ : L2.St} {i : Nat} : ∀ {vs : List Nat}, i ∉ vs → (L2.wipe σ vs)[i]? = σ[i]?
  | [], _ => rfl
  | v :: vs, h => by
    simp only [List.mem_cons, not_or] at h
    unfold L2.wipe
    rw [List.getElem?_set_ne (Ne.symm h.1)]
    exact wipe_not h.2
theorem RX.restore {a a0 : Ax} {env0 : List Sl} {σ : L2.St} {F0 F H H0 : Hp} (hmg : a0.mg = a.mg) (r0 : RX a0 env0 σ F0 H0) (sF : Same F0 F) : ∀ (vs : List Nat) (e : List Sl), RX a e (L2.wipe σ vs) F H → RX a (restore vs env0 e) σ F H
  | [], e, r => r
  | v :: vs, e, r => by
    unfold HU.restore
    refine RX.restore hmg r0 sF vs _ ?_
    obtain ⟨ow, r⟩ := r
    have hl : (L2.wipe σ vs).length = σ.length := wipe_length σ vs
    unfold L2.wipe at r
    have hel : e.length = σ.length := by have := r.ln; rw [List.length_set, hl] at this; exact this
    by_cases hv : v < e.length
    · have back : ((L2.wipe σ vs).set v none).set v ((L2.wipe σ vs)[v]'(by omega)) = L2.wipe σ vs := by
        rw [List.set_set]; exact set_self (by simp)
      by_cases hm : v ∈ vs
      · rw [if_pos hm]
        have := r.wipe1 (i := v) hv ((L2.wipe σ vs)[v]'(by omega))
        rw [back] at this
        exact ⟨_, this⟩
      · rw [if_neg hm]
        split
        · rename_i d hd
          obtain ⟨ow0, r0⟩ := r0
          obtain ⟨x, h1, h2⟩ := r0.val hd
          have hx : (L2.wipe σ vs)[v]'(by omega) = some x := by
            have := wipe_not (σ := σ) hm
            rw [h1, List.getElem?_eq_getElem (by omega)] at this
            exact Option.some.inj this
          have := r.putV (i := v) hv (by rw [← hmg]; exact h2.mono sF)
          rw [← hx, back] at this
          exact ⟨_, this⟩
        · have := r.wipe1 (i := v) hv ((L2.wipe σ vs)[v]'(by omega))
          rw [back] at this
          exact ⟨_, this⟩
    · rw [List.set_eq_of_length_le (by omega)] at r
      rw [List.set_eq_of_length_le (by omega)]
      exact ⟨ow, r⟩

/-! ### list comprehensions -/
def lcL (b : Bd) (vs : List Nat) (tt : Mr Bool) (me : Mr D) : List D → Mr (List D)
  | [] => mRet []
  | d :: ds => fun env => (b d env).bind fun e1 => (tt e1).bind fun t => if t.1 = true then (me t.2).bind fun y => (lcL b vs tt me ds (wipeE y.2 vs)).map fun q => (y.1 :: q.1, q.2) else lcL b vs tt me ds (wipeE t.2 vs)
def mLc (mi : Mr (List D)) (b : Bd) (vs : List Nat) (tt : Mr Bool) (me : Mr D) : Mr Sl := fun env => (mi env).bind fun r => (lcL b vs tt me r.1 (wipeE r.2 vs)).bind fun q => if q.1.length ≤ sizeLine then some (.lst q.1, restore vs r.2 q.2) else none
/-- a clause's tests -/
structure STs (X : Cx) (n : Nat) (ifs : List Expr) (m : Mr Bool) : Prop where
  run : ∀ a, a.mg = X.mg → a.n = n → PTs X ifs (rdT a m)
/-! ### the same of every activation -/
def anyE (mg : Str → Option Value) (n : Nat) (m : Mr D) : TE := fun σ H Q => ∃ a : Ax, a.mg = mg ∧ a.n = n ∧ rdE a m σ H Q
def anyT (mg : Str → Option Value) (n : Nat) (m : Mr Bool) : TT := fun σ H Q => ∃ a : Ax, a.mg = mg ∧ a.n = n ∧ rdT a m σ H Q
def anyG (mg : Str → Option Value) (n : Nat) (b : Bd) (ts : List Nat) : TG := fun v σ H Q => ∃ a : Ax, a.mg = mg ∧ a.n = n ∧ rdG a b ts v σ H Q
theorem wipe_wipe (σ : L2.St) : ∀ vs : List Nat, wipe (wipe σ vs) vs = wipe σ vs := by
  have key : ∀ (vs ws : List Nat), (∀ v ∈ vs, v ∈ ws) → wipe (wipe σ ws) vs = wipe σ ws := fun vs => by
    induction vs with
    | nil => intro _ _; rfl
    | cons v vs ih =>
      intro ws h
      have e : wipe (wipe σ ws) (v :: vs) = (wipe (wipe σ ws) vs).set v none := rfl
      rw [e, ih ws fun x hx => h x (List.mem_cons_of_mem _ hx)]
      apply List.ext_getElem?; intro j
      by_cases z : j = v
      · subst z
        by_cases hj : j < (wipe σ ws).length
        · rw [List.getElem?_set_self hj]
          cases q : (wipe σ ws)[j]? with
          | none => rw [List.getElem?_eq_none_iff] at q; omega
          | some o =>
            cases o with
            | none => rfl
            | some x => exact absurd (h j List.mem_cons_self) (wipe_some q).2
        · rw [List.set_eq_of_length_le (by omega)]
      · rw [List.getElem?_set_ne (Ne.symm z)]
  exact fun vs => key vs vs fun _ h => h
section
variable {X : Cx} {n : Nat} {pos : Pos}
theorem SE.any {e : Expr} {m : Mr D} (h : SE X n e m) : PE X e (anyE X.mg n m) := ⟨fun pins s σ H Q I ⟨a, h1, h2, q⟩ => (h.run a h1 h2).run pins s σ H Q I q⟩
theorem STs.any {e : List Expr} {m : Mr Bool} (h : STs X n e m) : PTs X e (anyT X.mg n m) := ⟨fun pins s σ H Q I ⟨a, h1, h2, q⟩ => (h.run a h1 h2).run pins s σ H Q I q⟩
theorem SG.any {e : Expr} {b : Bd} {ts : List Nat} (h : SG X n e b ts) : PG X e (anyG X.mg n b ts) := ⟨fun pins s σ H v u Q I r ⟨a, h1, h2, q⟩ => (h.run a h1 h2).run pins s σ H v u Q I r q⟩
theorem sts_nil : STs X n [] (mRet true) := ⟨fun a ha hn => ⟨fun pins s σ H Q I ⟨env, F, b, env', r, hm, q⟩ => by
  cases hm
  exact pts_nil.run pins s σ H Q I (q F H (Same.refl F) r)⟩⟩
theorem sts_one {c : Expr} {m : Mr Bool} (h : ST X n c m) : STs X n [c] m := ⟨fun a ha hn => pts_one (h.run a ha hn)⟩
theorem sf_lc {elt tg iter : Expr} {ifs : List Expr} {scope : Scope} {own : List (Str × Nat)} {mi : Mr (List D)} {b : Bd} {ts : List Nat} {tt : Mr Bool} {me : Mr D} (hc : X.calm = true) (hN : X.N.Nodup) (hi : SI X n tg iter mi) (ok : blkC X.N X.env.scope scope own = true)
    (hts : ∀ t ∈ ts, t ∈ own.map (·.2))
    (hg : ∀ (s : Shared) (H : Hp) (C : Addr) (cl : List (Str × Addr)) (fp : List Addr), SG (X.blk s H scope (compEnvC scope cl C X.env) fp) n tg b ts) (ht : ∀ (s : Shared) (H : Hp) (C : Addr) (cl : List (Str × Addr)) (fp : List Addr), STs (X.blk s H scope (compEnvC scope cl C X.env) fp) n ifs tt)
    (he : ∀ (s : Shared) (H : Hp) (C : Addr) (cl : List (Str × Addr)) (fp : List Addr), SE (X.blk s H scope (compEnvC scope cl C X.env) fp) n elt me) (hs : ∀ x, foldedSetIterable iter X.env x = pure x := by intro _; rfl) :
    SF X n (.ListComp elt [⟨tg, iter, ifs, 0⟩] scope pos) (mLc mi b (own.map (·.2)) tt me) := ⟨fun a ha hn => by
  -- the readings are those of every activation: the list under way is barred
  have hi' := hi.run a ha hn
  have P := pe_lc (te := anyE X.mg n me) (g := anyG X.mg n b ts) (tt := anyT X.mg n tt) hc hN hi' (blkOk_by ok) (fun s H C cl fp => (hg s H C cl fp).any) (fun s H C cl fp => (ht s H C cl fp).any) (fun s H C cl fp => (he s H C cl fp).any) hs (pos := pos)
  refine P.w fun σ H Q ⟨env, F, rr, env', r, hm, q⟩ => ?_
  unfold mLc at hm
  cases h1 : mi env with
  | none => rw [h1] at hm; cases hm
  | some z =>
    obtain ⟨ds, env1⟩ := z
    rw [h1] at hm
    simp only [Option.bind_some] at hm
    cases h2 : lcL b (own.map (·.2)) tt me ds (wipeE env1 (own.map (·.2))) with
    | none => rw [h2] at hm; cases hm
    | some z =>
      obtain ⟨all, env2⟩ := z
      rw [h2] at hm
      simp only [Option.bind_some] at hm
      split at hm
      · rename_i hz
        cases hm
        refine ⟨env, F, ds, env1, r, h1, fun J F1 H1 s1 r1 w D hD => ?_⟩
        -- the turns: the items so far at D, the rest still to come
        refine ⟨fun i m H => m = ds.length - i ∧ i ≤ ds.length ∧ ∃ env F acc vs rest, RX (a.at D (.lst vs)) env (L2.wipe σ (own.map (·.2))) F H ∧ Same F1 F ∧ RepL a.mg F vs acc ∧
            lcL b (own.map (·.2)) tt me (ds.drop i) env = some (rest, env2) ∧ acc ++ rest = all, ⟨ds.length, by simp, Nat.zero_le _, ?_⟩, ?_⟩
        · obtain ⟨ow, r2⟩ := r1.wipe (own.map (·.2))
          exact ⟨_, F1, [], [], all, ⟨ow, r2.bar0 hD (fun _ z => nomatch z)⟩, Same.refl F1, .nil, h2, rfl⟩
        · rintro i m H ⟨rfl, hi, env3, F3, acc, vs, rest, r3, s3, rp, h3, h4⟩
          have sH : Same F1 H := by obtain ⟨_, r⟩ := r3; exact s3.trans r.fh
          have hbD : a.bar D = none := by
            cases e : a.bar D with
            | none => rfl
            | some o => obtain ⟨_, r1⟩ := r1; have := r1.bh D o e; rw [hD] at this; cases this
          by_cases hlt : i < ds.length
          · refine .inr ⟨w.goes i H hlt sH, fun H => ∃ env F acc vs rest, RX (a.at D (.lst vs)) env (L2.wipe σ (own.map (·.2))) F H ∧ Same F1 F ∧ RepL a.mg F vs acc ∧
              lcL b (own.map (·.2)) tt me (ds.drop (i + 1)) env = some (rest, env2) ∧ acc ++ rest = all, fun H' q' => ⟨ds.length - (i + 1), by omega, rfl, hlt, q'⟩, fun x H' y => ?_⟩
            obtain ⟨F4, s4, r4, rx⟩ := r3.yield s3 (w.yields i H x H' ds[i] (by simp [hlt]) sH y)
            rw [List.drop_eq_getElem_cons hlt] at h3
            unfold lcL at h3
            simp only [Option.bind_eq_some_iff] at h3
            obtain ⟨e1, h5, ⟨t, e2⟩, h6, h3⟩ := h3
            refine ⟨a.at D (.lst vs), ha, hn, env3, F4, ds[i], e1, r4, rx, h5, fun σ2 r5 w5' => ?_⟩
            have w5 : L2.wipe σ2 (own.map (·.2)) = L2.wipe σ (own.map (·.2)) := (w5' _ hts).trans (wipe_wipe σ _)
            refine ⟨w5, ?_⟩
            refine ⟨a.at D (.lst vs), ha, hn, e1, F4, t, e2, r5, h6, fun F6 H6 s6 r6 => ?_⟩
            cases t with
            | false =>
              simp only [Bool.false_eq_true, if_false] at h3 ⊢
              have r7 := r6.wipe (own.map (·.2))
              rw [w5] at r7
              exact ⟨_, F6, acc, vs, rest, r7, (s3.trans s4).trans s6, rp.mono (s4.trans s6), h3, h4⟩
            | true =>
              simp only [if_true, Option.bind_eq_some_iff, Option.map_eq_some_iff] at h3 ⊢
              obtain ⟨⟨y, e3⟩, h7, ⟨rest', e4⟩, h8, h9⟩ := h3
              cases h9
              refine ⟨a.at D (.lst vs), ha, hn, e2, F6, y, e3, r6, h7, fun v F7 H7 s7 r7 ry => ?_⟩
              obtain ⟨ow7, r7⟩ := r7
              have hbD7 : H7 D = some (.lst vs) := r7.bh D _ upd_same
              refine ⟨vs, hbD7, ?_, ?_⟩
              · have e : acc.length + 1 ≤ all.length := by rw [← h4]; simp
                rw [rp.length]; omega
              · have r8 : RX (a.at D (.lst vs)) e3 σ2 F7 H7 := ⟨ow7, r7⟩
                have r9 := r8.wipe (own.map (·.2))
                rw [w5] at r9
                obtain ⟨ow9, r9⟩ := r9
                exact ⟨_, F7, acc ++ [y], vs ++ [v], rest', ⟨ow9, r9.barNext (fun _ z => nomatch z)⟩, ((s3.trans s4).trans s6).trans s7, (rp.mono ((s4.trans s6).trans s7)).app (.cons ry .nil), h8, by rw [List.append_assoc]; exact h4⟩
          · have e : i = ds.length := by omega
            subst e
            refine .inl ⟨w.stops H sH, ?_⟩
            rw [List.drop_length] at h3
            cases h3
            rw [List.append_nil] at h4
            subst h4
            obtain ⟨ow5, r5⟩ := RX.restore (a := a.at D (.lst vs)) (a0 := a) rfl r1 s3 _ _ r3
            obtain ⟨r4, hD4, f1, f2, f3⟩ := r5.barEnd hbD
            have hD0 : a.H0 D = none := by obtain ⟨_, r1⟩ := r1; exact r1.dm D hD
            refine q _ F3 H (s1.trans s3) r4.nl (r4.snoc (s := .lst acc) (ps := [D]) ⟨D, vs, rfl, rfl, hD4, rp⟩ (by simp) (fun p hp => ?_) (fun p hp j hj => ?_) fun p hp => ?_)
            · rw [List.mem_singleton.mp hp]; exact ⟨f1, f2, hD0⟩
            · rw [List.mem_singleton.mp hp] at hj; exact f3 j hj
            · rw [List.mem_singleton.mp hp]; exact hbD
      · cases hm⟩
end
end HU
set_option maxRecDepth 100000
namespace PySem
open Sem (wp)
open AutoSeq1 (wpAny_loadPart')
open PyProof.Rows
set_option maxHeartbeats 1000000 in
theorem hu_enumerate_newT (l : Addr) (items : Array Value) (n : Nat) (dct : Option Addr) (sl : Array (Option Value)) :
    Meets (Builtin.«enumerate.__new__» ⟨[.type "enumerate", .ref l], []⟩) (fun _ R s => s.heap.get? l = some { cls := .type "tuple", dict := dct, data := .seq items n, slots := sl } ∧
      R (.ok (.ret (.ref (s.heap.push { cls := .type "tuple_iterator", data := .fields #[.ref l, .int 0 0] }).objs.size)))
        { s with heap := (s.heap.push { cls := .type "tuple_iterator", data := .fields #[.ref l, .int 0 0] }).push { cls := .type "enumerate", data := .fields #[.none, .bool false, .ref s.heap.objs.size, rawInt 0, .none, .none] } }) :=
  .of_wp fun prog w A R s h => by
    obtain ⟨hp, g, d, tk, os⟩ := s; obtain ⟨hl, h⟩ := h
    have hsub := sub_enumerate
    have hL : Heap.IsTuple (Shared.heap ⟨hp, g, d, tk, os⟩) l items := ⟨_, hl, rfl, n, rfl⟩
    wp_walk using wpAny_loadPart' hl
    refine wpAny_stack_any fun st => wpAny_pure ?_
    split
    · rename_i c _ _ _ _ _
      cases (c == Value.type "enumerate")
      · wp_walk using wpAny_loadPart' hl, wpAny_pyIter_tuple hL
        exact ⟨_, rfl, h⟩
      · wp_walk using wpAny_loadPart' hl, wpAny_pyIter_tuple hL
        exact ⟨_, rfl, h⟩
    · wp_walk using wpAny_loadPart' hl, wpAny_pyIter_tuple hL
      exact ⟨_, rfl, h⟩
section
variable {prog : Program} {w : World} {A : Around} {E : Value → Shared → Prop} {s : Shared}
theorem hu_enumerate_tuple {l : Addr} {items : Array Value} {Q : Value → Shared → Prop} (hL : s.heap.IsTuple l items)
    (h : ∀ h', IsEnum h' (s.heap.objs.size + 1) s.heap.objs.size 0 .none → h'.IsTupleIter s.heap.objs.size l 0 → h'.objs.size = s.heap.objs.size + 2 →
      (∀ b o, s.heap.get? b = some o → h'.get? b = some o) → Q (.ref (s.heap.objs.size + 1)) { s with heap := h' }) :
    wpAny (model prog w) A (call (.type "enumerate") [.ref l]) Q E s := by
  obtain ⟨⟨c, dct, dt, sl⟩, hl, hc, n, hd⟩ := hL
  replace hc : c = .type "tuple" := hc
  replace hd : dt = .seq items n := hd
  subst hc hd
  refine callType_new F.called_enumerate (by decide) (F.typeCall_enumerate_1 _) (F.newCall_enumerate_1 _) (fun obj => F.args_object_init_2 obj _) F.entry_enumerate_new
    (hu_enumerate_newT l items n dct sl) ⟨hl, ?_⟩
  have hz : (s.heap.push { cls := .type "tuple_iterator", data := .fields #[.ref l, .int 0 0] }).objs.size = s.heap.objs.size + 1 := Heap.size_push ..
  show _ ∧ _
  rw [hz]
  have he : IsEnum ((s.heap.push { cls := .type "tuple_iterator", data := .fields #[.ref l, .int 0 0] }).push
      { cls := .type "enumerate", data := .fields #[.none, .bool false, .ref s.heap.objs.size, rawInt 0, .none, .none] }) (s.heap.objs.size + 1) s.heap.objs.size 0 .none := by
    have := Heap.get?_push_size (s.heap.push { cls := .type "tuple_iterator", data := .fields #[.ref l, .int 0 0] })
      (o := { cls := .type "enumerate", data := .fields #[.none, .bool false, .ref s.heap.objs.size, rawInt 0, .none, .none] }) rfl
    rw [hz] at this; exact this
  refine ⟨⟨_, he, rfl⟩, h _ he ⟨_, Heap.get?_push_of_some _ (Heap.get?_push_size _ rfl), rfl, rfl⟩ (by rw [Heap.size_push, hz]) fun b o x => Heap.get?_push_of_some _ (Heap.get?_push_of_some _ x)⟩
theorem hu_enum_endT {e it l : Addr} {i : Nat} {items : Array Value} {old : Value} {Q : Option Value → Shared → Prop} (hh : A.handled = none)
    (he : IsEnum s.heap e it i old) (hit : s.heap.IsTupleIter it l i) (hl : s.heap.IsTuple l items) (hx : items[i]? = none)
    (hQ : ∀ h', Heap.ExtBut it s.heap h' → Q none { s with heap := h' }) : wpAny (model prog w) A (pyNext (.ref e)) Q E s := by
  have hT : s.TypeIs (.ref e) "enumerate" := ⟨_, he, rfl⟩
  unfold pyNext
  refine wpAny_bind (wpAny_attempt (wpAny_callSpecial?_slot (name := Str.ofString "__next__") hT F.slot_enumerate_next
    (wpAny_call_entry F.slot_enumerate_next hT F.entry_enumerate_next ?_ (F.args_enumerate_next_1 _))))
  show wpAny _ _ (field (.ref e) 2 >>= _) _ _ _
  refine wpAny_bind (wpAny_field he rfl (x := .ref it) rfl ?_)
  refine wpAny_bind (wpAny_nextOf_tuple_end (A := A.in1) hh hit hl hx fun h' x he' hx' => ?_)
  obtain ⟨o, ho, hc⟩ := hx'
  refine wpAny_bind (wpAny_isInstance (T := "StopIteration") (b := true) ⟨o, ho, hc⟩ isSubtype_stop ?_)
  exact wpAny_pure (hQ _ he')
end
end PySem
namespace L2
open PySem PySem.Spec PyProof.Rows
/-- the tuple at a, each item in a new pair -/
def IteT (K : PySem.W.Frag) (a : Addr) : It :=
  ⟨fun i H => ∃ (xs : List V) (x : V), SqT K H a xs ∧ xs[i]? = some x, fun i H v H' => ∃ T x, v = .ref T ∧ H T = none ∧ H' = upd H T (.tup [.int (i : Nat), x]) ∧ ∀ xs, SqT K H a xs → xs[i]? = some x, fun i H => ∃ xs : List V, SqT K H a xs ∧ xs.length ≤ i⟩
theorem turn_enumT {P : Program} {w : World} {K : PySem.W.Frag} {elts : List Expr} {kk : Nat} {tpos : Pos} (a e it : Addr) (hai : a ≠ it) (hae : a ≠ e) :
    Turn P w K (.Tuple elts kk tpos) (IteT K a) [e, it] e (fun i h => (∃ old, IsEnum h e it ((i : Nat) : Int) old) ∧ h.IsTupleIter it a i ∧ e ≠ it) where
  mem := by simp
  obj := fun i h st b hb => by
    obtain ⟨⟨old, he⟩, ⟨o, ho, hc, hd⟩, _⟩ := st
    have e' : b = e ∨ b = it := by simpa using hb
    rcases e' with z | z
    · rw [z]; exact ⟨_, he, fun v q => nomatch q⟩
    · rw [z]; exact ⟨o, ho, fun v q => by rw [hd] at q; cases q⟩
  keep := fun i h h' st k => let ⟨⟨old, he⟩, hi, hne⟩ := st; ⟨⟨old, k e (by simp) _ he⟩, hi.at fun o q => k it (by simp) o q, hne⟩
  item := by
    intro X hP hw hK hc i pins s σ H E I hf st hg
    subst hP hw hK
    obtain ⟨⟨old, he⟩, hit, hne⟩ := st
    obtain ⟨xs, x, hq, hx⟩ := hg
    obtain ⟨its, rv, p, hz⟩ := I.tuple hq
    obtain ⟨u, hu, ru⟩ := rv.get hx
    have hel : e < s.heap.objs.size := Heap.lt_size he
    have hil : it < s.heap.objs.size := by obtain ⟨_, q, _⟩ := hit; exact Heap.lt_size q
    have hil2 : i < its.toArray.size := by simpa using (List.getElem?_eq_some_iff.mp hu).1
    refine wpAny_pyNext_enum_itemD (Draws.tuple (A := X.A.in1) (show X.A.in1.handled = none from I.ok.hd hc) it a hai its.toArray) he ⟨hit, p⟩ hil2 hne (by simp; exact ⟨hne, Ne.symm hae⟩) fun y h' tk hy ho hst hT hsz hk => ?_
    have hyu : y = u := by
      have : its.toArray[i]? = some u := by simpa using hu
      rw [this] at hy; exact (Option.some.inj hy).symm
    subst hyu
    obtain ⟨hit', _⟩ := hst
    refine ⟨_, rfl, wpAny_letOwnedTupleGo_enum (s := { s with heap := h', toks := tk + 1 }) ho fun h'' he' sb => ?_⟩
    have hT2 : h''.get? s.heap.objs.size = some { cls := .type "tuple", data := .seq #[.int i tk, y] } := (sb.2 _ (Nat.ne_of_gt hel)).trans hT
    have new : ObjOk X.prog X.w (upd H s.heap.objs.size (.tup [.int (i : Nat), x])) h'' s.heap.objs.size (.tup [.int (i : Nat), x]) :=
      ⟨by show 2 ≤ sizeLine; decide, [.int i tk, y], .cons ⟨_, rfl⟩ (.cons ru .nil), ⟨_, hT2, rfl, _, rfl⟩⟩
    have I1 : Inv X pins σ (upd H s.heap.objs.size (.tup [.int (i : Nat), x])) { s with heap := h'', toks := tk + 1 } :=
      I.turnedNew (ch := [e, it]) (fun b ob hb q => (sb.2 b (fun z => hb (by simp [z]))).trans (hk b ob (fun z => hb (by simp [z])) (fun z => hb (by simp [z])) q)) hf (Nat.le_refl _) new
    refine ⟨.ref s.heap.objs.size, _, I1, rfl, ⟨_, x, rfl, I.hok.fresh (Nat.le_refl _), rfl, fun ys hy => by rw [I.tuple_inj hy hq]; exact hx⟩, ⟨⟨y, ?_⟩, hit'.at fun o q => (sb.2 it (Ne.symm hne)).trans q, hne⟩, fun b hb => ?_⟩
    · have e1 : ((i + 1 : Nat) : Int) = (i : Int) + 1 := by omega
      rw [e1]; exact he'
    · have hb' : b < s.heap.objs.size := by
        have e' : b = e ∨ b = it := by simpa using hb
        rcases e' with z | z
        · rw [z]; exact hel
        · rw [z]; exact hil
      rw [upd_ne (Nat.ne_of_lt hb')]
      exact (hf b hb).1
  done := by
    intro X hP hw hK hc i pins s σ H E I hf st hg
    subst hP hw hK
    obtain ⟨⟨old, he⟩, hit, hne⟩ := st
    obtain ⟨xs, hq, hx⟩ := hg
    obtain ⟨its, rv, p, hz⟩ := I.tuple hq
    obtain ⟨f0, f1, f2, f3, f4, f5⟩ := hf it (by simp)
    have hl := rv.length
    exact hu_enum_endT (I.ok.hd hc) he hit p (by simp; omega) fun h' eb => ⟨rfl, I.turned (t' := s.toks) (fun b o hb q => eb b o hb q) f0 f1 f3 f4 f5⟩
  self := fun A i s Q E st h => let ⟨⟨_, he⟩, _⟩ := st; wpAny_pyIter_enum he h
def iEnumT (K : PySem.W.Frag) (ta : TA) : TI := fun σ H R => ta σ H fun vs H1 => ∃ a xs, vs = [.ref a] ∧ SqT K H1 a xs ∧ R (IteT K a) H1
theorem pi_enumT {X : Cx} {e : Expr} {ta : TA} {p pos tpos : Pos} {elts : List Expr} {kk : Nat} (hg : Gl X "enumerate") (hm : X.mg "enumerate" = none) (ha : PA X [e] ta) (hs : starEach [e] X.env = [(false, eval e X.env)] := by rfl) :
    PI X (.Tuple elts kk tpos) (.Call (.Name "enumerate" p) [e] [] pos) (iEnumT X.K ta) := by
  refine ⟨fun pins s σ H R I h => ?_⟩
  refine Call_ (ld_blt I hg hm boot_enumerate (PyProof.Rows.callWith_type1 (thn (ha.run pos pins s σ H _ I h) fun us s1 ⟨vs, H1, I1, r1, q1⟩ => ?_) hs rfl))
  obtain ⟨a, xs, ex, hq, q⟩ := q1
  subst ex
  cases r1 with
  | cons r rr =>
    cases rr
    cases r
    obtain ⟨its, rv, p', hz⟩ := I1.tuple hq
    have hal : a < s1.heap.objs.size := by obtain ⟨_, q, _⟩ := p'; exact Heap.lt_size q
    refine hu_enumerate_tuple p' fun h' he hit hsz hk => wpAny_pyIter_enum he ?_
    have I2 : Inv X pins σ H1 { s1 with heap := h' } := I1.kept (t' := s1.toks) hk
    refine ⟨s1.heap.objs.size + 1, [s1.heap.objs.size + 1, s1.heap.objs.size], _, _, H1, rfl, I2, turn_enumT a (s1.heap.objs.size + 1) s1.heap.objs.size (Nat.ne_of_lt hal) (Nat.ne_of_lt (Nat.lt_succ_of_lt hal)), ⟨⟨.none, he⟩, hit, Nat.succ_ne_self _⟩, fun b hb => ?_, q⟩
    have e' : b = s1.heap.objs.size + 1 ∨ b = s1.heap.objs.size := by simpa using hb
    have hle : s1.heap.objs.size ≤ b := by
      rcases e' with z | z
      · rw [z]; exact Nat.le_add_right _ _
      · rw [z]; exact Nat.le_refl _
    exact I1.fpOk hle (I1.hok.fresh hle)
theorem walk_enumT {K : PySem.W.Frag} {a : Addr} {xs : List V} : Walk (IteT K a) xs.length (fun H => SqT K H a xs) (YPair (fun i => some (.int (i : Nat))) (fun i => xs[i]?)) := by
  refine ⟨fun i _ hi q => ⟨xs, xs[i], q, by simp [hi]⟩, fun _ q => ⟨xs, q, Nat.le_refl _⟩, fun i H v H' _ q y => ?_⟩
  obtain ⟨T, x, h1, h2, h3, h4⟩ := y
  exact ⟨T, .int (i : Nat), x, h1, h2, h3, rfl, h4 xs q⟩
end L2
set_option maxRecDepth 100000
namespace HU
open PySem PySem.Spec L2
theorem _root_.L2.PI.w {X : Cx} {tg it : Expr} {t t' : TI} (h : PI X tg it t) (w : ∀ σ H R, t' σ H R → t σ H R) : PI X tg it t' := ⟨fun pins s σ H R I q => h.run pins s σ H R I (w _ _ _ q)⟩
theorem _root_.L2.PI.or {X : Cx} {tg it : Expr} {t t' : TI} (h : PI X tg it t) (h' : PI X tg it t') : PI X tg it (fun σ H R => t σ H R ∨ t' σ H R) := ⟨fun pins s σ H R I q => q.elim (fun q => h.run pins s σ H R I q) fun q => h'.run pins s σ H R I q⟩
section
variable {mg : Str → Option Value} {F : Hp} {K : PySem.W.Frag}
theorem walks_of {J : It} {vs : List V} {ds : List D} {G : Hp → Prop} (w : Walk J vs.length G (YAt vs)) (r : RepL mg F vs ds) (hG : ∀ H, Same F H → G H) : Walks mg F J ds :=
  ⟨fun i H hi s => w.goes i H (by rw [r.length]; exact hi) (hG H s), fun H s => by rw [← r.length]; exact w.stops H (hG H s), fun i H x H' d hd s y => by
    have hi : i < vs.length := by rw [r.length]; exact replace_getElem? hd
    obtain ⟨h1, h2⟩ := w.yields i H x H' hi (hG H s) y
    obtain ⟨v, h3, h4⟩ := r.get hd
    rw [h3] at h2; cases h2
    exact .inl ⟨h1, h4⟩⟩
theorem walks_range {lo : Int} {m : Nat} : Walks mg F (Itr lo m) ((List.range m).map fun i => D.int (lo + (i : Nat))) :=
  ⟨fun i H hi _ => (by simpa using hi : i < m), fun H _ => by show m ≤ _; simp, fun i H x H' d hd s y => by
    obtain ⟨h1, h2⟩ := (show H' = H ∧ x = .int (lo + i) from y)
    have hi : i < m := by simpa using replace_getElem? hd
    simp [List.getElem?_map, hi] at hd
    subst hd h2
    exact .inl ⟨h1, .int _⟩⟩
/-- pairs -/
theorem walks_pair {J : It} {n : Nat} {G : Hp → Prop} {xs ys : Nat → Option V} {ds : List (D × D)} (hl : ds.length = n) (w : Walk J n G (YPair xs ys)) (hx : ∀ i d, ds[i]? = some d → ∀ v, xs i = some v → Rep mg F v d.1) (hy : ∀ i d, ds[i]? = some d → ∀ v, ys i = some v → Rep mg F v d.2)
    (hG : ∀ H, Same F H → G H) : Walks mg F J (ds.map fun d => .tup [d.1, d.2]) :=
  ⟨fun i H hi s => w.goes i H (by rw [← hl]; simpa using hi) (hG H s), fun H s => by have := w.stops H (hG H s); rw [← hl] at this; simpa using this, fun i H x H' d hd s y => by
    have hi : i < ds.length := by simpa using replace_getElem? hd
    obtain ⟨T, a, b, h1, h2, h3, h4, h5⟩ := w.yields i H x H' (by rw [← hl]; exact hi) (hG H s) y
    simp [List.getElem?_map, hi] at hd
    subst hd
    have e : ds[i]? = some ds[i] := by simp [hi]
    exact .inr ⟨T, [a, b], _, h1, h2, h3, rfl, .cons (hx i _ e a h4) (.cons (hy i _ e b h5) .nil)⟩⟩
end
/-- the items of what is walked -/
def itD : D → Option (List D)
  | .lst xs => some xs
  | .tup xs => some xs
  | .str z => some (z.cps.toList.map fun c => .str ⟨#[c]⟩)
  | .dic kvs => some (kvs.map fun kv => match kv.1 with | .inl i => .int i | .inr x => .str x)
  | _ => none
section
variable {X : Cx} {n : Nat} {tg e e2 : Expr} {pos p : Pos} {m m2 : Mr D}
theorem si_seq (h : SE X n e m) : SI X n tg e (mOpt itD m) := ⟨fun a ha hn => ((pi_list (h.run a ha hn)).or ((pi_tup (h.run a ha hn)).or ((pi_str (h.run a ha hn)).or (pi_keys (h.run a ha hn))))).w fun σ H R ⟨env, F, ds, env', r, hm, q⟩ => by
  obtain ⟨d, h1, h2⟩ := mOpt_some hm
  cases d with
  | lst xs =>
    cases h2
    refine .inl ⟨env, F, _, _, r, h1, fun v F' H' s' r' rp => ?_⟩
    cases rp with
    | lst e rl =>
      have hs : ∀ H2, Same F' H2 → SqL X.K H2 _ _ := fun H2 s2 => SqL.of (s2 _ _ e)
      have fh : Same F' H' := by obtain ⟨_, r'⟩ := r'; exact r'.fh
      exact ⟨_, rfl, ⟨_, hs _ fh⟩, q _ F' H' s' r' (walks_of walk_list rl hs)⟩
  | tup xs =>
    cases h2
    refine .inr (.inl ⟨env, F, _, _, r, h1, fun v F' H' s' r' rp => ?_⟩)
    cases rp with
    | tup e rl =>
      have hs : ∀ H2, Same F' H2 → SqT X.K H2 _ _ := fun H2 s2 => SqT.of (s2 _ _ e)
      have fh : Same F' H' := by obtain ⟨_, r'⟩ := r'; exact r'.fh
      exact ⟨_, rfl, ⟨_, hs _ fh⟩, q _ F' H' s' r' (walks_of walk_tup rl hs)⟩
  | str z =>
    cases h2
    refine .inr (.inr (.inl ⟨env, F, _, _, r, h1, fun v F' H' s' r' rp => ?_⟩))
    cases rp
    refine ⟨z, rfl, q _ F' H' s' r' ⟨fun i H hi s => ?_, fun H s => ?_, fun i H x H' d hd s y => ?_⟩⟩
    · exact walk_str.goes i H (by simpa using hi) trivial
    · have := walk_str (z := z).stops H trivial; simpa using this
    · have hi : i < z.cps.size := by simpa using replace_getElem? hd
      obtain ⟨h3, c, h4, h5⟩ := walk_str.yields i H x H' hi trivial y
      subst h5
      simp [List.getElem?_map, hi] at hd
      rw [Array.getElem?_eq_getElem hi] at h4
      cases h4
      subst hd
      exact .inl ⟨h3, .str _⟩
  | dic kvs =>
    cases h2
    refine .inr (.inr (.inr ⟨env, F, _, _, r, h1, fun v F' H' s' r' rp => ?_⟩))
    cases rp with
    | dic e ra =>
      have fh : Same F' H' := by obtain ⟨_, r'⟩ := r'; exact r'.fh
      refine ⟨_, _, rfl, .inl ⟨_, fh _ _ e, q _ F' H' s' r' ⟨fun i H hi s => ?_, fun H s => ?_, fun i H x H' d hd s y => ?_⟩⟩⟩
      · exact walk_keys.goes i H (by rw [ra.length]; simpa using hi) (s _ _ e)
      · have := walk_keys.stops H (s _ _ e); rw [ra.length] at this; simpa using this
      · have hk := keys_rep ra
        obtain ⟨v, h6, h7⟩ := hk.get hd
        have hi : i < _ := replace_getElem? h6
        rw [List.length_map] at hi
        obtain ⟨h3, k, v2, h4, h5⟩ := walk_keys.yields i H x H' hi (s _ _ e) y
        rw [List.getElem?_map, h4] at h6
        cases h6
        subst h5
        exact .inl ⟨h3, h7⟩
  | _ => cases h2⟩
def rng1D : D → Option (List D)
  | .int j => if j.natAbs.log2 < 62 then some ((List.range j.toNat).map fun i => D.int (0 + (i : Nat))) else none
  | _ => none
def rng2D : D → D → Option (List D)
  | .int i, .int j => if i.natAbs.log2 < 62 ∧ j.natAbs.log2 < 62 then some ((List.range (j - i).toNat).map fun k => D.int (i + (k : Nat))) else none
  | _, _ => none
theorem si_range1 (h : SE X n e m) (hm : X.mg "range" = none) (hg : Gl X "range" := by rfl) (hs : starEach [e] X.env = [(false, eval e X.env)] := by rfl) : SI X n tg (.Call (.Name "range" p) [e] [] pos) (mOpt rng1D m) :=
  ⟨fun a ha hn => (pi_range1 hg hm (pa_cons (h.run a ha hn) pa_nil hs) hs).w fun σ H R ⟨env, F, ds, env', r, hm, q⟩ => by
  obtain ⟨d, h1, h2⟩ := mOpt_some hm
  refine ⟨env, F, d, _, r, h1, fun v F' H' s' r' rp => ?_⟩
  unfold rng1D at h2
  split at h2
  · split at h2
    · rename_i hb
      cases h2; cases rp
      exact ⟨_, rfl, (w_log hb).1, (w_log hb).2, q _ F' H' s' r' walks_range⟩
    · cases h2
  · cases h2⟩
theorem si_range2 (h : SE X n e m) (h' : SE X n e2 m2) (hm : X.mg "range" = none) (hg : Gl X "range" := by rfl) (hs : starEach [e, e2] X.env = [(false, eval e X.env), (false, eval e2 X.env)] := by rfl) (hs2 : starEach [e2] X.env = [(false, eval e2 X.env)] := by rfl) :
    SI X n tg (.Call (.Name "range" p) [e, e2] [] pos) (mBnd m fun x => mOpt (rng2D x) m2) :=
  ⟨fun a ha hn => (pi_range2 hg hm (pa_cons (h.run a ha hn) (pa_cons (h'.run a ha hn) pa_nil hs2) (by rw [hs, hs2])) hs hs2).w fun σ H R ⟨env, F, ds, env', r, hm, q⟩ => by
  obtain ⟨d, e1, h1, hm⟩ := mBnd_some hm
  obtain ⟨d2, h2, h3⟩ := mOpt_some hm
  refine ⟨env, F, d, _, r, h1, fun v F' H' s' r' rp => ⟨e1, F', d2, _, r', h2, fun v2 F2 H2 s2 r2 rp2 => ?_⟩⟩
  unfold rng2D at h3
  split at h3
  · split at h3
    · rename_i hb
      cases h3; cases rp; cases rp2
      exact ⟨_, _, rfl, ⟨(w_log hb.1).1, (w_log hb.1).2, (w_log hb.2).1, (w_log hb.2).2⟩, q _ F2 H2 (s'.trans s2) r2 walks_range⟩
    · cases h3
  · cases h3⟩
def enumL : Nat → List D → List (D × D)
  | _, [] => []
  | k, d :: ds => (.int k, d) :: enumL (k + 1) ds
theorem enumL_len : ∀ (k : Nat) (ds : List D), (enumL k ds).length = ds.length
  | _, [] => rfl
  | k, d :: ds => by simp [enumL, enumL_len (k + 1) ds]
theorem enumL_get : ∀ {k i : Nat} {ds : List D} {p : D × D}, (enumL k ds)[i]? = some p → p.1 = .int ((k + i : Nat) : Int) ∧ ds[i]? = some p.2
  | _, _, [], _, e => by simp [enumL] at e
  | k, 0, d :: ds, _, e => by simp [enumL] at e; subst e; exact ⟨rfl, rfl⟩
  | k, i + 1, d :: ds, p, e => by
    obtain ⟨h1, h2⟩ := enumL_get (k := k + 1) (i := i) (ds := ds) (p := p) (by simpa [enumL] using e)
    exact ⟨by rw [h1]; congr 1; omega, by simpa using h2⟩
def enD : D → Option (List D)
  | .lst xs => some ((enumL 0 xs).map fun d => .tup [d.1, d.2])
  | .tup xs => some ((enumL 0 xs).map fun d => .tup [d.1, d.2])
  | _ => none
theorem walks_enum {mg : Str → Option Value} {F : Hp} {J : It} {G : Hp → Prop} {vs : List V} {xs : List D} (w : Walk J vs.length G (YPair (fun i => some (.int (i : Nat))) (fun i => vs[i]?))) (r : RepL mg F vs xs) (hG : ∀ H, Same F H → G H) :
    Walks mg F J ((enumL 0 xs).map fun d => .tup [d.1, d.2]) := by
  refine walks_pair (by rw [enumL_len, r.length]) w (fun i d hd v hv => ?_) (fun i d hd v hv => ?_) hG
  · obtain ⟨h1, h2⟩ := enumL_get hd
    cases hv
    rw [h1, Nat.zero_add]; exact .int _
  · obtain ⟨h1, h2⟩ := enumL_get hd
    obtain ⟨u, h3, h4⟩ := r.get h2
    rw [hv] at h3; cases h3; exact h4
theorem si_enum {elts : List Expr} {kk : Nat} {tpos : Pos} (h : SE X n e m) (hm : X.mg "enumerate" = none) (hg : Gl X "enumerate" := by rfl) (hs : starEach [e] X.env = [(false, eval e X.env)] := by rfl) : SI X n (.Tuple elts kk tpos) (.Call (.Name "enumerate" p) [e] [] pos) (mOpt enD m) :=
  ⟨fun a ha hn => ((pi_enum hg hm (pa_cons (h.run a ha hn) pa_nil hs) hs).or (pi_enumT hg hm (pa_cons (h.run a ha hn) pa_nil hs) hs)).w fun σ H R ⟨env, F, ds, env', r, hm, q⟩ => by
  obtain ⟨d, h1, h2⟩ := mOpt_some hm
  cases d with
  | lst xs =>
    cases h2
    refine .inl ⟨env, F, _, _, r, h1, fun v F' H' s' r' rp => ?_⟩
    cases rp with
    | lst e rl =>
      have hs : ∀ H2, Same F' H2 → SqL X.K H2 _ _ := fun H2 s2 => SqL.of (s2 _ _ e)
      have fh : Same F' H' := by obtain ⟨_, r'⟩ := r'; exact r'.fh
      exact ⟨_, _, rfl, hs _ fh, q _ F' H' s' r' (walks_enum walk_enum rl hs)⟩
  | tup xs =>
    cases h2
    refine .inr ⟨env, F, _, _, r, h1, fun v F' H' s' r' rp => ?_⟩
    cases rp with
    | tup e rl =>
      have hs : ∀ H2, Same F' H2 → SqT X.K H2 _ _ := fun H2 s2 => SqT.of (s2 _ _ e)
      have fh : Same F' H' := by obtain ⟨_, r'⟩ := r'; exact r'.fh
      exact ⟨_, _, rfl, hs _ fh, q _ F' H' s' r' (walks_enum walk_enumT rl hs)⟩
  | _ => cases h2⟩
def zpD : D → D → Option (List D)
  | .lst xs, .lst ys => some ((xs.zip ys).map fun d => .tup [d.1, d.2])
  | .tup xs, .tup ys => some ((xs.zip ys).map fun d => .tup [d.1, d.2])
  | _, _ => none
theorem zip_get {α β : Type} : ∀ {xs : List α} {ys : List β} {i : Nat} {p : α × β}, (xs.zip ys)[i]? = some p → xs[i]? = some p.1 ∧ ys[i]? = some p.2
  | [], _, _, _, e => by simp at e
  | _ :: _, [], _, _, e => by simp at e
  | x :: xs, y :: ys, 0, _, e => by simp at e; subst e; exact ⟨rfl, rfl⟩
  | x :: xs, y :: ys, i + 1, p, e => by
    obtain ⟨h1, h2⟩ := zip_get (i := i) (p := p) (by simpa using e)
    exact ⟨by simpa using h1, by simpa using h2⟩
end
end HU
namespace HU
open PySem PySem.Spec L2
section
variable {X : Cx} {n : Nat} {tg e e2 : Expr} {pos p : Pos} {m k : Mr D}
theorem walk_zipT {K : PySem.W.Frag} {a b : Addr} {xs ys : List V} {n : Nat} (hn : n = min xs.length ys.length) : Walk (RZ.ItzT K a b) n (fun H => SqT K H a xs ∧ SqT K H b ys) (YPair (fun i => xs[i]?) (fun i => ys[i]?)) := by
  subst hn
  refine ⟨fun i _ hi q => ?_, fun _ q => ⟨xs, ys, q.1, q.2, by omega⟩, fun i H v H' _ q y => ?_⟩
  · have h1 : i < xs.length := by omega
    have h2 : i < ys.length := by omega
    exact ⟨xs, ys, xs[i], ys[i], q.1, q.2, by simp [h1], by simp [h2]⟩
  · obtain ⟨T, x, z, h1, h2, h3, h4, h5⟩ := y
    exact ⟨T, x, z, h1, h2, h3, h4 xs q.1, h5 ys q.2⟩
theorem walks_zip {mg : Str → Option Value} {F : Hp} {J : It} {G : Hp → Prop} {vs us : List V} {xs ys : List D} (w : Walk J (min vs.length us.length) G (YPair (fun i => vs[i]?) (fun i => us[i]?))) (r : RepL mg F vs xs) (r2 : RepL mg F us ys) (hG : ∀ H, Same F H → G H) :
    Walks mg F J ((xs.zip ys).map fun d => .tup [d.1, d.2]) := by
  refine walks_pair (by rw [List.length_zip, r.length, r2.length]) w (fun i d hd v hv => ?_) (fun i d hd v hv => ?_) hG
  · obtain ⟨u, h3, h4⟩ := r.get (zip_get hd).1
    rw [hv] at h3; cases h3; exact h4
  · obtain ⟨u, h3, h4⟩ := r2.get (zip_get hd).2
    rw [hv] at h3; cases h3; exact h4
theorem si_zip {elts : List Expr} {kk : Nat} {tpos : Pos} (h : SE X n e m) (h' : SE X n e2 k) (hm : X.mg "zip" = none) (hg : Gl X "zip" := by rfl) (hs : starEach [e, e2] X.env = [(false, eval e X.env), (false, eval e2 X.env)] := by rfl) (hs2 : starEach [e2] X.env = [(false, eval e2 X.env)] := by rfl) (hpl : (backTo pos (starEach [e2] X.env)).any (·.1) = false := by rfl) :
    SI X n (.Tuple elts kk tpos) (.Call (.Name "zip" p) [e, e2] [] pos) (mBnd m fun x => mOpt (zpD x) k) :=
  ⟨fun a ha hn => (RZ.pi_zipA hg hm (pa_cons (h.run a ha hn) (pa_cons (h'.run a ha hn) pa_nil hs2) (by rw [hs, hs2])) (by rw [hs, hs2]) hpl).w fun σ H R ⟨env, F, ds, env', r, hm, q⟩ => by
  obtain ⟨d, e1, h1, hm⟩ := mBnd_some hm
  obtain ⟨d2, h2, h3⟩ := mOpt_some hm
  refine ⟨env, F, d, _, r, h1, fun v F' H' s' r' rp => ⟨e1, F', d2, _, r', h2, fun v2 F2 H2 s2 r2 rp2 => ?_⟩⟩
  have fh : Same F2 H2 := by obtain ⟨_, r'⟩ := r2; exact r'.fh
  have rp := rp.mono s2
  unfold zpD at h3
  split at h3
  · cases h3
    cases rp with
    | lst e rl =>
      cases rp2 with
      | lst e' rl' =>
        have hs : ∀ H2, Same F2 H2 → SqL X.K H2 _ _ ∧ SqL X.K H2 _ _ := fun H2 s2 => ⟨SqL.of (s2 _ _ e), SqL.of (s2 _ _ e')⟩
        exact ⟨_, _, _, _, rfl, .inl ⟨(hs _ fh).1, (hs _ fh).2, q _ F2 H2 (s'.trans s2) r2 (walks_zip (walk_zip rfl) rl rl' hs)⟩⟩
  · cases h3
    cases rp with
    | tup e rl =>
      cases rp2 with
      | tup e' rl' =>
        have hs : ∀ H2, Same F2 H2 → SqT X.K H2 _ _ ∧ SqT X.K H2 _ _ := fun H2 s2 => ⟨SqT.of (s2 _ _ e), SqT.of (s2 _ _ e')⟩
        exact ⟨_, _, _, _, rfl, .inr ⟨(hs _ fh).1, (hs _ fh).2, q _ F2 H2 (s'.trans s2) r2 (walks_zip (walk_zipT rfl) rl rl' hs)⟩⟩
  · cases h3⟩
/-! ### a dict's items, values -/
def kD : Key → D
  | .inl i => .int i
  | .inr x => .str x
theorem kD_rep {mg : Str → Option Value} {F : Hp} : ∀ k : Key, Rep mg F (kV k) (kD k)
  | .inl i => .int i
  | .inr x => .str x
def itemsD : D → Option (List D)
  | .dic kvs => some ((kvs.map fun kv => (kD kv.1, kv.2)).map fun d => .tup [d.1, d.2])
  | _ => none
def valuesD : D → Option (List D)
  | .dic kvs => some (kvs.map (·.2))
  | _ => none
theorem RepA.getI {κ : Type} {mg : Str → Option Value} {F : Hp} : ∀ {ws : List (κ × V)} {kvs : List (κ × D)} {i : Nat} {d : κ × D}, RepA mg F ws kvs → kvs[i]? = some d → ∃ v, ws[i]? = some (d.1, v) ∧ Rep mg F v d.2
  | _, _, _, _, .nil, e => by simp at e
  | _, _, 0, _, .cons a r, e => by simp at e; subst e; exact ⟨_, rfl, a⟩
  | _, _, i + 1, _, .cons a r, e => by
    obtain ⟨v, h1, h2⟩ := RepA.getI (i := i) r (by simpa using e)
    exact ⟨v, by simpa using h1, h2⟩
theorem si_items {elts : List Expr} {kk : Nat} {tpos apos cpos : Pos} (h : SE X n e m) (hp : ∀ a : Ax, a.mg = X.mg → a.n = n → PI X (.Tuple elts kk tpos) (.Call (.Attribute e "items" apos) [] [] cpos) (iItems (rdE a m))) :
    SI X n (.Tuple elts kk tpos) (.Call (.Attribute e "items" apos) [] [] cpos) (mOpt itemsD m) := ⟨fun a ha hn => (hp a ha hn).w fun σ H R ⟨env, F, ds, env', r, hm, q⟩ => by
  obtain ⟨d, h1, h2⟩ := mOpt_some hm
  refine ⟨env, F, d, _, r, h1, fun v F' H' s' r' rp => ?_⟩
  unfold itemsD at h2
  split at h2
  · cases h2
    cases rp with
    | dic e ra =>
      have fh : Same F' H' := by obtain ⟨_, r'⟩ := r'; exact r'.fh
      refine ⟨_, _, _, rfl, fh _ _ e, q _ F' H' s' r' (walks_pair (by rw [List.length_map, ra.length]) walk_items (fun i d hd v hv => ?_) (fun i d hd v hv => ?_) fun H s => s _ _ e)⟩
      · simp only [List.getElem?_map, Option.map_eq_some_iff] at hd hv
        obtain ⟨kv, h5, rfl⟩ := hd
        obtain ⟨w, h6, rfl⟩ := hv
        obtain ⟨u, h7, h8⟩ := ra.getI h5
        rw [h6] at h7; cases h7
        exact kD_rep _
      · simp only [List.getElem?_map, Option.map_eq_some_iff] at hd hv
        obtain ⟨kv, h5, rfl⟩ := hd
        obtain ⟨w, h6, rfl⟩ := hv
        obtain ⟨u, h7, h8⟩ := ra.getI h5
        rw [h6] at h7; cases h7
        exact h8
  · cases h2⟩
theorem si_values {apos cpos : Pos} (h : SE X n e m) (hp : ∀ a : Ax, a.mg = X.mg → a.n = n → PI X tg (.Call (.Attribute e "values" apos) [] [] cpos) (iVals (rdE a m))) :
    SI X n tg (.Call (.Attribute e "values" apos) [] [] cpos) (mOpt valuesD m) := ⟨fun a ha hn => (hp a ha hn).w fun σ H R ⟨env, F, ds, env', r, hm, q⟩ => by
  obtain ⟨d, h1, h2⟩ := mOpt_some hm
  refine ⟨env, F, d, _, r, h1, fun v F' H' s' r' rp => ?_⟩
  unfold valuesD at h2
  split at h2
  · cases h2
    cases rp with
    | dic e ra =>
      have fh : Same F' H' := by obtain ⟨_, r'⟩ := r'; exact r'.fh
      refine ⟨_, _, _, rfl, fh _ _ e, q _ F' H' s' r' ⟨fun i H hi s => ?_, fun H s => ?_, fun i H x H' d hd s y => ?_⟩⟩
      · exact walk_values.goes i H (by rw [ra.length]; simpa using hi) (s _ _ e)
      · have := walk_values.stops H (s _ _ e); rw [ra.length] at this; simpa using this
      · simp only [List.getElem?_map, Option.map_eq_some_iff] at hd
        obtain ⟨kv, h5, rfl⟩ := hd
        obtain ⟨u, h7, h8⟩ := ra.getI h5
        obtain ⟨h3, k, h4⟩ := walk_values.yields i H x H' (replace_getElem? h7) (s _ _ e) y
        rw [h7] at h4; cases h4
        exact .inl ⟨h3, h8⟩
  · cases h2⟩
end
end HU
set_option maxRecDepth 100000
namespace HU
open PySem PySem.Spec L2
section
variable {X : Cx} {n : Nat} {e e2 : Expr} {pos p p2 apos : Pos}
/-! ### an instance's field -/
def fldD (c f : Str) : D → Option D
  | .ins c' fs => if c' = c then fs.lookup f else none
  | _ => none
theorem RepA.look {mg : Str → Option Value} {F : Hp} : ∀ {ws : List (Str × V)} {fs : List (Str × D)} {f : Str} {d : D}, RepA mg F ws fs → fs.lookup f = some d → ∃ v, ws.lookup f = some v ∧ Rep mg F v d
  | _, _, _, _, .nil, e => by cases e
  | _, _, f, d, .cons (k := j) a r, e => by
    rw [List.lookup_cons] at e ⊢
    cases q : f == j with
    | true => rw [q] at e; cases e; exact ⟨_, rfl, a⟩
    | false => rw [q] at e; exact RepA.look r e
theorem se_fld {c f : Str} {τ : Type} {pa : Mr τ} {qa : τ → List Sl → Option D} {C : Addr} (h : SV X n e pa qa) (hC : X.mg c = some (.ref C)) (cl : Cls X.K C) (na : NoAttr X.K C f)
    (hb : attributeBase e f X.env (eval e X.env) = eval e X.env := by rfl) : SE X n (.Attribute e f pos) (mOp1 (fldD c f) pa qa) := ⟨fun a ha hn => (pe_fld (h.run a ha hn) hb).w fun σ H Q ⟨env, F, d, env', r, hm, q⟩ => by
  obtain ⟨t, dx, h1, h2, h3⟩ := mOp1_some hm
  refine ⟨env, F, t, _, r, h1, fun v F' H' s' r' vw => ?_⟩
  have fh : Same F' H' := by obtain ⟨_, r'⟩ := r'; exact r'.fh
  have vx := vw _ F' H' dx (Same.refl F') r' h2
  unfold fldD at h3
  split at h3
  · split at h3
    · rename_i hcc
      subst hcc
      obtain ⟨p, C', dx', ws, rfl, hm', hp, ra⟩ := vw_ins fh vx
      rw [ha, hC] at hm'
      cases hm'
      obtain ⟨v, h4, h5⟩ := ra.look h3
      exact ⟨p, _, dx', ws, v, rfl, hp, cl, na, h4, q v F' H' s' r' h5⟩
    · cases h3
  · cases h3⟩
/-! ### slices -/
structure SO (X : Cx) (n : Nat) (e : Option Expr) (m : Mr (Option Int)) : Prop where
  run : ∀ a, a.mg = X.mg → a.n = n → PO X e (fun σ H Q => ∃ env F o env', RX a env σ F H ∧ m env = some (o, env') ∧ ∀ F' H', Same F F' → RX a env' σ F' H' → Q o H')
theorem _root_.L2.PO.w {e : Option Expr} {t t' : TO} (h : PO X e t) (w : ∀ σ H Q, t' σ H Q → t σ H Q) : PO X e t' := ⟨fun pins s σ H Q I q => h.run pins s σ H Q I (w _ _ _ q)⟩
theorem so_none : SO X n none (mRet none) := ⟨fun a ha hn => po_none.w fun σ H Q ⟨env, F, o, env', r, hm, q⟩ => by cases hm; exact q F H (Same.refl F) r⟩
def intO : D → Option (Option Int)
  | .int i => some (some i)
  | _ => none
theorem so_some {m : Mr D} (h : SE X n e m) : SO X n (some e) (mOpt intO m) := ⟨fun a ha hn => (po_some (h.run a ha hn)).w fun σ H Q ⟨env, F, o, env', r, hm, q⟩ => by
  obtain ⟨d, h1, h2⟩ := mOpt_some hm
  refine ⟨env, F, d, _, r, h1, fun v F' H' s' r' rp => ?_⟩
  unfold intO at h2
  split at h2
  · cases h2; cases rp; exact ⟨_, rfl, q F' H' s' r'⟩
  · cases h2⟩
def cutL {α : Type} (xs : List α) (lo hi : Option Int) : List α := (xs.drop (HT.sIx xs.length 0 lo)).take (HT.sIx xs.length xs.length hi - HT.sIx xs.length 0 lo)
def sliceD (d : D) (lo hi : Option Int) : Option Sl := match d with
  | .lst xs => some (.lst (cutL xs lo hi))
  | .tup xs => some (.val (.tup (cutL xs lo hi)))
  | .str z => if z.length ≤ sizeLine then some (.val (.str (cutS z lo hi))) else none
  | _ => none
theorem cutL_rep {mg : Str → Option Value} {F : Hp} {vs : List V} {xs : List D} (r : RepL mg F vs xs) (lo hi : Option Int) : RepL mg F (cutV vs lo hi) (cutL xs lo hi) := by
  unfold cutV cutL
  rw [r.length]
  exact (r.drop _).take _
theorem sIx_le {l d : Nat} {o : Option Int} (h : d ≤ l) : HT.sIx l d o ≤ l := HT.sIx_le _ _ h _
theorem cutL_all {α : Type} {xs : List α} {lo hi : Option Int} (h : HT.sIx xs.length 0 lo = 0 ∧ HT.sIx xs.length xs.length hi = xs.length) : cutL xs lo hi = xs := by
  unfold cutL
  rw [h.1, h.2]
  simp
def rSlA3 (K : PySem.W.Frag) : V → Option Int → Option Int → Hp → VK → Prop := fun x lo hi H Q => rSlL K x lo hi H Q ∨ rSlA K x lo hi H Q ∨ rSlS x lo hi H Q
theorem sl_A3 : L2.SlR X (rSlA3 X.K) := sl_list.or (sl_tupA.or sl_str)
def mSl {τ : Type} (pa : Mr τ) (qa : τ → List Sl → Option D) (ml mh : Mr (Option Int)) : Mr Sl := fun env => (pa env).bind fun t => (ml t.2).bind fun l => (mh l.2).bind fun h => (qa t.1 h.2).bind fun d => (sliceD d l.1 h.1).bind fun s => some (s, h.2)
theorem sf_slice {lo hi : Option Expr} {ml mh : Mr (Option Int)} {τ : Type} {pa : Mr τ} {qa : τ → List Sl → Option D} (h : SV X n e pa qa) (hl : SO X n lo ml) (hh : SO X n hi mh) : SF X n (.Subscript e (.Slice lo hi none p2) pos) (mSl pa qa ml mh) :=
  ⟨fun a ha hn => (pe_slice sl_A3 (h.run a ha hn) (hl.run a ha hn) (hh.run a ha hn)).w fun σ H Q ⟨env, F, s, env', r, hm, q⟩ => by
  unfold mSl at hm
  simp only [Option.bind_eq_some_iff] at hm
  obtain ⟨⟨t, e1⟩, h1, ⟨l, e2⟩, h2, ⟨u, e3⟩, h3, d, h4, s', h5, h6⟩ := hm
  cases h6
  refine ⟨env, F, t, e1, r, h1, fun v F1 H1 s1 r1 vw => ⟨e1, F1, l, e2, r1, h2, fun F2 H2 s2 r2 => ⟨e2, F2, u, _, r2, h3, fun F3 H3 s3 r3 => ?_⟩⟩⟩
  have fh : Same F3 H3 := by obtain ⟨_, r'⟩ := r3; exact r'.fh
  have vx := vw _ F3 H3 d (s2.trans s3) r3 h4
  have nl : a.n ≤ e3.length := by obtain ⟨_, r'⟩ := r3; exact r'.nl
  have fin : ∀ {w : V} {H4 : Hp} , NewR a.mg F3 H3 s w H4 → Q w H4 := fun {w H4} nr => by
    obtain ⟨F4, s4, R4⟩ := r3.new nr
    exact q w F4 H4 ((s1.trans s2).trans (s3.trans s4)) nl R4
  unfold sliceD at h5
  split at h5
  · cases h5
    obtain ⟨p, vs, rfl, hp, rp⟩ := vw_lst fh vx
    exact .inl ⟨p, vs, rfl, SqL.of hp, fun x hx => fin ⟨x, _, rfl, hx, rfl, cutL_rep rp l u⟩⟩
  · cases h5
    obtain ⟨p, vs, rfl, hp, rp⟩ := vw_tup fh vx
    refine .inr (.inl ⟨p, vs, rfl, SqT.of hp, fun hw => ?_, fun hw x hx => fin (.inr ⟨x, _, _, rfl, rfl, hx, rfl, cutL_rep rp l u⟩)⟩)
    rw [rp.length] at hw
    rw [cutL_all hw] at fin
    cases vx with
    | rep rv => exact fin (.inl ⟨rfl, rv⟩)
  · split at h5
    · cases h5
      rw [vw_str vx]
      exact .inr (.inr ⟨_, rfl, ‹_›, fin (.inl ⟨rfl, .str _⟩)⟩)
    · cases h5
  · cases h5⟩
def revD : D → Option Sl
  | .lst xs => some (.lst xs.reverse)
  | _ => none
theorem sf_rev {τ : Type} {pa : Mr τ} {qa : τ → List Sl → Option D} {k : Nat} {p1 q2 q3 : Pos} (h : SV X n e pa qa) (hp : ∀ a : Ax, a.mg = X.mg → a.n = n → PE X (.Subscript e (.Slice none none (some (.UnaryOp .USub (.Constant (.int 1) k p1) q2)) q3) pos) (tRevL X.K (rdV a pa qa))) :
    SF X n (.Subscript e (.Slice none none (some (.UnaryOp .USub (.Constant (.int 1) k p1) q2)) q3) pos) (mOp1 revD pa qa) := ⟨fun a ha hn => (hp a ha hn).w fun σ H Q ⟨env, F, s, env', r, hm, q⟩ => by
  obtain ⟨t, dx, h1, h2, h3⟩ := mOp1_some hm
  refine ⟨env, F, t, _, r, h1, fun v F' H' s' r' vw => ?_⟩
  have fh : Same F' H' := by obtain ⟨_, r'⟩ := r'; exact r'.fh
  have vx := vw _ F' H' dx (Same.refl F') r' h2
  unfold revD at h3
  split at h3
  · cases h3
    obtain ⟨p, vs, rfl, hp, rp⟩ := vw_lst fh vx
    refine ⟨p, vs, rfl, SqL.of hp, fun x hx => ?_⟩
    obtain ⟨F4, s4, R4⟩ := r'.new (s := .lst _) (v := .ref x) ⟨x, _, rfl, hx, rfl, rp.rev⟩
    exact q _ F4 _ (s'.trans s4) (by obtain ⟨_, r'⟩ := r'; exact r'.nl) R4
  · cases h3⟩
/-! ### isinstance -/
/-- a class that is asked for: a built-in one, an own one -/
inductive Ty where
  | b (x : String) | o (c : Str)
def tyN : D → String
  | .non => "NoneType"
  | .bl _ => "bool"
  | .int _ => "int"
  | .str _ => "str"
  | .lst _ => "list"
  | .tup _ => "tuple"
  | .dic _ => "dict"
  | .dit _ => "dict"
  | .ins _ _ => ""
/-- the built-in classes that are asked for -/
def knownT : List String := ["int", "bool", "str", "list", "tuple", "dict"]
def kitD (d : D) (t : Ty) : Option Bool := match d, t with
  | .ins c _, .o c' => if c = c' ∧ c = "Web" then some true else none
  | .ins c _, .b x => if x ∈ knownT ∧ c = "Web" then some false else none
  | _, .o c => if c = "Web" then some false else none
  | d, .b x => if x ∈ knownT then some (tyN d == x || (tyN d == "bool" && x == "int")) else none
def isiD (ts : List Ty) (d : D) : Option D := match ts with
  | [] => some (.bl false)
  | t :: r => match kitD d t with
    | some true => some (.bl true)
    | some false => isiD r d
    | none => none
/-- what the written part says of own classes, for isinstance -/
structure InsF (K : PySem.W.Frag) (mg : Str → Option Value) : Prop where
  ty : ∀ c C, mg c = some (.ref C) → c = "Web" → Cls K C ∧ PySem.W.findIn K (.ref C) "__class__" = some (some (.builtin "object.__class__")) ∧ PySem.W.specialIn K (.builtin "object.__class__") "__get__" = some (some (.builtin "getset_descriptor.__get__")) ∧
    PySem.W.takesIn K (.builtin "object.__class__") = some true ∧ PySem.W.mroIn K C (.type "object") = some true
  ib : ∀ c C, mg c = some (.ref C) → c = "Web" → ∀ x ∈ knownT, PySem.W.kitOne K (.ref C) (.type x) = some false
  bi : ∀ c C, mg c = some (.ref C) → c = "Web" → ∀ x ∈ ("NoneType" :: knownT), PySem.W.kitOne K (.type x) (.ref C) = some false
/-- the classes as written values -/
inductive TyR (mg : Str → Option Value) : Ty → V → Value → Prop
  | b (x : String) : TyR mg (.b x) (.ty x) (.type x)
  | o {c : Str} {C : Addr} : mg c = some (.ref C) → TyR mg (.o c) (.ref C) (.ref C)
theorem TyR.cv {mg : Str → Option Value} {t : Ty} {v : V} {u : Value} (h : TyR mg t v u) : ClsV v u := by
  cases h with
  | b x => exact .ty x
  | o _ => exact .own _
/-- the type of what is looked at -/
theorem tyx_of {K : PySem.W.Frag} {mg : Str → Option Value} {F H : Hp} {v : V} {d : D} (I : InsF K mg) (s : Same F H) (vw : Vw mg F H v d) (hd : ∀ kvs, d ≠ .dit kvs) (hi : ∀ c fs, d = .ins c fs → c = "Web") : ∃ t, TyX K H v t ∧ (∀ c fs, d = .ins c fs → ∃ C, mg c = some (.ref C) ∧ t = .ref C) ∧ ((∀ c fs, d ≠ .ins c fs) → t = .type (tyN d)) := by
  cases d with
  | non => rw [vw_non vw]; exact ⟨_, .base .non, (fun _ _ e => nomatch e), fun _ => rfl⟩
  | bl b => rw [vw_bl vw]; exact ⟨_, .base (.bl b), (fun _ _ e => nomatch e), fun _ => rfl⟩
  | int b => rw [vw_int vw]; exact ⟨_, .base (.int b), (fun _ _ e => nomatch e), fun _ => rfl⟩
  | str b => rw [vw_str vw]; exact ⟨_, .base (.str b), (fun _ _ e => nomatch e), fun _ => rfl⟩
  | lst xs => obtain ⟨p, vs, rfl, h, r⟩ := vw_lst s vw; exact ⟨_, .base (.lst h), (fun _ _ e => nomatch e), fun _ => rfl⟩
  | tup xs => obtain ⟨p, vs, rfl, h, r⟩ := vw_tup s vw; exact ⟨_, .base (.tup h), (fun _ _ e => nomatch e), fun _ => rfl⟩
  | dic xs =>
    obtain ⟨p, vs, rfl, h, r⟩ := vw_dic s vw
    rcases h with h | ⟨o, h⟩
    · exact ⟨_, .base (.dK h), (fun _ _ e => nomatch e), fun _ => rfl⟩
    · exact ⟨_, .fDict h, (fun _ _ e => nomatch e), fun _ => rfl⟩
  | dit xs => exact absurd rfl (hd xs)
  | ins c xs =>
    obtain ⟨p, C, dx, ws, rfl, hm, h, r⟩ := vw_ins s vw
    obtain ⟨h1, h2, h3, h4, h5⟩ := I.ty c C hm (hi c xs rfl)
    exact ⟨_, .base (.ins h h1 h2 h3 h4 h5), (fun c' fs' e => by cases e; exact ⟨C, hm, rfl⟩), fun q => absurd rfl (q c xs)⟩
theorem kitB_known : (["NoneType", "bool", "int", "str", "list", "tuple", "dict"].all fun a => knownT.all fun b => decide (kitB a b = some (a == b || (a == "bool" && b == "int")))) = true := by decide +kernel
theorem kit_known {K : PySem.W.Frag} {a b : String} (ha : a ∈ ["NoneType", "bool", "int", "str", "list", "tuple", "dict"]) (hb : b ∈ knownT) : PySem.W.kitOne K (.type a) (.type b) = some (a == b || (a == "bool" && b == "int")) := by
  have h := List.all_eq_true.mp (List.all_eq_true.mp kitB_known a ha) b hb
  exact kit_ty (of_decide_eq_true h)
theorem tyN_mem {d : D} (h : ∀ c fs, d ≠ .ins c fs) : tyN d ∈ ["NoneType", "bool", "int", "str", "list", "tuple", "dict"] := by
  cases d with
  | ins c fs => exact absurd rfl (h c fs)
  | _ => simp [tyN]
theorem kit_at {K : PySem.W.Frag} {mg : Str → Option Value} (I : InsF K mg) {d : D} {t : Value} {ty : Ty} {cv : V} {cu : Value} {b : Bool} (h1 : ∀ c fs, d = .ins c fs → ∃ C, mg c = some (.ref C) ∧ t = .ref C) (h2 : (∀ c fs, d ≠ .ins c fs) → t = .type (tyN d)) (hc : TyR mg ty cv cu)
    (e : kitD d ty = some b) : PySem.W.kitOne K t cu = some b := by
  by_cases hd : ∃ c fs, d = .ins c fs
  · obtain ⟨c, fs, rfl⟩ := hd
    obtain ⟨C, hm, rfl⟩ := h1 c fs rfl
    cases hc with
    | b x =>
      have e : (if x ∈ knownT ∧ c = "Web" then some false else none) = some b := e
      split at e
      · rename_i hx; cases e; exact I.ib c C hm hx.2 x hx.1
      · cases e
    | @o c' C' hm' =>
      have e : (if c = c' ∧ c = "Web" then some true else none) = some b := e
      split at e
      · rename_i hx
        cases e
        rw [← hx.1, hm] at hm'
        cases hm'
        unfold PySem.W.kitOne
        rw [if_pos (by simp)]
      · cases e
  · have hn : ∀ c fs, d ≠ .ins c fs := fun c fs z => hd ⟨c, fs, z⟩
    rw [h2 hn]
    cases hc with
    | b x =>
      have e' : (if x ∈ knownT then some (tyN d == x || (tyN d == "bool" && x == "int")) else none) = some b := by
        unfold kitD at e; cases d <;> first | exact e | exact absurd rfl (hn _ _)
      split at e'
      · rename_i hx; rw [kit_known (tyN_mem hn) hx]; exact e'
      · cases e'
    | @o c C hm' =>
      have e' : (if c = "Web" then some false else none) = some b := by
        unfold kitD at e; cases d <;> first | exact e | exact absurd rfl (hn _ _)
      split at e'
      · rename_i hx
        cases e'
        exact I.bi c C hm' hx _ ((by decide : ∀ a ∈ ["NoneType", "bool", "int", "str", "list", "tuple", "dict"], a ∈ ("NoneType" :: knownT)) _ (tyN_mem hn))
      · cases e'
def noDit : D → Bool
  | .dit _ => false
  | .ins c _ => decide (c = "Web")
  | _ => true
def isiD' (ts : List Ty) (d : D) : Option D := if noDit d = true then isiD ts d else none
inductive TyRs (mg : Str → Option Value) : List Ty → List V → List Value → Prop
  | nil : TyRs mg [] [] []
  | cons {t v u ts vs us} : TyR mg t v u → TyRs mg ts vs us → TyRs mg (t :: ts) (v :: vs) (u :: us)
theorem TyRs.cv {mg : Str → Option Value} : ∀ {ts : List Ty} {vs : List V} {us : List Value}, TyRs mg ts vs us → Paired ClsV vs us
  | _, _, _, .nil => .nil
  | _, _, _, .cons a b => .cons a.cv b.cv
theorem kits_at {K : PySem.W.Frag} {mg : Str → Option Value} (I : InsF K mg) {d : D} {t : Value} (h1 : ∀ c fs, d = .ins c fs → ∃ C, mg c = some (.ref C) ∧ t = .ref C) (h2 : (∀ c fs, d ≠ .ins c fs) → t = .type (tyN d)) :
    ∀ {ts : List Ty} {vs : List V} {us : List Value} {r : D}, TyRs mg ts vs us → isiD ts d = some r → ∃ b, r = .bl b ∧ PySem.W.kitAny K t us = some b
  | _, _, _, _, .nil, e => by cases e; exact ⟨false, rfl, rfl⟩
  | ty :: ts, _, _, r, .cons (u := u) a b, e => by
    unfold isiD at e
    cases q : kitD d ty with
    | none => rw [q] at e; cases e
    | some c =>
      rw [q] at e
      have k := kit_at I h1 h2 a q
      cases c with
      | true => cases e; exact ⟨true, rfl, kitAny_cons k (fun z => nomatch z) fun _ => rfl⟩
      | false =>
        obtain ⟨b', h3, h4⟩ := kits_at I h1 h2 b e
        exact ⟨b', h3, kitAny_cons k (fun _ => h4) fun z => nomatch z⟩
theorem isi_tyx {K : PySem.W.Frag} {mg : Str → Option Value} {F H : Hp} {v : V} {d : D} (I : InsF K mg) (s : Same F H) (vw : Vw mg F H v d) (h : noDit d = true) : ∃ t, TyX K H v t ∧ (∀ c fs, d = .ins c fs → ∃ C, mg c = some (.ref C) ∧ t = .ref C) ∧ ((∀ c fs, d ≠ .ins c fs) → t = .type (tyN d)) :=
  tyx_of I s vw (fun kvs z => by subst z; cases h) fun c fs z => by subst z; exact of_decide_eq_true h
/-- isinstance(e, T) -/
theorem se_isi {x : Str} {τ : Type} {pa : Mr τ} {qa : τ → List Sl → Option D} {ty : Ty} {cv : V} {cu : Value} (I : InsF X.K X.mg) (h : SV X n e pa qa) (hc : PE X e2 (tC cv)) (ht : TyR X.mg ty cv cu) (hm : X.mg x = none) (hx : x = "isinstance") (hg : Gl X x := by rfl)
    (hv : bootBuiltins x = some (.builtin "isinstance") := by decide +kernel) (he : starEach [e, e2] X.env = (false, eval e X.env) :: starEach [e2] X.env := by rfl) (he2 : starEach [e2] X.env = (false, eval e2 X.env) :: starEach [] X.env := by rfl)
    (hn' : x ≠ "__name__" := by decide) (hdb : (x == ("__debug__" : Str)) = false := by decide) (hpl : (backTo pos (starEach [e2] X.env)).any (·.1) = false := by rfl) : SE X n (.Call (.Name x p) [e, e2] [] pos) (mOp1 (isiD' [ty]) pa qa) :=
  ⟨fun a ha hn => (pe_callB call_isi hg hm hv (pa_cons (h.run a ha hn) (pa_cons hc pa_nil he2) he) hn' hdb he hpl).w fun σ H Q ⟨env, F, d, env', r, hm, q⟩ => by
  obtain ⟨t, dx, h1, h2, h3⟩ := mOp1_some hm
  refine ⟨env, F, t, _, r, h1, fun v F' H' s' r' vw => ?_⟩
  have fh : Same F' H' := by obtain ⟨_, r'⟩ := r'; exact r'.fh
  have vx := vw _ F' H' dx (Same.refl F') r' h2
  rw [ha] at vx
  unfold isiD' at h3
  split at h3
  · rename_i hd
    obtain ⟨tv, t1, t2, t3⟩ := isi_tyx I fh vx hd
    obtain ⟨b, rfl, hb⟩ := kits_at I t2 t3 (.cons ht .nil) h3
    have hb1 : PySem.W.kitOne X.K tv cu = some b := by
      unfold isiD at h3
      cases q : kitD dx ty with
      | none => rw [q] at h3; cases h3
      | some c =>
        rw [q] at h3
        have k := kit_at I t2 t3 ht q
        cases c with
        | true => cases h3; exact k
        | false => cases h3; exact k
    exact ⟨v, cv, tv, cu, b, rfl, ht.cv, t1, hb1, q _ F' H' s' r' (.bl b)⟩
  · cases h3⟩
/-- isinstance(e, (T, ..)) -/
theorem se_isiT {x : Str} {τ : Type} {pa : Mr τ} {qa : τ → List Sl → Option D} {tys : List Ty} {cvs : List V} {cus : List Value} {es : List Expr} {k : Nat} {tp : Pos} (I : InsF X.K X.mg) (h : SV X n e pa qa) (hc : PA X es (fun _ H Q => Q cvs H)) (hl : cvs.length ≤ sizeLine) (ht : TyRs X.mg tys cvs cus) (hm : X.mg x = none) (hx : x = "isinstance") (hg : Gl X x := by rfl)
    (hv : bootBuiltins x = some (.builtin "isinstance") := by decide +kernel) (he : starEach [e, .Tuple es k tp] X.env = (false, eval e X.env) :: starEach [.Tuple es k tp] X.env := by rfl) (he2 : starEach [.Tuple es k tp] X.env = (false, eval (.Tuple es k tp) X.env) :: starEach [] X.env := by rfl)
    (hn' : x ≠ "__name__" := by decide) (hdb : (x == ("__debug__" : Str)) = false := by decide) (hpl : (backTo pos (starEach [.Tuple es k tp] X.env)).any (·.1) = false := by rfl) : SE X n (.Call (.Name x p) [e, .Tuple es k tp] [] pos) (mOp1 (isiD' tys) pa qa) :=
  ⟨fun a ha hn => (pe_callB call_isiT hg hm hv (pa_cons (h.run a ha hn) (pa_cons (pe_tup hc) pa_nil he2) he) hn' hdb he hpl).w fun σ H Q ⟨env, F, d, env', r, hm, q⟩ => by
  obtain ⟨t, dx, h1, h2, h3⟩ := mOp1_some hm
  refine ⟨env, F, t, _, r, h1, fun v F' H' s' r' vw => ⟨hl, fun T hT => ?_⟩⟩
  obtain ⟨ow, r'⟩ := r'
  have r2 := r'.frz (o := .tup cvs) hT
  have hF := (r'.fresh hT).1
  have s2 : Same F' (upd F' T (.tup cvs)) := Same.upd hF
  have vx := vw _ _ _ dx s2 ⟨ow, r2⟩ h2
  rw [ha] at vx
  unfold isiD' at h3
  split at h3
  · rename_i hd
    obtain ⟨tv, t1, t2, t3⟩ := isi_tyx I r2.fh vx hd
    obtain ⟨b, rfl, hb⟩ := kits_at I t2 t3 ht h3
    exact ⟨v, T, cvs, tv, cus, b, rfl, upd_same, ht.cv, t1, hb, q _ _ _ (s'.trans s2) ⟨ow, r2⟩ (.bl b)⟩
  · cases h3⟩
end
end HU
set_option maxRecDepth 100000
namespace HU
open PySem PySem.Spec L2
/-! ### what is handed over at a call -/
def rdG' (a : Ax) (m : Mr (List Ag)) : TA := fun σ H Q => ∃ env F gs env', RX a env σ F H ∧ m env = some (gs, env') ∧ ∀ vs F' H', Same F F' → RX a env' σ F' H' → AgsR a.mg F' σ gs vs → Q vs H'
structure AA (X : Cx) (n : Nat) (es : List Expr) (m : Mr (List Ag)) : Prop where
  run : ∀ a, a.mg = X.mg → a.n = n → PA X es (rdG' a m)
/-- .. one thing -/
def rd1 (a : Ax) (m : Mr Ag) : TE := fun σ H Q => ∃ env F g env', RX a env σ F H ∧ m env = some (g, env') ∧ ∀ v F' H', Same F F' → RX a env' σ F' H' → AgR a.mg F' σ g v → Q v H'
structure A1 (X : Cx) (n : Nat) (e : Expr) (m : Mr Ag) : Prop where
  run : ∀ a, a.mg = X.mg → a.n = n → PE X e (rd1 a m)
def aVal (m : Mr D) : Mr Ag := fun env => (m env).map fun r => (.v r.1, r.2)
def aRf (i : Nat) : Mr Ag := fun env => if (env[i]?).any Sl.own = true then some (.rf i, env) else none
def aPk (i : Nat) : Mr Ag := fun env => if ((env[i]?).bind Sl.peek).isSome = true then some (.pk i, env) else none
theorem own_val {a : Ax} {env : List Sl} {σ : L2.St} {F H : Hp} {i : Nat} (r : RX a env σ F H) (h : (env[i]?).any Sl.own = true) : ∃ v, σ[i]? = some (some v) := by
  cases e : env[i]? with
  | none => rw [e] at h; cases h
  | some s =>
    rw [e] at h
    simp only [Option.any_some] at h
    obtain ⟨ow, r⟩ := r
    obtain ⟨o, ho, sr⟩ := r.at e
    cases s <;> first | cases h | skip
    · obtain ⟨p, _, e1, _⟩ := sr; exact ⟨_, by rw [ho, e1]⟩
    · obtain ⟨p, _, e1, _⟩ := sr; exact ⟨_, by rw [ho, e1]⟩
    · obtain ⟨p, _, e1, _⟩ := sr; exact ⟨_, by rw [ho, e1]⟩
    · obtain ⟨p, _, _, _, e1, _⟩ := sr; exact ⟨_, by rw [ho, e1]⟩
    · obtain ⟨p, e1, _⟩ := sr; exact ⟨_, by rw [ho, e1]⟩
theorem peek_val {a : Ax} {env : List Sl} {σ : L2.St} {F H : Hp} {i : Nat} (r : RX a env σ F H) (h : ((env[i]?).bind Sl.peek).isSome = true) : ∃ v, σ[i]? = some (some v) := by
  obtain ⟨s', e⟩ := Option.isSome_iff_exists.mp h
  rw [Option.bind_eq_some_iff] at e
  obtain ⟨s, e1, e2⟩ := e
  by_cases hs : ∃ ns, s = .scr ns
  · obtain ⟨ns, rfl⟩ := hs
    obtain ⟨ow, r⟩ := r
    obtain ⟨o, ho, _, p, od, e3, _⟩ := r.at e1
    exact ⟨_, by rw [ho, e3]⟩
  have : ∃ d, s.see = some d := by cases s <;> first | exact ⟨_, rfl⟩ | exact absurd ⟨_, rfl⟩ hs | cases e2
  obtain ⟨d, e3⟩ := this
  obtain ⟨v, h1, _⟩ := r.see e1 e3
  exact ⟨v, h1⟩
section
variable {X : Cx} {n : Nat} {e : Expr} {es : List Expr} {x : Str} {pos : Pos}
theorem a1_val {m : Mr D} (h : SE X n e m) : A1 X n e (aVal m) := ⟨fun a ha hn => (h.run a ha hn).w fun σ H Q ⟨env, F, g, env', r, hm, q⟩ => by
  simp only [aVal, Option.map_eq_some_iff] at hm
  obtain ⟨z, h1, h2⟩ := hm
  cases h2
  exact ⟨env, F, z.1, z.2, r, h1, fun v F' H' s r' rp => q v F' H' s r' rp⟩⟩
theorem a1_rf (i : Nat) (h : PE X (.Name x pos) (tVar i)) : A1 X n (.Name x pos) (aRf i) := ⟨fun a ha hn => h.w fun σ H Q ⟨env, F, g, env', r, hm, q⟩ => by
  unfold aRf at hm
  split at hm
  · rename_i ho
    cases hm
    obtain ⟨v, hv⟩ := own_val r ho
    exact ⟨v, hv, q v F H (Same.refl F) r hv⟩
  · cases hm⟩
theorem a1_pk (i : Nat) (h : PE X (.Name x pos) (tVar i)) : A1 X n (.Name x pos) (aPk i) := ⟨fun a ha hn => h.w fun σ H Q ⟨env, F, g, env', r, hm, q⟩ => by
  unfold aPk at hm
  split at hm
  · rename_i ho
    cases hm
    obtain ⟨v, hv⟩ := peek_val r ho
    exact ⟨v, hv, q v F H (Same.refl F) r hv⟩
  · cases hm⟩
def aNil : Mr (List Ag) := mRet []
def aCons (m : Mr Ag) (r : Mr (List Ag)) : Mr (List Ag) := mBnd m fun g => mBnd r fun gs => mRet (g :: gs)
theorem aa_nil : AA X n [] aNil := ⟨fun a ha hn => pa_nil.w fun σ H Q ⟨env, F, d, env', r, hm, q⟩ => by cases hm; exact q [] F H (Same.refl F) r .nil⟩
theorem ag_cons {a : Ax} {m : Mr Ag} {ms : Mr (List Ag)} {σ : L2.St} {H : Hp} {Q : List V → Hp → Prop} (h : rdG' a (aCons m ms) σ H Q) : tCons (rd1 a m) (rdG' a ms) σ H Q := by
  obtain ⟨env, F, d, env', r, hm, q⟩ := h
  obtain ⟨d1, e1, h1, hm⟩ := mBnd_some hm
  obtain ⟨ds, e2, h2, hm⟩ := mBnd_some hm
  cases hm
  exact ⟨env, F, d1, e1, r, h1, fun v F1 H1 s1 r1 rp => ⟨e1, F1, _, _, r1, h2, fun vs F2 H2 s2 r2 rps => q (v :: vs) F2 H2 (s1.trans s2) r2 (.cons (rp.mono s2) rps)⟩⟩
theorem aa_cons {m : Mr Ag} {ms : Mr (List Ag)} (h : A1 X n e m) (hs : AA X n es ms) (he : starEach (e :: es) X.env = (false, eval e X.env) :: starEach es X.env := by rfl) : AA X n (e :: es) (aCons m ms) := ⟨fun a ha hn =>
  (pa_cons (h.run a ha hn) (hs.run a ha hn) he).w fun σ H Q h => ag_cons h⟩
/-- keywords -/
structure AK (X : Cx) (n : Nat) (kws : List Keyword) (m : Mr (List Ag)) : Prop where
  run : ∀ a, a.mg = X.mg → a.n = n → PK X kws (rdG' a m)
theorem _root_.L2.PK.w {kws : List Keyword} {t t' : TA} (h : PK X kws t) (w : ∀ σ H Q, t' σ H Q → t σ H Q) : PK X kws t' := ⟨fun pos pins s σ H Q I q => h.run pos pins s σ H Q I (w _ _ _ q)⟩
theorem ak_nil : AK X n [] aNil := ⟨fun a ha hn => pk_nil.w fun σ H Q ⟨env, F, d, env', r, hm, q⟩ => by cases hm; exact q [] F H (Same.refl F) r .nil⟩
theorem ak_cons {nm : Option Str} {kpos : Pos} {kws : List Keyword} {m : Mr Ag} {ms : Mr (List Ag)} (h : A1 X n e m) (hs : AK X n kws ms) : AK X n (⟨nm, e, kpos⟩ :: kws) (aCons m ms) := ⟨fun a ha hn =>
  (pk_cons (h.run a ha hn) (hs.run a ha hn)).w fun σ H Q h => ag_cons h⟩
end
/-! ### defs as they are called -/
structure Cal (P : Program) (w : World) (K : PySem.W.Frag) (mg : Str → Option Value) (base : Heap) (k : Nat) (f : Addr) (fd : FuncData) (ps : List Str) (m : Nat) (φ : Fn) : Prop where
  fn : FnOk P w K mg base CX0 k f fd ps (spF mg m φ)
  bi : Binds K fd ps []
  kp : PySem.W.keepIn K (.ref f) = true
/-- keywords alone: each parameter's value is the keyword's at the place that perm names -/
def perm {α : Type} (pm : List Nat) (l : List α) : List α := pm.filterMap fun i => l[i]?
structure KB0 (K : PySem.W.Frag) (fd : FuncData) (ps ks : List Str) (pm : List Nat) : Prop where
  to : ∀ (s : Shared) (ws : List Value), K.In s.heap → ws.length = ks.length → BindsTo s fd ⟨[], ks.zip ws⟩ (ps.zip (perm pm ws))
def callOf (n : Nat) (f : Fn) (gs : List Ag) (env : List Sl) : Option (Sl × List Sl) := if gs.length = n ∧ agOk gs = true then (slsOf env gs).bind fun sls => (f sls).bind fun r => if r.1.res = true ∧ r.2.length = n then some (r.1, back gs r.2 env) else none else none
theorem callOf_some {n : Nat} {f : Fn} {gs : List Ag} {env e2 : List Sl} {r : Sl} (h : callOf n f gs env = some (r, e2)) : ∃ sls sls', gs.length = n ∧ agOk gs = true ∧ slsOf env gs = some sls ∧ f sls = some (r, sls') ∧ r.res = true ∧ sls'.length = n ∧ e2 = back gs sls' env := by
  unfold callOf at h
  split at h
  · rename_i hc
    simp only [Option.bind_eq_some_iff] at h
    obtain ⟨sls, h1, ⟨r', sls'⟩, h2, h3⟩ := h
    split at h3
    · rename_i hd
      cases h3
      exact ⟨sls, sls', hc.1, hc.2, h1, h2, hd.1, hd.2, rfl⟩
    · cases h3
  · cases h
theorem back_len {gs : List Ag} {sls env : List Sl} : (back gs sls env).length = env.length := by
  unfold back; split
  · simp
  · rfl
/-- the call itself -/
theorem at_call {a : Ax} {env e2 : List Sl} {σ : L2.St} {F H : Hp} {gs : List Ag} {vs : List V} {n : Nat} {f : Fn} {r : Sl} {Q : VK} {E : XK} (R0 : RX a env σ F H) (ag : AgsR a.mg F σ gs vs) (h : callOf n f gs env = some (r, e2))
    (q : ∀ v F' H', Same F F' → a.n ≤ e2.length → RX a (e2 ++ [r]) (σ ++ [some v]) F' H' → Q v H') : spF a.mg n f vs H Q E := by
  obtain ⟨sls, sls', h1, h2, h3, h4, h5, h6, rfl⟩ := callOf_some h
  obtain ⟨ow, R1⟩ := R0
  have hl : a.n ≤ env.length := R1.nl
  obtain ⟨G, c1, c2⟩ := R1.call ag h3 h2
  subst h1
  refine ⟨F, G, sls, r, sls', ag.length.symm, slsOf_len h3, c1, h4, fun v F' H' s hl' r' => q v F' H' s (by rw [back_len]; exact hl) (c2 sls' r v F' H' h5 s h6 r')⟩
def mCallN (n : Nat) (f : Fn) (ms : Mr (List Ag)) : Mr Sl := fun env => (ms env).bind fun g => callOf n f g.1 g.2
def mCallK (n : Nat) (f : Fn) (pm : List Nat) (ms : Mr (List Ag)) : Mr Sl := fun env => (ms env).bind fun g => if g.1.length = n then callOf n f (perm pm g.1) g.2 else none
theorem AgsR.filt {mg : Str → Option Value} {F : Hp} {σ : L2.St} {gs : List Ag} {vs : List V} (h : AgsR mg F σ gs vs) : ∀ pm : List Nat, AgsR mg F σ (perm pm gs) (perm pm vs)
  | [] => .nil
  | i :: pm => by
    have ih := h.filt pm
    unfold perm at ih ⊢
    rw [List.filterMap_cons, List.filterMap_cons]
    cases e : gs[i]? with
    | none =>
      have : vs[i]? = none := by rw [List.getElem?_eq_none_iff] at e ⊢; rw [← h.length]; exact e
      rw [this]; exact ih
    | some g =>
      obtain ⟨v, h1, h2⟩ := h.get e
      rw [h1]; exact .cons h2 ih
theorem vals_perm {vs : List V} {us : List Value} (h : Vals vs us) : ∀ pm : List Nat, Vals (perm pm vs) (perm pm us)
  | [] => .nil
  | i :: pm => by
    have ih := vals_perm h pm
    unfold perm at ih ⊢
    rw [List.filterMap_cons, List.filterMap_cons]
    have get : ∀ {vs : List V} {us : List Value} (i : Nat), Vals vs us → (vs[i]? = none ∧ us[i]? = none) ∨ ∃ v u, vs[i]? = some v ∧ us[i]? = some u ∧ RelV v u := fun {vs us} i h => by
      induction h generalizing i with
      | nil => exact .inl ⟨by simp, by simp⟩
      | cons r t ih => cases i with
        | zero => exact .inr ⟨_, _, rfl, rfl, r⟩
        | succ i => simpa using ih i
    rcases get i h with ⟨e1, e2⟩ | ⟨v, u, e1, e2, r⟩
    · rw [e1, e2]; exact ih
    · rw [e1, e2]; exact .cons r ih
section
variable {X : Cx} {n k m : Nat} {f C : Addr} {fd : FuncData} {ps ks : List Str} {φ : Fn} {x : Str} {p pos apos : Pos} {e o : Expr} {es : List Expr} {kws : List Keyword} {ms : Mr (List Ag)} {pm : List Nat}
/-- f(e, ..) -/
theorem sf_call (F : Cal X.prog X.w X.K X.mg X.base k f fd ps m φ) (hr : Room k X.A) (hm : X.mg x = some (.ref f)) (ha : AA X n (e :: es) ms) (hg : Gl X x := by rfl) (hdb : (x == ("__debug__" : Str)) = false := by decide)
    (he : starEach (e :: es) X.env = (false, eval e X.env) :: starEach es X.env := by rfl) (hpl : (backTo pos (starEach es X.env)).any (·.1) = false := by rfl) : SF X n (.Call (.Name x p) (e :: es) [] pos) (mCallN m φ ms) := ⟨fun a ha' hn =>
  (pe_call F.fn hr hg hm F.kp F.bi .nil pass0 (ha.run a ha' hn) hdb he hpl).w fun σ H Q ⟨env, F0, s, env', r, hm', q⟩ => by
  simp only [mCallN, Option.bind_eq_some_iff] at hm'
  obtain ⟨g, h1, h2⟩ := hm'
  refine ⟨env, F0, g.1, g.2, r, h1, fun vs F' H' s' r' ag => ?_⟩
  show spF X.mg m φ (vs ++ []) H' Q E0
  rw [List.append_nil, ← ha']
  exact at_call r' ag h2 fun v F2 H2 s2 hl r2 => q v F2 H2 (s'.trans s2) hl r2⟩
/-- f() -/
theorem sf_call0 (F : Cal X.prog X.w X.K X.mg X.base k f fd ps m φ) (hr : Room k X.A) (hm : X.mg x = some (.ref f)) (hg : Gl X x := by rfl) (hdb : (x == ("__debug__" : Str)) = false := by decide) : SF X n (.Call (.Name x p) [] [] pos) (mCallN m φ aNil) := ⟨fun a ha' hn =>
  (pe_call0 F.fn hr hg hm F.kp F.bi .nil pass0 hdb).w fun σ H Q ⟨env, F0, s, env', r, hm', q⟩ => by
  simp only [mCallN, Option.bind_eq_some_iff] at hm'
  obtain ⟨g, h1, h2⟩ := hm'
  cases h1
  show spF X.mg m φ [] H Q E0
  rw [← ha']
  exact at_call r .nil h2 fun v F2 H2 s2 hl r2 => q v F2 H2 s2 hl r2⟩
/-- f(a = e, ..) -/
theorem sf_callK (F : Cal X.prog X.w X.K X.mg X.base k f fd ps m φ) (hr : Room k X.A) (hm : X.mg x = some (.ref f)) (hb : KB0 X.K fd ps ks pm) (ha : AK X n kws ms) (hkl : ks.length = m) (hg : Gl X x := by rfl)
    (hall : (backToKw pos (keywordEach kws X.env)).all (·.1.isSome) = true := by rfl) (hks : (backToKw pos (keywordEach kws X.env)).filterMap (·.1) = ks := by rfl) (hdb : (x == ("__debug__" : Str)) = false := by decide)
    (hpl : ((backTo pos (starEach [] X.env)).any (·.1) || (backToKw pos (keywordEach kws X.env)).any (·.1.isNone)) = false := by rfl) : SF X n (.Call (.Name x p) [] kws pos) (mCallK m φ pm ms) := ⟨fun a ha' hn => ⟨fun pins s σ H Q I h => by
  obtain ⟨env, F0, s0, env', r, hm', q⟩ := h
  simp only [mCallK, Option.bind_eq_some_iff] at hm'
  obtain ⟨g, h1, h2⟩ := hm'
  split at h2
  · rename_i hgl
    refine wpAny_Call_Name_kw (ld_glob I hg hm ?_ hdb)
    refine PySem.W.callWith_KW0 (first := []) (h₀ := X.base) I.ok.mod.kin F.kp hall (thn ((ha.run a ha' hn).run pos pins s σ H _ I ⟨env, F0, g.1, g.2, r, h1, fun vs F' H' s' r' ag => (show vs.length = m ∧ spF X.mg m φ (perm pm vs) H' Q E0 from ⟨by rw [← ag.length]; exact hgl, ?_⟩)⟩) fun ws s2 ⟨zs, H2, I2, rz, l1, q2⟩ => ⟨I2.kIn, ?_⟩) hpl
    · rw [← ha']
      exact at_call r' (ag.filt pm) h2 fun v F2 H2 s2 hl r2 => q v F2 H2 (s'.trans s2) hl r2
    · rw [hks]
      have r2 := vals_perm rz pm
      refine wpAny_call (codeAny_mono (F.fn.run X.A X.stack s2 H2 ⟨[], ks.zip ws⟩ (perm pm ws) (perm pm zs) Q E0 hr I2.env0 (hb.to s2 ws I2.kIn (by rw [← rz.length, l1, hkl])) r2 q2) fun r s' hq => ?_)
      cases r with
      | error e => exact hq.elim
      | ok fl =>
        cases fl with
        | ret u => exact I2.after hq
        | next => exact False.elim hq
        | brk => exact False.elim hq
        | cont => exact False.elim hq
  · cases h2⟩⟩

/-! ### methods -/
/-- what is handed as the instance -/
def seeAg (env : List Sl) : Ag → Option D
  | .v d => some d
  | .rf i => (env[i]?).bind Sl.see
  | .pk i => (env[i]?).bind Sl.see
def mMeth (n : Nat) (f : Fn) (c mt : Str) (m0 : Mr Ag) (ms : Mr (List Ag)) : Mr Sl := fun env => (m0 env).bind fun g0 => match seeAg g0.2 g0.1 with
  | some (.ins c' fs) => if c' = c ∧ fs.lookup mt = none then (ms g0.2).bind fun g => callOf n f (g0.1 :: g.1) g.2 else none
  | _ => none
theorem see_ag {a : Ax} {env : List Sl} {σ : L2.St} {F H : Hp} {g : Ag} {v : V} {d : D} (r : RX a env σ F H) (ag : AgR a.mg F σ g v) (h : seeAg env g = some d) : Vw a.mg F H v d := by
  cases g with
  | v d' => cases h; exact .rep ag
  | rf i =>
    obtain ⟨v', h1, h2⟩ := see_at r h
    rw [show σ[i]? = some (some v) from ag] at h1
    cases h1
    exact h2
  | pk i =>
    obtain ⟨v', h1, h2⟩ := see_at r h
    rw [show σ[i]? = some (some v) from ag] at h1
    cases h1
    exact h2
theorem RepA.lookN {mg : Str → Option Value} {F : Hp} : ∀ {ws : List (Str × V)} {fs : List (Str × D)} {f : Str}, RepA mg F ws fs → fs.lookup f = none → ws.lookup f = none
  | _, _, _, .nil, e => rfl
  | _, _, f, .cons (k := j) a r, e => by
    rw [List.lookup_cons] at e ⊢
    cases q : f == j with
    | true => rw [q] at e; cases e
    | false => rw [q] at e; exact RepA.lookN r e
theorem rd_meth {a : Ax} {c mt : Str} {m0 : Mr Ag} {σ : L2.St} {H : Hp} {Q : VK} {E : XK} (hC : a.mg c = some (.ref C)) (h : rdF a (mMeth m φ c mt m0 ms) σ H Q) : tMeth C mt (spF a.mg m φ) [] E (rd1 a m0) (rdG' a ms) σ H Q := by
  obtain ⟨env, F0, s, env', r, hm', q⟩ := h
  simp only [mMeth, Option.bind_eq_some_iff] at hm'
  obtain ⟨g0, h1, h2⟩ := hm'
  refine ⟨env, F0, g0.1, g0.2, r, h1, fun v F1 H1 s1 r1 ag => ?_⟩
  split at h2
  · rename_i c' fs hs
    split at h2
    · rename_i hc
      simp only [Option.bind_eq_some_iff] at h2
      obtain ⟨g, h3, h4⟩ := h2
      have fh : Same F1 H1 := by obtain ⟨_, r'⟩ := r1; exact r'.fh
      obtain ⟨p, C', dx, ws, rfl, hm2, hp, ra⟩ := vw_ins fh (see_ag r1 ag hs)
      rw [hc.1, hC] at hm2
      cases hm2
      refine ⟨p, dx, ws, rfl, hp, ra.lookN hc.2, g0.2, F1, g.1, g.2, r1, h3, fun vs F2 H2 s2 r2 ags => ?_⟩
      show spF a.mg m φ (V.ref p :: (vs ++ [])) H2 Q E
      rw [List.append_nil]
      exact at_call r2 (.cons (ag.mono s2) ags) h4 fun v F3 H3 s3 hl r3 => q v F3 H3 (s1.trans (s2.trans s3)) hl r3
    · cases h2
  · cases h2
theorem sf_meth {pl : Sem Bool} {c mt : Str} {m0 : Mr Ag} (ho : A1 X n o m0) (hC : X.mg c = some (.ref C)) (cl : Cls X.K C) (me : Meth X.K C mt f) (F : Cal X.prog X.w X.K X.mg X.base k f fd ps m φ) (hr : Room k X.A) (ha : AA X n (e :: es) ms)
    (hst : starEach (e :: es) X.env = (false, eval e X.env) :: starEach es X.env := by rfl) (hpl : (backTo pos (starEach es X.env)).any (·.1) = false := by rfl)
    (ht : eval (.Call (.Attribute o mt apos) (e :: es) [] pos) X.env = (do
      let ov ← eval o X.env
      standAt apos.atName
      let (f, first) ← holding [ov] (getMethod ov mt pl)
      callWith pos f first (backTo pos (starEach (e :: es) X.env)) (backToKw pos (keywordEach [] X.env))) := by rfl) :
    SF X n (.Call (.Attribute o mt apos) (e :: es) [] pos) (mMeth m φ c mt m0 ms) := ⟨fun a ha' hn =>
  (pe_meth (pl := pl) (ho.run a ha' hn) cl me F.fn hr F.bi .nil pass0 (ha.run a ha' hn) hst hpl ht).w fun σ H Q h => by
  have z := rd_meth (C := C) (E := E0) (by rw [ha']; exact hC) h
  rw [ha'] at z; exact z⟩
theorem sf_meth0 {pl : Sem Bool} {c mt : Str} {m0 : Mr Ag} (ho : A1 X n o m0) (hC : X.mg c = some (.ref C)) (cl : Cls X.K C) (me : Meth X.K C mt f) (F : Cal X.prog X.w X.K X.mg X.base k f fd ps m φ) (hr : Room k X.A)
    (ht : eval (.Call (.Attribute o mt apos) [] [] pos) X.env = (do
      let ov ← eval o X.env
      standAt apos.atName
      let (f, first) ← holding [ov] (getMethod ov mt pl)
      callWith pos f first (backTo pos (starEach [] X.env)) (backToKw pos (keywordEach [] X.env))) := by rfl) :
    SF X n (.Call (.Attribute o mt apos) [] [] pos) (mMeth m φ c mt m0 aNil) := ⟨fun a ha' hn =>
  (pe_meth0 (pl := pl) (ho.run a ha' hn) cl me F.fn hr F.bi .nil pass0 ht).w fun σ H Q h => by
  have z := rd_meth (C := C) (E := E0) (by rw [ha']; exact hC) h
  rw [ha'] at z
  obtain ⟨env, F0, g, env', r, h1, q⟩ := z
  refine ⟨env, F0, g, env', r, h1, fun v F1 H1 s1 r1 ag => ?_⟩
  obtain ⟨p, dx, ws, e1, e2, e3, q2⟩ := q v F1 H1 s1 r1 ag
  obtain ⟨env2, F2, gs, env3, r2, h2, q3⟩ := q2
  cases h2
  exact ⟨p, dx, ws, e1, e2, e3, q3 [] F2 H1 (Same.refl _) r2 .nil⟩⟩

/-! ### making an instance -/
def isV : Ag → Bool
  | .v _ => true
  | _ => false
def dOf : Ag → D
  | .v d => d
  | _ => .non
def mMake (n : Nat) (f : Fn) (c : Str) (ms : Mr (List Ag)) : Mr Sl := fun env => (ms env).bind fun g => if g.1.all isV = true ∧ g.1.length + 1 = n then
  (f (.ins c [] :: g.1.map fun x => .val (dOf x))).bind fun r => match r with
    | (.val .non, s :: sls) => if s.own = true ∧ sls.length + 1 = n then some (s, g.2) else none
    | _ => none
  else none
theorem slsOf_v {env : List Sl} : ∀ {gs : List Ag}, gs.all isV = true → slsOf env gs = some (gs.map fun x => .val (dOf x))
  | [], _ => rfl
  | .v d :: gs, h => by
    simp only [List.all_cons, isV, Bool.true_and] at h
    simp [slsOf, slsOf_v h, Ag.sl, dOf]
  | .rf _ :: gs, h => by simp [isV] at h
  | .pk _ :: gs, h => by simp [isV] at h
theorem rfs_v : ∀ {gs : List Ag} {k : Nat}, gs.all isV = true → rfs k gs = []
  | [], _, _ => rfl
  | .v d :: gs, k, h => by
    simp only [List.all_cons, isV, Bool.true_and] at h
    simp [rfs, rfs_v h]
  | .rf _ :: gs, _, h => by simp [isV] at h
  | .pk _ :: gs, _, h => by simp [isV] at h
theorem AgsR.vonly {mg : Str → Option Value} {F F' : Hp} {σ σ' : L2.St} (s : Same F F') : ∀ {gs : List Ag} {vs : List V}, gs.all isV = true → AgsR mg F σ gs vs → AgsR mg F' σ' gs vs
  | [], _, _, .nil => .nil
  | .v d :: gs, _, h, .cons a b => by
    simp only [List.all_cons, isV, Bool.true_and] at h
    exact .cons (Rep.mono s a) (b.vonly s h)
  | .rf _ :: gs, _, h, _ => by simp [isV] at h
  | .pk _ :: gs, _, h, _ => by simp [isV] at h
theorem sf_make {c : Str} (M : Mk X.K C f) (F : Cal X.prog X.w X.K X.mg X.base k f fd ps m φ) (hr : Room (k + 1) X.A) (hm : X.mg x = some (.ref C)) (hx : x = c) (ha : AA X n (e :: es) ms) (hg : Gl X x := by rfl) (hdb : (x == ("__debug__" : Str)) = false := by decide)
    (he : starEach (e :: es) X.env = (false, eval e X.env) :: starEach es X.env := by rfl) (hpl : (backTo pos (starEach es X.env)).any (·.1) = false := by rfl) : SF X n (.Call (.Name x p) (e :: es) [] pos) (mMake m φ c ms) := ⟨fun a ha' hn =>
  (pe_make M F.fn hr hg hm F.bi .nil pass0 (ha.run a ha' hn) hdb he hpl).w fun σ H Q ⟨env, F0, s, env', r, hm', q⟩ => by
  subst hx
  simp only [mMake, Option.bind_eq_some_iff] at hm'
  obtain ⟨g, h1, h2⟩ := hm'
  refine ⟨env, F0, g.1, g.2, r, h1, fun vs F1 H1 s1 r1 ag => fun xa dx hxa hdx hne => ?_⟩
  split at h2
  · rename_i hc
    simp only [Option.bind_eq_some_iff] at h2
    obtain ⟨⟨rr, sl⟩, h3, h4⟩ := h2
    split at h4
    · rename_i s' sls' e4
      cases e4
      split at h4
      · rename_i hd
        cases h4
        rw [List.append_nil, ← ha']
        obtain ⟨ow, r1⟩ := r1
        obtain ⟨f1, f2, f3, f4⟩ := r1.fresh hxa
        have s2 : Same H1 (upd H1 dx (.own xa)) := Same.upd hdx
        have hx2 : upd H1 dx (.own xa) xa = none := by rw [upd_ne (Ne.symm hne)]; exact hxa
        have g2 := r1.grow (H' := upd (upd H1 dx (.own xa)) xa (.ins C dx [])) (s2.trans (Same.upd hx2))
        have hbar : a.bar xa = none := by
          cases e : a.bar xa with
          | none => rfl
          | some o => have := r1.bh xa o e; rw [hxa] at this; cases this
        have R2 : RX a (g.2 ++ [.ins x []]) (σ ++ [some (.ref xa)]) F1 (upd (upd H1 dx (.own xa)) xa (.ins C dx [])) :=
          R.snoc g2 (ps := [xa]) ⟨xa, C, dx, [], rfl, rfl, by rw [ha']; exact hm, upd_same, .nil⟩ (by simp) (fun p hp => by rw [List.mem_singleton.mp hp]; exact ⟨f1, f2, f3⟩) (fun p hp j hj => by rw [List.mem_singleton.mp hp] at hj; exact f4 j hj) (fun p hp => by rw [List.mem_singleton.mp hp]; exact hbar)
        have hlen : g.2.length = σ.length := r1.ln
        have agx : AgsR a.mg F1 (σ ++ [some (.ref xa)]) (.rf g.2.length :: g.1) (.ref xa :: vs) := .cons (show (σ ++ [some (V.ref xa)])[g.2.length]? = some (some (V.ref xa)) by rw [hlen]; exact get_snoc) (ag.vonly (Same.refl _) hc.1)
        have hs : slsOf (g.2 ++ [Sl.ins x []]) (.rf g.2.length :: g.1) = some (Sl.ins x [] :: g.1.map fun x => Sl.val (dOf x)) := by
          simp [slsOf, slsOf_v hc.1, Ag.sl, Sl.own]
        have hrf : rfs 0 (.rf g.2.length :: g.1) = [(0, g.2.length)] := by simp [rfs, rfs_v hc.1]
        have hok : agOk (.rf g.2.length :: g.1) = true := by
          unfold agOk
          rw [hrf]
          simp only [List.length_singleton, Nat.le_refl, decide_true, Bool.true_and, List.all_cons, List.all_nil, Bool.and_true]
          rw [List.all_eq_true]
          intro y hy
          have hy2 := List.all_eq_true.mp hc.1 y hy
          cases y with
          | pk i => cases hy2
          | v d => rfl
          | rf i => rfl
        have hcall : callOf m φ (.rf g.2.length :: g.1) (g.2 ++ [Sl.ins x []]) = some (.val .non, g.2 ++ [s.keep]) := by
          unfold callOf
          rw [if_pos ⟨by simp [hc.2], hok⟩, hs]
          simp only [Option.bind_some]
          rw [h3]
          simp only [Option.bind_some]
          rw [if_pos ⟨rfl, by simpa using hd.2⟩]
          unfold back
          rw [hrf]
          simp
        refine at_call R2 agx hcall fun v F' H' s' hl r' => ?_
        obtain ⟨ow', r''⟩ := r'
        have hv : v = .non := by
          have z := r''.sl (g.2.length + 1) (.val .non) (by simp)
          have e9 : ((σ ++ [some (V.ref xa)]) ++ [some v])[g.2.length + 1]? = some (some v) := by simp [hlen]
          rw [e9] at z
          obtain ⟨_, v', e5, e6⟩ := z
          cases e5; cases e6; rfl
        refine ⟨hv, q (.ref xa) F' H' (s1.trans s') (by obtain h := r1.nl; exact h) ?_⟩
        have hk : s.keep = s := by unfold Sl.keep; rw [if_pos hd.1]
        rw [hk] at r''
        exact RX.init ⟨ow', r''⟩ (by simp; have := r1.nl; omega)
      · cases h4
    · cases h4
  · cases h2⟩
end
end HU
set_option maxRecDepth 100000
namespace HU
open PySem PySem.Spec L2
/-! ### an own object is changed in place -/
theorem R.write {a : Ax} {env : List Sl} {σ : L2.St} {F H : Hp} {ow : Nat → List Addr} (r : RX a env σ F H) {i : Nat} {p : Addr} {s s' : Sl} {u' : HO} (e : env[i]? = some s) (he : s.own = true) (hv : σ[i]? = some (some (.ref p))) (hs1 : ∀ st, s ≠ .stm st)
    (q : SlR a.mg a.G F (upd H p u') s' (some (.ref p)) [p]) (nt : ∀ ys, u' ≠ .tup ys) : RX a (env.set i s') σ F (upd H p u') := by
  obtain ⟨ow, r⟩ := r
  have hi : i < env.length := (List.getElem?_eq_some_iff.mp e).1
  obtain ⟨o, ho, sr⟩ := r.at e
  rw [hv] at ho; cases ho
  have hp : ow i = [p] := by
    cases s <;> first | cases he | skip
    · obtain ⟨p', _, e1, e2, _⟩ := sr; cases e1; exact e2
    · obtain ⟨p', _, e1, e2, _⟩ := sr; cases e1; exact e2
    · obtain ⟨p', _, e1, e2, _⟩ := sr; cases e1; exact e2
    · obtain ⟨p', _, _, _, e1, e2, _⟩ := sr; cases e1; exact e2
    · exact absurd rfl (hs1 _)
  have hm : p ∈ ow i := by rw [hp]; simp
  obtain ⟨f1, f2, f3⟩ := r.of i p hm
  have hb := r.ob i p hm
  refine ⟨ow, ⟨by simp [r.ln], by simp [r.nl], fun x o ex => ?_, fun x o ex => ?_, r.ff, r.nw, fun x ex => ?_, fun j t ej => ?_, fun j hj => r.oz j (by simpa using hj), r.oi, r.on, r.of, fun x o ex => ?_, r.bf, r.ob, fun j t v hj ej ow' ev => ?_⟩⟩
  · have z : x ≠ p := by rintro rfl; rw [f1] at ex; cases ex
    rw [upd_ne z]; exact r.fh x o ex
  · have z : x ≠ p := by rintro rfl; rw [f2] at ex; cases ex
    rw [upd_ne z]; exact r.gh x o ex
  · have z : x ≠ p := by rintro rfl; rw [upd_same] at ex; cases ex
    rw [upd_ne z] at ex; exact r.dm x ex
  · by_cases z : j = i
    · subst z
      rw [List.getElem?_set_self hi] at ej
      cases ej
      rw [hp, hv]; exact q
    · rw [List.getElem?_set_ne (Ne.symm z)] at ej
      exact (r.sl j t ej).mono (Same.refl F) (Same.refl _) fun x hx => upd_ne (by rintro rfl; exact z (r.oi j i x hx hm))
  · have z : x ≠ p := by rintro rfl; rw [hb] at ex; cases ex
    rw [upd_ne z]; exact r.bh x o ex
  · by_cases z : j = i
    · subst z
      exact r.pr j s v hj e he ev
    · rw [List.getElem?_set_ne (Ne.symm z)] at ej
      exact r.pr j t v hj ej ow' ev
section
variable {a : Ax} {env : List Sl} {σ : L2.St} {F H : Hp} {i : Nat}
theorem own_lst {xs : List D} (r : RX a env σ F H) (e : env[i]? = some (.lst xs)) : ∃ p vs, σ[i]? = some (some (.ref p)) ∧ H p = some (.lst vs) ∧ RepL a.mg F vs xs := by
  obtain ⟨ow, r⟩ := r
  obtain ⟨o, ho, p, vs, e1, e2, e3, q⟩ := r.at e
  exact ⟨p, vs, by rw [ho, e1], e3, q⟩
theorem own_dic {xs : List (Key × D)} (r : RX a env σ F H) (e : env[i]? = some (.dic xs)) : ∃ p vs, σ[i]? = some (some (.ref p)) ∧ H p = some (.dK vs) ∧ RepA a.mg F vs xs := by
  obtain ⟨ow, r⟩ := r
  obtain ⟨o, ho, p, vs, e1, e2, e3, q⟩ := r.at e
  exact ⟨p, vs, by rw [ho, e1], e3, q⟩
theorem own_dit {xs : List (List Key × D)} (r : RX a env σ F H) (e : env[i]? = some (.dit xs)) : ∃ p vs, σ[i]? = some (some (.ref p)) ∧ H p = some (.dT vs) ∧ RepA a.mg F vs xs := by
  obtain ⟨ow, r⟩ := r
  obtain ⟨o, ho, p, vs, e1, e2, e3, q⟩ := r.at e
  exact ⟨p, vs, by rw [ho, e1], e3, q⟩
theorem own_ins {c : Str} {fs : List (Str × D)} (r : RX a env σ F H) (e : env[i]? = some (.ins c fs)) : ∃ p C dx ws, σ[i]? = some (some (.ref p)) ∧ a.mg c = some (.ref C) ∧ H p = some (.ins C dx ws) ∧ RepA a.mg F ws fs := by
  obtain ⟨ow, r⟩ := r
  obtain ⟨o, ho, p, C, dx, vs, e1, e2, e3, e4, q⟩ := r.at e
  exact ⟨p, C, dx, vs, by rw [ho, e1], e3, e4, q⟩
theorem RX.setLst {xs xs' : List D} {p : Addr} {vs' : List V} (r : RX a env σ F H) (e : env[i]? = some (.lst xs)) (hv : σ[i]? = some (some (.ref p))) (q : RepL a.mg F vs' xs') : RX a (env.set i (.lst xs')) σ F (upd H p (.lst vs')) :=
  R.write (ow := fun _ => []) r e rfl hv (fun _ z => nomatch z) ⟨p, vs', rfl, rfl, upd_same, q⟩ (fun _ z => nomatch z)
theorem RX.setDic {xs xs' : List (Key × D)} {p : Addr} {vs' : List (Key × V)} (r : RX a env σ F H) (e : env[i]? = some (.dic xs)) (hv : σ[i]? = some (some (.ref p))) (q : RepA a.mg F vs' xs') : RX a (env.set i (.dic xs')) σ F (upd H p (.dK vs')) :=
  R.write (ow := fun _ => []) r e rfl hv (fun _ z => nomatch z) ⟨p, vs', rfl, rfl, upd_same, q⟩ (fun _ z => nomatch z)
theorem RX.setDit {xs xs' : List (List Key × D)} {p : Addr} {vs' : List (List Key × V)} (r : RX a env σ F H) (e : env[i]? = some (.dit xs)) (hv : σ[i]? = some (some (.ref p))) (q : RepA a.mg F vs' xs') : RX a (env.set i (.dit xs')) σ F (upd H p (.dT vs')) :=
  R.write (ow := fun _ => []) r e rfl hv (fun _ z => nomatch z) ⟨p, vs', rfl, rfl, upd_same, q⟩ (fun _ z => nomatch z)
end
/-! ### methods of a list that a name holds -/
/-- what a method of an own list does -/
abbrev LMeth (mg : Str → Option Value) (r : V → List V → Hp → VK → Prop) (g : List D → List D → Option (D × List D)) : Prop := ∀ (F H : Hp) (p : Addr) (us vs : List V) (xs ds : List D) (y : D) (ys : List D) (Q : VK), Same F H → H p = some (.lst us) → RepL mg F us xs → RepL mg F vs ds →
  g xs ds = some (y, ys) → (∀ w ws, Rep mg F w y → RepL mg F ws ys → Q w (upd H p (.lst ws))) → r (.ref p) vs H Q
def isLst : Sl → Bool
  | .lst _ => true
  | _ => false
def mLM (i : Nat) (g : List D → List D → Option (D × List D)) (ms : Mr (List D)) : Mr D := fun env => if (env[i]?).any isLst = true then (ms env).bind fun t => match t.2[i]? with
    | some (.lst xs) => (g xs t.1).map fun q => (q.1, t.2.set i (.lst q.2))
    | _ => none
  else none
section
variable {X : Cx} {n i : Nat} {e : Expr} {es : List Expr} {x name : Str} {pos apos cpos px : Pos} {id : String} {r : V → List V → Hp → VK → Prop} {g : List D → List D → Option (D × List D)} {ms : Mr (List D)}
theorem lm_at {a : Ax} {env : List Sl} {σ : L2.St} {F H : Hp} (R0 : RX a env σ F H) (h : (env[i]?).any isLst = true) : ∃ xs, env[i]? = some (.lst xs) := by
  cases e : env[i]? with
  | none => rw [e] at h; cases h
  | some s =>
    rw [e] at h
    cases s <;> first | exact ⟨_, rfl⟩ | cases h
theorem rd_lm {a : Ax} {σ : L2.St} {H : Hp} {Q : VK} (lm : LMeth a.mg r g) (h : rdE a (mLM i g ms) σ H Q) : tBM X.K "list" r (tVar i) (rdA a ms) σ H Q := by
  obtain ⟨env, F, d, env', r0, hm, q⟩ := h
  unfold mLM at hm
  split at hm
  · rename_i h0
    simp only [Option.bind_eq_some_iff] at hm
    obtain ⟨t, h1, h2⟩ := hm
    split at h2
    · rename_i xs h3
      simp only [Option.map_eq_some_iff] at h2
      obtain ⟨z, h4, h5⟩ := h2
      cases h5
      obtain ⟨xs0, e0⟩ := lm_at r0 h0
      obtain ⟨p, us, k1, k2, k3⟩ := own_lst r0 e0
      refine ⟨.ref p, k1, .inl ⟨rfl, us, SqL.of k2⟩, env, F, t.1, t.2, r0, h1, fun vs F1 H1 s1 r1 rp => ?_⟩
      obtain ⟨p', us', k1', k2', k3'⟩ := own_lst r1 h3
      rw [k1] at k1'; cases k1'
      have fh : Same F1 H1 := by obtain ⟨_, r'⟩ := r1; exact r'.fh
      exact lm F1 H1 p us' vs xs t.1 z.1 z.2 Q fh k2' k3' rp h4 fun w ws hw hws => q w F1 _ s1 (r1.setLst h3 k1 hws) hw
    · cases h2
  · cases hm
/-- x.m(e, ..) -/
theorem se_lm (slot : PySem.Slot "list" name id) (hty : typeOf (.builtin id) = pure (.type "method_descriptor")) (hmt : MtR X id r) (lm : LMeth X.mg r g) (ho : PE X (.Name x px) (tVar i)) (ha : SA X n (e :: es) ms)
    (hbase : attributeBase (.Name x px) name X.env (eval (.Name x px) X.env) = eval (.Name x px) X.env := by rfl)
    (hfew : ((backTo cpos (starEach (e :: es) X.env)).all (fun x => !x.1) && (backToKw cpos (keywordEach [] X.env)).all (fun x => x.1.isSome)
      && decide ((e :: es).length + ([] : List Keyword).length + (if ([] : List Keyword).isEmpty then 0 else 1) < 30)) = true := by rfl)
    (hline : (apos.endLine == cpos.line) = true := by rfl) (hs : starEach (e :: es) X.env = (false, eval e X.env) :: starEach es X.env := by rfl) (hplain : (backTo cpos (starEach es X.env)).any (·.1) = false := by rfl) :
    SE X n (.Call (.Attribute (.Name x px) name apos) (e :: es) [] cpos) (mLM i g ms) := ⟨fun a h1 h2 => (pe_bm PySem.F.plainAttrs_list slot hty hmt ho (ha.run a h1 h2) hbase hfew hline hs hplain).w fun σ H Q h => rd_lm (by rw [h1]; exact lm) h⟩
/-- x.m() -/
theorem se_lm0 (slot : PySem.Slot "list" name id) (hty : typeOf (.builtin id) = pure (.type "method_descriptor")) (hmt : MtR X id r) (lm : LMeth X.mg r g) (ho : PE X (.Name x px) (tVar i))
    (hbase : attributeBase (.Name x px) name X.env (eval (.Name x px) X.env) = eval (.Name x px) X.env := by rfl) (hline : (apos.endLine == cpos.line) = true := by rfl) :
    SE X n (.Call (.Attribute (.Name x px) name apos) [] [] cpos) (mLM i g mNil) := ⟨fun a h1 h2 => (pe_bm0 PySem.F.plainAttrs_list slot hty hmt ho hbase hline).w fun σ H Q h => by
  obtain ⟨v, k1, k2, env2, F2, ds, env3, r2, h3, q⟩ := rd_lm (X := X) (by rw [h1]; exact lm) h
  cases h3
  exact ⟨v, k1, k2, q [] F2 H (Same.refl _) r2 .nil⟩⟩
end
def appG : List D → List D → Option (D × List D) := fun xs ds => match ds with
  | [d] => if xs.length < sizeLine then some (.non, xs ++ [d]) else none
  | _ => none
theorem lm_append {mg} : LMeth mg rAppend appG := fun F H p us vs xs ds y ys Q sm hp ru rv e k => by
  unfold appG at e
  split at e
  · split at e
    · cases e
      cases rv with
      | cons a b => cases b; exact ⟨p, us, _, rfl, rfl, hp, by rw [ru.length]; assumption, k _ _ .non (ru.app (.cons a .nil))⟩
    · cases e
  · cases e
def extG : List D → List D → Option (D × List D) := fun xs ds => match ds with
  | [.lst zs] => if xs.length + zs.length ≤ sizeLine then some (.non, xs ++ zs) else none
  | _ => none
theorem lm_extend {mg} : LMeth mg rExtend extG := fun F H p us vs xs ds y ys Q sm hp ru rv e k => by
  unfold extG at e
  split at e
  · split at e
    · cases e
      cases rv with
      | cons a b =>
        cases b
        cases a with
        | lst hb rb => exact ⟨p, _, us, _, rfl, rfl, hp, sm _ _ hb, by rw [ru.length, rb.length]; assumption, k _ _ .non (ru.app rb)⟩
    · cases e
  · cases e
def popG : List D → List D → Option (D × List D) := fun xs ds => match ds with
  | [] => (xs[xs.length - 1]?).map fun d => (d, xs.dropLast)
  | _ => none
theorem RepL.dropLast {mg : Str → Option Value} {H : Hp} {vs : List V} {ds : List D} (r : RepL mg H vs ds) : RepL mg H vs.dropLast ds.dropLast := by
  rw [List.dropLast_eq_take, List.dropLast_eq_take, r.length]; exact r.take _
theorem lm_pop {mg} : LMeth mg rPop popG := fun F H p us vs xs ds y ys Q sm hp ru rv e k => by
  unfold popG at e
  split at e
  · simp only [Option.map_eq_some_iff] at e
    obtain ⟨d, h1, h2⟩ := e
    cases h2
    cases rv
    obtain ⟨v, h3, h4⟩ := ru.get h1
    exact ⟨p, us, v, rfl, rfl, hp, by rw [ru.length]; exact h3, k _ _ h4 ru.dropLast⟩
  · cases e
theorem RepL.erase {mg : Str → Option Value} {H : Hp} : ∀ {vs : List V} {ds : List D} (i : Nat), RepL mg H vs ds → RepL mg H (vs.eraseIdx i) (ds.eraseIdx i)
  | _, _, _, .nil => .nil
  | _, _, 0, .cons _ r => r
  | _, _, i + 1, .cons a r => .cons a (RepL.erase i r)
def popAtG : List D → List D → Option (D × List D) := fun xs ds => match ds with
  | [.int i] => if i.natAbs.log2 < 63 then (seqIndex? i xs.length).bind fun k => (xs[k]?).map fun d => (d, xs.eraseIdx k) else none
  | _ => none
theorem lm_popAt {mg} : LMeth mg rPopAt popAtG := fun F H p us vs xs ds y ys Q sm hp ru rv e k => by
  unfold popAtG at e
  split at e
  · split at e
    · rename_i hi
      simp only [Option.bind_eq_some_iff, Option.map_eq_some_iff] at e
      obtain ⟨j, h1, d, h2, h3⟩ := e
      cases h3
      cases rv with
      | cons a b =>
        cases b; cases a
        obtain ⟨v, h4, h5⟩ := ru.get h2
        exact ⟨p, us, _, j, v, rfl, rfl, hp, (w_log hi).1, (w_log hi).2, by rw [ru.length]; exact h1, h4, k _ _ h5 (ru.erase j)⟩
    · cases e
  · cases e
def clearG : List D → List D → Option (D × List D) := fun _ ds => match ds with
  | [] => some (.non, [])
  | _ => none
theorem lm_clear {mg} : LMeth mg rClear clearG := fun F H p us vs xs ds y ys Q sm hp ru rv e k => by
  unfold clearG at e
  split at e
  · cases e; cases rv; exact ⟨p, us, rfl, rfl, hp, k _ _ .non .nil⟩
  · cases e
def insG : List D → List D → Option (D × List D) := fun xs ds => match ds with
  | [.int i, d] => if xs.length < sizeLine ∧ 0 ≤ i ∧ i.natAbs.log2 < 63 then some (.non, xs.take i.toNat ++ [d] ++ xs.drop i.toNat) else none
  | _ => none
theorem lm_insert {mg} : LMeth mg (fun x vs H Q => ∃ (l : Addr) (xs : List V) (i : Int) (y : V), x = .ref l ∧ vs = [.int i, y] ∧ H l = some (.lst xs) ∧ xs.length < sizeLine ∧ 0 ≤ i ∧ i < 2 ^ 63 ∧ Q .non (upd H l (.lst (xs.take i.toNat ++ [y] ++ xs.drop i.toNat)))) insG := fun F H p us vs xs ds y ys Q sm hp ru rv e k => by
  unfold insG at e
  split at e
  · split at e
    · rename_i hc
      cases e
      cases rv with
      | cons a b =>
        cases b with
        | cons b c =>
          cases c; cases a
          exact ⟨p, us, _, _, rfl, rfl, hp, by rw [ru.length]; exact hc.1, hc.2.1, (w_log hc.2.2).2, k _ _ .non (((ru.take _).app (.cons b .nil)).app (ru.drop _))⟩
    · cases e
  · cases e

/-! ### d[k] = v over a dict that a name holds -/
def sOf (m : List Sl → Option (List Sl)) : Ms := fun env => (m env).map .next
theorem rdS_of {a : Ax} {m : List Sl → Option (List Sl)} {D : Ends} {σ : L2.St} {H : Hp} (h : rdS a (sOf m) D σ H) : ∃ env F env', RX a env σ F H ∧ m env = some env' ∧ ∀ σ' F' H', Same F F' → RX a env' σ' F' H' → D.nx σ' H' := by
  obtain ⟨env, F, r, q⟩ := h
  unfold sOf at q
  cases e : m env with
  | none => rw [e] at q; exact q.elim
  | some env' => rw [e] at q; exact ⟨env, F, env', r, e, q⟩
theorem rep_key {mg : Str → Option Value} {F : Hp} {v : V} {d : D} {k : Key} (r : Rep mg F v d) (h : asKey d = some k) : v = kV k := by
  cases r <;> first | (cases h; rfl) | cases h
theorem rep_keys {mg : Str → Option Value} {F : Hp} : ∀ {vs : List V} {ds : List D} {ks : List Key}, RepL mg F vs ds → asKeys ds = some ks → vs = ks.map kV
  | _, _, _, .nil, h => by cases h; rfl
  | _, _, _, .cons a r, h => by
    simp only [asKeys, Option.bind_eq_some_iff, Option.map_eq_some_iff] at h
    obtain ⟨k, h1, ks, h2, rfl⟩ := h
    rw [rep_key a h1, rep_keys r h2]; rfl
def putSl (k v : D) : Sl → Option Sl
  | .dic kvs => if kvs.length < sizeLine then (asKey k).map fun k => .dic (putA kvs k v) else none
  | .dit kvs => if kvs.length < sizeLine then match k with
      | .tup ds => (asKeys ds).map fun k => .dit (putA kvs k v)
      | _ => none
    else none
  | _ => none
def sPut (i : Nat) (mk mv : Mr D) : Ms := sOf fun env => (mv env).bind fun v => if (v.2[i]?).any Sl.own = true then (mk v.2).bind fun k => (k.2[i]?).bind fun s => (putSl k.1 v.1 s).map fun s' => k.2.set i s' else none
section
variable {X : Cx} {n i : Nat} {e ki value : Expr} {es : List Expr} {x name f : Str} {pos pos' apos cpos px : Pos}
theorem ss_put {mk mv : Mr D} (hu : X.A.units + 1 < cLine) (ho : PE X (.Name x px) (tVar i)) (hi : SE X n ki mk) (hv : SE X n value mv) (hs : swapsWith value (some (.Subscript (.Name x px) ki pos')) pos.line X.env = pure false := by rfl) :
    SS X n (.Assign [.Subscript (.Name x px) ki pos'] value pos) (sPut i mk mv) := ⟨fun a h1 h2 => (ps_dput hu ho (hi.run a h1 h2) (hv.run a h1 h2) hs).w fun D σ H h => by
  obtain ⟨env, F, env', r, hm, q⟩ := rdS_of h
  simp only [Option.bind_eq_some_iff] at hm
  obtain ⟨v, e1, hm⟩ := hm
  split at hm
  · rename_i hown
    simp only [Option.bind_eq_some_iff, Option.map_eq_some_iff] at hm
    obtain ⟨k, e3, s, e4, s', e5, e6⟩ := hm
    cases e6
    · skip
      refine ⟨env, F, v.1, v.2, r, e1, fun w F1 H1 s1 r1 rw' => ?_⟩
      obtain ⟨w0, hw0⟩ := own_val r1 hown
      refine ⟨w0, hw0, v.2, F1, k.1, k.2, r1, e3, fun kw F2 H2 s2 r2 rk => ?_⟩
      cases s with
      | dic kvs =>
        simp only [putSl] at e5
        split at e5
        · rename_i hl
          simp only [Option.map_eq_some_iff] at e5
          obtain ⟨key, e7, rfl⟩ := e5
          obtain ⟨p, ws, k1, k2, k3⟩ := own_dic r2 e4
          rw [hw0] at k1; cases k1
          rw [rep_key rk e7]
          exact ⟨p, _, rfl, .k k2 (by rw [k3.length]; exact hl), q σ F2 _ (s1.trans s2) (r2.setDic e4 hw0 (k3.put key (rw'.mono s2)))⟩
        · cases e5
      | dit kvs =>
        simp only [putSl] at e5
        split at e5
        · rename_i hl
          split at e5
          · rename_i ds hk
            simp only [Option.map_eq_some_iff] at e5
            obtain ⟨key, e7, rfl⟩ := e5
            obtain ⟨p, ws, k1, k2, k3⟩ := own_dit r2 e4
            rw [hw0] at k1; cases k1
            rw [hk] at rk
            have fh : Same F2 H2 := by obtain ⟨_, r'⟩ := r2; exact r'.fh
            cases rk with
            | tup hb rb =>
              rw [rep_keys rb e7] at hb
              exact ⟨p, _, rfl, .t k2 (fh _ _ hb) (by rw [k3.length]; exact hl), q σ F2 _ (s1.trans s2) (r2.setDit e4 hw0 (k3.put key (rw'.mono s2)))⟩
          · cases e5
        · cases e5
      | _ => cases e5
  · cases hm⟩
/-! ### self.f = e -/
def putFD (f : Str) (v : D) : List (Str × D) → List (Str × D)
  | [] => [(f, v)]
  | (g, x) :: r => if g = f then (g, v) :: r else (g, x) :: putFD f v r
theorem RepA.putF {mg : Str → Option Value} {F : Hp} {f : Str} {v : V} {d : D} (q : Rep mg F v d) : ∀ {ws : List (Str × V)} {fs : List (Str × D)}, RepA mg F ws fs → RepA mg F (L2.putF f v ws) (putFD f d fs)
  | _, _, .nil => .cons q .nil
  | _, _, .cons (k := g) a r => by
    unfold L2.putF putFD
    by_cases z : g = f
    · rw [if_pos z, if_pos z]; exact .cons q r
    · rw [if_neg z, if_neg z]; exact .cons a (RepA.putF q r)
def sFldD (i : Nat) (c f : Str) (mv : Mr D) : Ms := sOf fun env => (mv env).bind fun v => match v.2[i]? with
  | some (.ins c' fs) => if c' = c ∧ fs.length < 1000 then some (v.2.set i (.ins c (putFD f v.1 fs))) else none
  | _ => none
theorem ss_fld {c : Str} {C : Addr} {mv : Mr D} (ho : PE X (.Name x px) (tVar i)) (hv : SE X n value mv) (hC : X.mg c = some (.ref C)) (cl : Cls X.K C) (na : NoAttr X.K C f) (hs : swapsWith value (some (.Attribute (.Name x px) f pos')) pos.line X.env = pure false := by rfl) :
    SS X n (.Assign [.Attribute (.Name x px) f pos'] value pos) (sFldD i c f mv) := ⟨fun a h1 h2 => (ps_fld ho (hv.run a h1 h2) hs).w fun D σ H h => by
  obtain ⟨env, F, env', r, hm, q⟩ := rdS_of h
  simp only [Option.bind_eq_some_iff] at hm
  obtain ⟨v, e1, hm⟩ := hm
  split at hm
  · rename_i c' fs e3
    split at hm
    · rename_i hc
      cases hm
      refine ⟨env, F, v.1, v.2, r, e1, fun w F1 H1 s1 r1 rw' => ?_⟩
      obtain ⟨p, C', dx, ws, k1, k2, k3, k4⟩ := own_ins r1 e3
      rw [h1, hc.1, hC] at k2
      cases k2
      refine ⟨.ref p, k1, p, _, dx, ws, rfl, k3, cl, na, by rw [k4.length]; exact hc.2, q σ F1 _ s1 ?_⟩
      exact R.write (ow := fun _ => []) r1 e3 rfl k1 (fun _ z => nomatch z) ⟨p, _, dx, _, rfl, rfl, by rw [h1]; exact hC, upd_same, k4.putF rw'⟩ (fun _ z => nomatch z)
    · cases hm
  · cases hm⟩
/-! ### target = value, of a value that stands -/
def sAsgG (m : Mr D) (b : Bd) : Ms := fun env => (m env).bind fun r => (b r.1 r.2).map .next
theorem ss_asgG {tg : Expr} {m : Mr D} {b : Bd} {ts : List Nat} (he : SE X n e m) (hg : SG X n tg b ts) (hs : swapsWithSole [tg] e pos.line X.env = pure false := by rfl) (hw : swappedStores [tg] e X.env = pure none := by rfl)
    (h1 : (assignEach [tg] X.env).map (·.2) = [assign tg X.env] := by rfl) : SS X n (.Assign [tg] e pos) (sAsgG m b) := ⟨fun a ha hn => (ps_asg (he.run a ha hn) (hg.run a ha hn) hs hw h1).w fun D σ H h => by
  obtain ⟨env, F, r, q⟩ := h
  unfold sAsgG at q
  cases e1 : m env with
  | none => rw [e1] at q; exact q.elim
  | some z =>
    rw [e1] at q
    simp only [Option.bind_some] at q
    cases e2 : b z.1 z.2 with
    | none => rw [e2] at q; exact q.elim
    | some env2 =>
      rw [e2] at q
      exact ⟨env, F, z.1, z.2, r, e1, fun v F1 H1 s1 r1 rp => ⟨z.2, F1, z.1, env2, r1, rp, e2, fun σ' r2 _ => q σ' F1 H1 s1 r2⟩⟩⟩
end
/-! ### a, b = e, f: stored one by one -/
def rdFs (a : Ax) (m : Mr (List Sl)) : TA := fun σ H Q => ∃ env F ss env', RX a env σ F H ∧ m env = some (ss, env') ∧ ∀ vs F' H', Same F F' → vs.length = ss.length → a.n ≤ env'.length → RX a (env' ++ ss.reverse) (σ ++ (vs.map some).reverse) F' H' → Q vs H'
def anyFs (mg : Str → Option Value) (n : Nat) (m : Mr (List Sl)) : TA := fun σ H Q => ∃ a : Ax, a.mg = mg ∧ a.n = n ∧ rdFs a m σ H Q
structure SFs (X : Cx) (n : Nat) (es : List Expr) (m : Mr (List Sl)) : Prop where
  run : PA X es (anyFs X.mg n m)
def fNil : Mr (List Sl) := mRet []
def Sl.one : Sl → Bool
  | .val _ | .lst _ | .dic _ | .dit _ | .ins _ _ => true
  | _ => false
def fCons (m : Mr Sl) (r : Mr (List Sl)) : Mr (List Sl) := mBnd m fun s => mBnd r fun ss => fun env => if s.one = true then some (s :: ss, env) else none
theorem RX.mono_val {a : Ax} {env : List Sl} {σ : L2.St} {F H : Hp} {d : D} {v : V} (r : RX a (env ++ [.val d]) (σ ++ [some v]) F H) (hl : env.length = σ.length) : Rep a.mg F v d := by
  obtain ⟨ow, r⟩ := r
  have := r.sl env.length (.val d) get_snoc
  rw [hl, get_snoc] at this
  obtain ⟨_, v', e, q⟩ := this
  cases e; exact q
/-- an own object held aside while the rest runs -/
theorem RX.hold {a : Ax} {env : List Sl} {σ : L2.St} {F H : Hp} {s : Sl} {v : V} (r : RX a (env ++ [s]) (σ ++ [some v]) F H) (hn : a.n ≤ env.length) (ho : s.one = true) (hv : ∀ d, s ≠ .val d) :
    ∃ p u, v = .ref p ∧ a.bar p = none ∧ a.H0 p = none ∧ (∀ ys, u ≠ .tup ys) ∧ RX (a.at p u) env σ F H ∧ ∀ F' H' G, Same F F' → H' p = some u → SlR a.mg G F' H' s (some (.ref p)) [p] := by
  have r0 := r
  obtain ⟨ow, r⟩ := r
  have hl : env.length = σ.length := by have := r.ln; simpa using this
  have sr := r.sl env.length s get_snoc
  rw [hl, get_snoc] at sr
  have key : ∀ p u, v = .ref p → ow env.length = [p] → H p = some u → (∀ ys, u ≠ .tup ys) → (∀ F' H' G, Same F F' → H' p = some u → SlR a.mg G F' H' s (some (.ref p)) [p]) →
      ∃ p u, v = .ref p ∧ a.bar p = none ∧ a.H0 p = none ∧ (∀ ys, u ≠ .tup ys) ∧ RX (a.at p u) env σ F H ∧ ∀ F' H' G, Same F F' → H' p = some u → SlR a.mg G F' H' s (some (.ref p)) [p] := fun p u e1 e2 e3 nt k => by
    have hm : p ∈ ow env.length := by rw [e2]; simp
    obtain ⟨f1, f2, f3⟩ := r.of _ p hm
    refine ⟨p, u, e1, r.ob _ p hm, f3 hn, nt, ?_, k⟩
    refine ⟨fun i => if i < env.length then ow i else [], ⟨hl, hn, r.fh, r.gh, r.ff, r.nw, r.dm, fun i s' e => ?_, fun i hi => ?_, fun i j q h1 h2 => ?_, fun i => ?_, fun i q h1 => ?_, fun x o hx => ?_, fun x o hx => ?_, fun i q h1 => ?_, fun i s' v' hi e ho' ev => ?_⟩⟩
    · have hi : i < env.length := (List.getElem?_eq_some_iff.mp e).1
      have q := r.sl i s' (by rw [List.getElem?_append_left hi]; exact e)
      rw [List.getElem?_append_left (by omega)] at q
      simp only [hi, if_true]
      exact q
    · simp only [show ¬ i < env.length by omega, if_false]
    · split at h1
      · split at h2
        · exact r.oi i j q h1 h2
        · simp at h2
      · simp at h1
    · split
      · exact r.on i
      · exact List.nodup_nil
    · split at h1
      · exact r.of i q h1
      · simp at h1
    · have hx : upd a.bar p u x = some o := hx
      by_cases z : x = p
      · subst z; rw [upd_same] at hx; cases hx; exact e3
      · rw [upd_ne z] at hx; exact r.bh x o hx
    · have hx : upd a.bar p u x = some o := hx
      by_cases z : x = p
      · subst z; rw [upd_same] at hx; cases hx; exact ⟨f1, f2, nt⟩
      · rw [upd_ne z] at hx; exact r.bf x o hx
    · split at h1
      · rename_i hi
        have z : q ≠ p := by rintro rfl; have := r.oi i _ q h1 hm; omega
        show upd a.bar p u q = none
        rw [upd_ne z]; exact r.ob i q h1
      · simp at h1
    · have hl' : i < env.length := (List.getElem?_eq_some_iff.mp e).1
      have q := r.pr i s' v' hi (by rw [List.getElem?_append_left hl']; exact e) ho' ev
      rw [List.getElem?_append_left (by omega)] at q
      exact q
  cases s with
  | val d => exact absurd rfl (hv d)
  | lst xs => obtain ⟨p, vs, e1, e2, e3, q⟩ := sr; cases e1; exact key p _ rfl (by rw [hl]; exact e2) e3 (fun _ z => nomatch z) fun F' H' G s' h' => ⟨p, vs, rfl, rfl, h', q.mono s'⟩
  | dic xs => obtain ⟨p, vs, e1, e2, e3, q⟩ := sr; cases e1; exact key p _ rfl (by rw [hl]; exact e2) e3 (fun _ z => nomatch z) fun F' H' G s' h' => ⟨p, vs, rfl, rfl, h', q.mono s'⟩
  | dit xs => obtain ⟨p, vs, e1, e2, e3, q⟩ := sr; cases e1; exact key p _ rfl (by rw [hl]; exact e2) e3 (fun _ z => nomatch z) fun F' H' G s' h' => ⟨p, vs, rfl, rfl, h', q.mono s'⟩
  | ins c xs => obtain ⟨p, C, dx, vs, e1, e2, hm, e3, q⟩ := sr; cases e1; exact key p _ rfl (by rw [hl]; exact e2) e3 (fun _ z => nomatch z) fun F' H' G s' h' => ⟨p, C, dx, vs, rfl, rfl, hm, h', q.mono s'⟩
  | _ => cases ho
section
variable {X : Cx} {n : Nat} {e : Expr} {es : List Expr}
theorem sfs_nil : SFs X n [] fNil := ⟨pa_nil.w fun σ H Q ⟨a, ha, hn, env, F, ss, env', r, hm, q⟩ => by
  cases hm
  exact q [] F H (Same.refl F) rfl (by obtain ⟨_, r'⟩ := r; exact r'.nl) (by simpa using r)⟩
/-- the same of every activation -/
def anyF (mg : Str → Option Value) (n : Nat) (m : Mr Sl) : TE := fun σ H Q => ∃ a : Ax, a.mg = mg ∧ a.n = n ∧ rdF a m σ H Q
theorem SF.any {m : Mr Sl} (h : SF X n e m) : PE X e (anyF X.mg n m) := ⟨fun pins s σ H Q I ⟨a, h1, h2, q⟩ => (h.run a h1 h2).run pins s σ H Q I q⟩
theorem sfs_cons {m : Mr Sl} {ms : Mr (List Sl)} (h : SF X n e m) (hs : SFs X n es ms) (he : starEach (e :: es) X.env = (false, eval e X.env) :: starEach es X.env := by rfl) : SFs X n (e :: es) (fCons m ms) := ⟨
  (pa_cons h.any hs.run he).w fun σ H Q ⟨a, ha, hn, env, F, ss, env', r, hm, q⟩ => by
  obtain ⟨s, env1, h1, hm⟩ := mBnd_some hm
  obtain ⟨ss', env2, h2, hm⟩ := mBnd_some hm
  split at hm
  · rename_i ho
    cases hm
    refine ⟨a, ha, hn, env, F, s, env1, r, h1, fun v F1 H1 s1 n1 r1 => ?_⟩
    have hl1 : env1.length = σ.length := by obtain ⟨_, r'⟩ := r1; have := r'.ln; simpa using this
    by_cases hv : ∃ d, s = .val d
    · obtain ⟨d, rfl⟩ := hv
      have rv := r1.mono_val hl1
      refine ⟨a, ha, hn, env1, F1, ss', _, RX.init r1 n1, h2, fun vs F2 H2 s2 hl n2 r2 => ?_⟩
      refine q (v :: vs) F2 H2 (s1.trans s2) (by simp [hl]) n2 ?_
      have := r2.snocV (rv.mono s2)
      simpa using this
    · obtain ⟨p, u, rfl, hb, h0, nt, rH, k⟩ := RX.hold r1 n1 ho fun d z => hv ⟨d, z⟩
      refine ⟨a.at p u, ha, hn, env1, F1, ss', _, rH, h2, fun vs F2 H2 s2 hl n2 r2 => ?_⟩
      refine q (.ref p :: vs) F2 H2 (s1.trans s2) (by simp [hl]) n2 ?_
      obtain ⟨ow, r2⟩ := r2
      obtain ⟨r3, hD, f1, f2, f3⟩ := r2.barEnd hb
      have := R.snoc r3 (k F2 H2 a.G s2 hD) (by simp) (fun x hx => by rw [List.mem_singleton.mp hx]; exact ⟨f1, f2, h0⟩) (fun x hx j hj => by rw [List.mem_singleton.mp hx] at hj; exact f3 j hj) (fun x hx => by rw [List.mem_singleton.mp hx]; exact hb)
      simpa using this
  · cases hm⟩
end
/-- stored in turn -/
def storeL (n : Nat) : List Nat → List Sl → List Sl → Option (List Sl)
  | [], [], env => some env
  | i :: is, s :: ss, env => (setSl n i s env).bind fun e => storeL n is ss e
  | _, _, _ => none
def setL (σ : L2.St) : List Nat → List V → L2.St
  | i :: is, v :: vs => setL (σ.set i (some v)) is vs
  | _, _ => σ
theorem setSl_len {n i : Nat} {s : Sl} {env e2 : List Sl} (h : setSl n i s env = some e2) : e2.length = env.length := by
  unfold setSl at h
  split at h
  · cases h; simp
  · cases h
theorem setSl_app {n i : Nat} {s : Sl} {env e2 r : List Sl} (h : setSl n i s env = some e2) : setSl n i s (env ++ r) = some (e2 ++ r) := by
  unfold setSl at h ⊢
  split at h
  · rename_i hc
    cases h
    rw [if_pos ⟨by simp; omega, fun hi => ⟨(hc.2 hi).1, by rw [List.getElem?_append_left hc.1]; exact (hc.2 hi).2⟩⟩, List.set_append_left _ _ hc.1]
  · cases h
theorem RX.storeL {a : Ax} : ∀ {is : List Nat} {ss : List Sl} {vs : List V} {env e2 : List Sl} {σ : L2.St} {F H : Hp}, vs.length = ss.length → a.n ≤ env.length → env.length = σ.length → RX a (env ++ ss.reverse) (σ ++ (vs.map some).reverse) F H → HU.storeL a.n is ss env = some e2 → RX a e2 (setL σ is vs) F H
  | [], [], [], env, e2, σ, F, H, _, _, _, r, h => by cases h; simpa [setL] using r
  | i :: is, s :: ss, v :: vs, env, e2, σ, F, H, hl, hn, hlen, r, h => by
    simp only [HU.storeL, Option.bind_eq_some_iff] at h
    obtain ⟨e1, h1, h2⟩ := h
    have r' : RX a ((env ++ ss.reverse) ++ [s]) ((σ ++ (vs.map some).reverse) ++ [some v]) F H := by simpa using r
    have r2 := r'.store (i := i) (by simp; omega) (setSl_app h1)
    have hi : i < env.length := by
      unfold setSl at h1
      split at h1
      · rename_i hc; exact hc.1
      · cases h1
    rw [List.set_append_left _ _ (by omega)] at r2
    show RX a e2 (setL (σ.set i (some v)) is vs) F H
    exact RX.storeL (by simpa using hl) (by rw [setSl_len h1]; exact hn) (by rw [setSl_len h1]; simpa using hlen) r2 h2
  | [], _ :: _, _, _, _, _, _, _, _, _, _, _, h => by cases h
  | _ :: _, [], _, _, _, _, _, _, _, _, _, _, h => by cases h
  | [], [], _ :: _, _, _, _, _, _, hl, _, _, _, _ => by cases hl
  | _ :: _, _ :: _, [], _, _, _, _, _, hl, _, _, _, _ => by cases hl
def sPar (n : Nat) (is : List Nat) (m : Mr (List Sl)) : Ms := fun env => (m env).bind fun r => (storeL n is r.1 r.2).map .next
theorem storeL_len {n : Nat} : ∀ {is : List Nat} {ss env e2 : List Sl}, storeL n is ss env = some e2 → is.length = ss.length
  | [], [], _, _, _ => rfl
  | i :: is, s :: ss, env, e2, h => by
    simp only [HU.storeL, Option.bind_eq_some_iff] at h
    obtain ⟨e1, h1, h2⟩ := h
    simp [storeL_len h2]
  | [], _ :: _, _, _, h => by cases h
  | _ :: _, [], _, _, h => by cases h
section
variable {X : Cx} {n : Nat} {pos : Pos}
theorem rd_par {is : List Nat} {m : Mr (List Sl)} {a : Ax} (ha : a.mg = X.mg) (hn : a.n = n) {D : Ends} {σ : L2.St} {H : Hp} {Q : List V → Hp → Prop} (h : rdS a (sPar n is m) D σ H)
    (k : ∀ vs H', vs.length = is.length → (∀ σ2 H2, Same H' H2 → σ2 = setL σ is vs → D.nx σ2 H2) → Q vs H') : anyFs X.mg n m σ H Q := by
  obtain ⟨env, F, r, q⟩ := h
  unfold sPar at q
  cases e1 : m env with
  | none => rw [e1] at q; exact q.elim
  | some z =>
    rw [e1] at q
    simp only [Option.bind_some] at q
    cases e2 : storeL n is z.1 z.2 with
    | none => rw [e2] at q; exact q.elim
    | some env2 =>
      rw [e2] at q
      refine ⟨a, ha, hn, env, F, z.1, z.2, r, e1, fun vs F1 H1 s1 hl n1 r1 => ?_⟩
      have hlen : z.2.length = σ.length := by
        obtain ⟨_, r'⟩ := r1
        have := r'.ln
        simp [hl] at this
        omega
      refine k vs H1 (by rw [hl, storeL_len e2]) fun σ2 H2 s2 e => ?_
      subst e
      have r2 := RX.storeL hl n1 hlen r1 (by rw [hn]; exact e2)
      obtain ⟨ow, r2⟩ := r2
      exact q _ F1 H2 s1 ⟨ow, r2.grow s2⟩
/-- two plain local names: swapped -/
theorem ss_par {i j : Nat} {x y : Str} {e f : Expr} {m : Mr (List Sl)} {px py pt : Pos} {kt k2 pt2} (hc : X.calm = true) (hN : X.N.Nodup) (hi : X.N[i]? = some x) (hj : X.N[j]? = some y) (hij : i ≠ j)
    (hx : X.env.scope.names.lookup x = some .local) (hy : X.env.scope.names.lookup y = some .local) (ha : SFs X n [e, f] m)
    (hw : swappedStores [.Tuple [.Name x px, .Name y py] kt pt] (.Tuple [e, f] k2 pt2) X.env = pure (some [x, y]) := by rfl)
    (hs : swapsWithSole [.Tuple [.Name x px, .Name y py] kt pt] (.Tuple [e, f] k2 pt2) pos.line X.env = pure false := by rfl) :
    SS X n (.Assign [.Tuple [.Name x px, .Name y py] kt pt] (.Tuple [e, f] k2 pt2) pos) (sPar n [i, j] m) := ⟨fun a ha' hn => (ps_par hc hN hi hj hij hx hy ha.run hw hs).w fun D σ H h =>
  rd_par ha' hn h fun vs H' hl k => by
    match vs, hl with
    | [v, w], _ => exact ⟨v, w, rfl, k _ H' (Same.refl _) rfl⟩⟩
theorem ss_par3 {i j l : Nat} {x y z : Str} {e f g : Expr} {m : Mr (List Sl)} {px py pz pt : Pos} {kt k2 pt2} (hc : X.calm = true) (hN : X.N.Nodup) (hi : X.N[i]? = some x) (hj : X.N[j]? = some y) (hk : X.N[l]? = some z) (hij : i ≠ j) (hil : i ≠ l) (hjl : j ≠ l)
    (hx : X.env.scope.names.lookup x = some .local) (hy : X.env.scope.names.lookup y = some .local) (hz : X.env.scope.names.lookup z = some .local) (ha : SFs X n [e, f, g] m)
    (hw : swappedStores [.Tuple [.Name x px, .Name y py, .Name z pz] kt pt] (.Tuple [e, f, g] k2 pt2) X.env = pure (some [x, y, z]) := by rfl)
    (hs : swapsWithSole [.Tuple [.Name x px, .Name y py, .Name z pz] kt pt] (.Tuple [e, f, g] k2 pt2) pos.line X.env = pure false := by rfl) :
    SS X n (.Assign [.Tuple [.Name x px, .Name y py, .Name z pz] kt pt] (.Tuple [e, f, g] k2 pt2) pos) (sPar n [i, j, l] m) := ⟨fun a ha' hn => (ps_par3 hc hN hi hj hk hij hil hjl hx hy hz ha.run hw hs).w fun D σ H h =>
  rd_par ha' hn h fun vs H' hl k => by
    match vs, hl with
    | [u, v, w], _ => exact ⟨u, v, w, rfl, k _ H' (Same.refl _) rfl⟩⟩
/-- names as targets, from the left -/
def gNames (is : List Nat) : TGs := fun vs σ H Q => vs.length = is.length ∧ Q (setL σ is vs) H
theorem gn_nil : PGs X [] (gNames []) := ⟨fun pins s σ H vs us Q I r h => pgs_nil.run pins s σ H vs us Q I r (by
  obtain ⟨h1, h2⟩ := h
  cases vs with
  | nil => exact ⟨rfl, h2⟩
  | cons _ _ => cases h1)⟩
theorem gn_cons {i : Nat} {is : List Nat} {e : Expr} {es : List Expr} (h1 : PG X e (gName i)) (h2 : PGs X es (gNames is)) (hs : (assignEach (e :: es) X.env).map (·.2) = assign e X.env :: (assignEach es X.env).map (·.2) := by rfl) : PGs X (e :: es) (gNames (i :: is)) := ⟨fun pins s σ H vs us Q I r h => (pgs_cons h1 h2 hs).run pins s σ H vs us Q I r (by
  obtain ⟨h3, h4⟩ := h
  cases vs with
  | nil => cases h3
  | cons v vs => exact ⟨v, vs, rfl, by simpa using h3, h4⟩)⟩
/-- .. where a name is not plain: from the left -/
theorem ss_parL {is : List Nat} {tgs es : List Expr} {m : Mr (List Sl)} {kt k2 : Nat} {pt pt2 : Pos} (hc : X.calm = true) (hg : PGs X tgs (gNames is)) (ha : SFs X n es m) (hsz : is.length ≤ sizeLine)
    (hk : (assignEach tgs X.env).length = is.length := by rfl) (hst : (assignEach tgs X.env).findIdx? (·.1) = none := by rfl)
    (hs : swapsWithSole [.Tuple tgs kt pt] (.Tuple es k2 pt2) pos.line X.env = pure false := by rfl) (hw : swappedStores [.Tuple tgs kt pt] (.Tuple es k2 pt2) X.env = pure none := by rfl)
    (h1 : (assignEach [.Tuple tgs kt pt] X.env).map (·.2) = [assign (.Tuple tgs kt pt) X.env] := by rfl) : SS X n (.Assign [.Tuple tgs kt pt] (.Tuple es k2 pt2) pos) (sPar n is m) := ⟨fun a ha' hn =>
  (ps_asg (pe_tup ha.run) (pg_tup (n := is.length) hc hg hk hst) hs hw h1).w fun D σ H h => rd_par ha' hn h fun vs H' hl k => by
    refine ⟨by rw [hl]; exact hsz, fun p hp => ⟨p, vs, rfl, SqT.of upd_same, hl, hl, k _ _ (Same.upd hp) rfl⟩⟩⟩
end
end HU
set_option maxRecDepth 100000
namespace HU
open PySem PySem.Spec L2

/-! ### the order of what is sorted -/
abbrev SK := List (List Int)
def kI : Key → List Int
  | .inl i => [i]
  | .inr x => x.cps.toList.map fun c : Nat => (c : Int)
theorem map_lt {α β : Type} [LT α] [LT β] [DecidableEq α] [DecidableLT α] [DecidableEq β] [DecidableLT β] (f : α → β) (h1 : ∀ a b, f a < f b ↔ a < b) (h2 : ∀ a b, f a = f b ↔ a = b) : ∀ l m : List α, l.map f < m.map f ↔ l < m
  | [], [] => by simp
  | [], b :: m => by simp
  | a :: l, [] => by simp
  | a :: l, b :: m => by
    rw [List.map_cons, List.map_cons, List.cons_lt_cons_iff, List.cons_lt_cons_iff, h1, h2, map_lt f h1 h2 l m]
theorem cps_lt (l m : List Nat) : (l.map (fun c : Nat => (c : Int)) < m.map (fun c : Nat => (c : Int))) ↔ l < m := map_lt _ (fun a b => Int.ofNat_lt) (fun a b => Int.ofNat_inj) l m
theorem swo_key (k : Value → SK) : SrtO.Swo fun v u => decide (k v < k u) := by
  refine ⟨fun x y h => ?_, fun x y z h1 h2 => ?_⟩
  · have h := of_decide_eq_true h
    exact decide_eq_false (List.lt_asymm h)
  · have h1 := of_decide_eq_false h1
    have h2 := of_decide_eq_false h2
    refine decide_eq_false fun h3 => ?_
    rw [List.not_lt] at h1 h2
    exact absurd h3 (List.not_lt.mpr (List.le_trans h1 h2))
def sameK : Key → Key → Bool
  | .inl _, .inl _ => true
  | .inr _, .inr _ => true
  | _, _ => false
def sigOk (x y : List Key) : Bool := (x.zip y).all fun p => sameK p.1 p.2
theorem str_ext {x y : Str} (h : x.cps.toList = y.cps.toList) : x = y := by
  cases x; cases y; simp at h; subst h; rfl
theorem kI_inj {k l : Key} (s : sameK k l = true) (h : kI k = kI l) : k = l := by
  cases k with
  | inl i => cases l with
    | inl j => simp [kI] at h; rw [h]
    | inr y => cases s
  | inr x => cases l with
    | inl j => cases s
    | inr y =>
      simp only [kI] at h
      have : x.cps.toList = y.cps.toList := (List.map_inj_right (f := fun c : Nat => (c : Int)) (fun a b e => Int.ofNat.inj e)).mp h
      rw [str_ext this]
section
variable {prog : Program} {w : World} {A : Around} {s : Shared} {b : Bool}
theorem kat_keyEq {k l : Key} {u v : Value} (ru : RelV (kV k) u) (rv : RelV (kV l) v) (hs : sameK k l = true) : SeqAt.EqAt A s u v (decide (k = l)) := by
  cases k with
  | inl i => cases l with
    | inl j =>
      obtain ⟨t, rfl⟩ := (show ∃ t, u = .int i t from ru); obtain ⟨t', rfl⟩ := (show ∃ t, v = .int j t from rv)
      have := SeqAt.EqAt.int_int (A := A) (s := s) i t j t'
      have e : decide ((Sum.inl i : Key) = Sum.inl j) = (i == j) := by
        by_cases z : i = j
        · subst z; simp
        · simp [z]
      rw [e]; exact this
    | inr y => cases hs
  | inr x => cases l with
    | inl j => cases hs
    | inr y =>
      obtain ⟨t, rfl⟩ := (show ∃ t, u = .str x t from ru); obtain ⟨t', rfl⟩ := (show ∃ t, v = .str y t from rv)
      have := SeqAt.EqAt.str_str (A := A) (s := s) x t y t'
      have e : decide ((Sum.inr x : Key) = Sum.inr y) = (x == y) := by
        by_cases z : x = y
        · subst z; simp
        · simp [z]
      rw [e]; exact this
theorem kat_keyLt {k l : Key} {u v : Value} {c : Bool} {Q : Bool → Shared → Prop} {E : Value → Shared → Prop} (ru : RelV (kV k) u) (rv : RelV (kV l) v) (hs : sameK k l = true) (h : Q (decide (kI k < kI l)) s) :
    wpAny (model prog w) A (PyProof.Rows.oneLt' c u v) Q E s := by
  cases k with
  | inl i => cases l with
    | inl j =>
      obtain ⟨t, rfl⟩ := (show ∃ t, u = .int i t from ru); obtain ⟨t', rfl⟩ := (show ∃ t, v = .int j t from rv)
      have e : decide (kI (.inl i) < kI (.inl j)) = decide (i < j) := by rw [decide_eq_decide]; show [i] < [j] ↔ i < j; rw [List.cons_lt_cons_iff]; simp
      rw [e] at h
      cases c with
      | true => exact PyProof.Rows.oneLt_int h
      | false => exact PySem.W.kat_one _ _ (PyProof.Rows.lt_int h)
    | inr y => cases hs
  | inr x => cases l with
    | inl j => cases hs
    | inr y =>
      obtain ⟨t, rfl⟩ := (show ∃ t, u = .str x t from ru); obtain ⟨t', rfl⟩ := (show ∃ t, v = .str y t from rv)
      have e : decide (kI (.inr x) < kI (.inr y)) = decide (x.cps.toList < y.cps.toList) := by rw [decide_eq_decide]; exact cps_lt _ _
      rw [e] at h
      cases c with
      | true => exact PyProof.Rows.oneLt_str h
      | false => exact PySem.W.kat_one _ _ (PyProof.Rows.lt_str h)
theorem kat_keys {fin : Bool} : ∀ (ks ls : List Key) (us vs : List Value) (i : Nat), Vals (ks.map kV) us → Vals (ls.map kV) vs → sigOk ks ls = true → fin = decide (ks.length < ls.length) →
    PySem.W.KatLex prog w A b fin (fun r s' => s' = s ∧ r = decide (ks.map kI < ls.map kI)) (us.zip vs) i s
  | [], [], us, vs, _, h1, h2, _, hf => by cases h1; cases h2; exact PySem.W.kat_nil ⟨rfl, by rw [hf]; rfl⟩
  | [], l :: ls, us, vs, _, h1, h2, _, hf => by cases h1; cases h2; exact PySem.W.kat_nil ⟨rfl, by rw [hf]; simp⟩
  | k :: ks, [], us, vs, _, h1, h2, _, hf => by cases h1; cases h2; exact PySem.W.kat_nil ⟨rfl, by rw [hf]; simp⟩
  | k :: ks, l :: ls, us, vs, i, h1, h2, hs, hf => by
    have hs' : sameK k l = true ∧ sigOk ks ls = true := by
      unfold sigOk at hs ⊢
      simpa [List.all_cons, Bool.and_eq_true] using hs
    cases h1 with
    | cons ru rus =>
    cases h2 with
    | cons rv rvs =>
    rw [List.zip_cons_cons]
    refine PySem.W.kat_cons (kat_keyEq ru rv hs'.1 prog w _ _ ?_)
    refine PySem.W.kat_go (fun e => PySem.W.kat_yes ?_) (fun e => PySem.W.kat_no ?_)
    · have e := of_decide_eq_true e
      subst e
      have ih := kat_keys (fin := fin) ks ls _ _ (i + 1) rus rvs hs'.2 (by rw [hf]; simp)
      have e2 : decide ((k :: ks).map kI < (k :: ls).map kI) = decide (ks.map kI < ls.map kI) := by
        rw [decide_eq_decide, List.map_cons, List.map_cons, List.cons_lt_cons_iff]
        constructor
        · rintro (h | h)
          · exact absurd h (List.lt_irrefl _)
          · exact h.2
        · exact fun h => .inr ⟨rfl, h⟩
      rw [e2]; exact ih
    · have e := of_decide_eq_false e
      refine kat_keyLt ru rv hs'.1 ⟨rfl, ?_⟩
      rw [decide_eq_decide, List.map_cons, List.map_cons, List.cons_lt_cons_iff]
      exact ⟨fun h => Or.inl h, fun h => h.elim id fun h => absurd (kI_inj hs'.1 h.1) e⟩
end
/-! ### what is sorted: ints, texts, tuples of such -/
def kIV : V → List Int
  | .int i => [i]
  | .str x => kI (.inr x)
  | _ => []
theorem kIV_kV (k : Key) : kIV (kV k) = kI k := by cases k <;> rfl
def keyV (H : Hp) : V → SK
  | .int i => [[i]]
  | .str x => [kI (.inr x)]
  | .ref a => match H a with
    | some (.tup vs) => vs.map kIV
    | _ => []
  | _ => []
inductive SortV (H : Hp) (us : List V) : Prop
  | iA {ns : List Int} : us = ns.map V.int → SortV H us
  | sA {ss : List Str} : us = ss.map V.str → SortV H us
  | tA {tt : List (Addr × List Key)} : us = tt.map (fun q => V.ref q.1) → (∀ q ∈ tt, H q.1 = some (.tup (q.2.map kV)) ∧ q.2 ≠ []) → (∀ p ∈ tt, ∀ q ∈ tt, sigOk p.2 q.2 = true) → SortV H us
/-- the same of a written value -/
def keyU (H : Hp) : Value → SK
  | .int i _ => [[i]]
  | .str x _ => [kI (.inr x)]
  | .ref a => keyV H (.ref a)
  | _ => []
theorem keyU_rel {H : Hp} {v : V} {u : Value} (r : RelV v u) (h : (∃ i, v = .int i) ∨ (∃ x, v = .str x) ∨ ∃ a, v = .ref a) : keyU H u = keyV H v := by
  rcases h with ⟨i, rfl⟩ | ⟨x, rfl⟩ | ⟨a, rfl⟩
  · obtain ⟨t, rfl⟩ := (show ∃ t, u = .int i t from r); rfl
  · obtain ⟨t, rfl⟩ := (show ∃ t, u = .str x t from r); rfl
  · cases (show u = Value.ref a from r); rfl
theorem SortV.kinds {H : Hp} {us : List V} (h : SortV H us) : ∀ v ∈ us, (∃ i, v = .int i) ∨ (∃ x, v = .str x) ∨ ∃ a, v = .ref a := fun v hv => by
  cases h with
  | iA e => subst e; obtain ⟨i, _, rfl⟩ := List.mem_map.mp hv; exact .inl ⟨i, rfl⟩
  | sA e => subst e; obtain ⟨i, _, rfl⟩ := List.mem_map.mp hv; exact .inr (.inl ⟨i, rfl⟩)
  | tA e _ _ => subst e; obtain ⟨i, _, rfl⟩ := List.mem_map.mp hv; exact .inr (.inr ⟨_, rfl⟩)
theorem Vals.memU {vs : List V} {us : List Value} (h : Vals vs us) : ∀ u ∈ us, ∃ v ∈ vs, RelV v u := by
  induction h with
  | nil => intro u hu; cases hu
  | cons r t ih =>
    intro u hu
    rcases List.mem_cons.mp hu with e | hu
    · subst e; exact ⟨_, List.mem_cons_self, r⟩
    · obtain ⟨v, h1, h2⟩ := ih u hu; exact ⟨v, List.mem_cons_of_mem _ h1, h2⟩
theorem Vals.iA {us : List Value} : ∀ {ns : List Int}, Vals (ns.map V.int) us → PyProof.Rows.IntsAre us ns
  | [], h => by cases h; exact .nil
  | n :: ns, h => by
    cases h with
    | cons r t => obtain ⟨k, rfl⟩ := (show ∃ t, _ = Value.int n t from r); exact .cons n k (Vals.iA t)
theorem Vals.sA {us : List Value} : ∀ {ns : List Str}, Vals (ns.map V.str) us → PyProof.Rows.StrsAre us ns
  | [], h => by cases h; exact .nil
  | n :: ns, h => by
    cases h with
    | cons r t => obtain ⟨k, rfl⟩ := (show ∃ t, _ = Value.str n t from r); exact .cons n k (Vals.sA t)
section
variable {prog : Program} {w : World} {A : Around} {s : Shared}
/-- the tuples as they lie -/
theorem tup_lies {P : Program} {w : World} {H : Hp} {h : Heap} (ok : HOk P w H h) {a : Addr} {vs : List V} (e : H a = some (.tup vs)) : ∃ o us n, h.get? a = some o ∧ o.cls = .type "tuple" ∧ o.data = .seq us.toArray n ∧ Vals vs us := by
  obtain ⟨_, its, rv, o, h1, h2, n, h3⟩ := (show ObjOk P w H h a (.tup vs) from ok a _ e)
  exact ⟨o, its, n, h1, h2, h3, rv⟩
theorem sort_able {P : Program} {w' : World} {H : Hp} {h0 : Heap} {us : List V} {vs : List Value} {a : Addr} (ok : HOk P w' H h0) (sv : SortV H us) (rv : Vals us vs) (h2 : 2 ≤ vs.length) (ka : ∀ b o, h0.get? b = some o → b ≠ a ∧ s.heap.get? b = some o) :
    SrtO.SortableO prog w A s a vs fun v u => decide (keyU H v < keyU H u) := by
  intro h' keep
  cases sv with
  | @iA ns e =>
    subst e
    have hI := Vals.iA rv
    refine ⟨PyProof.Rows.oneType', fun Q E hq => ?_, fun p q hp hq => ?_⟩
    · match vs, hI, h2 with
      | v1 :: v2 :: rest, hI, _ => rw [PyProof.Rows.keyKind_ints hI]; exact wpAny_pure hq
      | [], _, h => exact absurd h (by decide)
      | [v], _, h => exact absurd h (by simp)
    · obtain ⟨x, h1, r1⟩ := Vals.memU rv _ hp
      obtain ⟨y, h3, r2⟩ := Vals.memU rv _ hq
      obtain ⟨i, _, rfl⟩ := List.mem_map.mp h1
      obtain ⟨j, _, rfl⟩ := List.mem_map.mp h3
      obtain ⟨t, e1⟩ := (show ∃ t, p.1 = Value.int i t from r1)
      obtain ⟨t', e2⟩ := (show ∃ t, q.1 = Value.int j t from r2)
      show wpAny _ _ (PyProof.Rows.keyLt' _ p.1 q.1) (fun r s' => s' = _ ∧ r = decide (keyU H p.1 < keyU H q.1)) _ _
      rw [e1, e2]
      exact PySem.W.kat_lt_int ⟨rfl, by rw [decide_eq_decide]; show _ ↔ [[i]] < [[j]]; rw [List.cons_lt_cons_iff, List.cons_lt_cons_iff]; simp⟩
  | @sA ns e =>
    subst e
    have hI := Vals.sA rv
    refine ⟨PyProof.Rows.oneType', fun Q E hq => ?_, fun p q hp hq => ?_⟩
    · match vs, hI, h2 with
      | v1 :: v2 :: rest, hI, _ => rw [PyProof.Rows.keyKind_strs hI]; exact wpAny_pure hq
      | [], _, h => exact absurd h (by decide)
      | [v], _, h => exact absurd h (by simp)
    · obtain ⟨x, h1, r1⟩ := Vals.memU rv _ hp
      obtain ⟨y, h3, r2⟩ := Vals.memU rv _ hq
      obtain ⟨i, _, rfl⟩ := List.mem_map.mp h1
      obtain ⟨j, _, rfl⟩ := List.mem_map.mp h3
      obtain ⟨t, e1⟩ := (show ∃ t, p.1 = Value.str i t from r1)
      obtain ⟨t', e2⟩ := (show ∃ t, q.1 = Value.str j t from r2)
      show wpAny _ _ (PyProof.Rows.keyLt' _ p.1 q.1) (fun r s' => s' = _ ∧ r = decide (keyU H p.1 < keyU H q.1)) _ _
      rw [e1, e2, PyProof.Rows.keyLt'_oneType]
      refine PyProof.Rows.oneLt_str ⟨rfl, ?_⟩
      rw [decide_eq_decide]
      show _ ↔ [kI (.inr i)] < [kI (.inr j)]
      rw [List.cons_lt_cons_iff]
      exact ⟨fun h => .inl ((cps_lt _ _).mpr h), fun h => h.elim (fun h => (cps_lt _ _).mp h) fun h => absurd h.2 (List.lt_irrefl _)⟩
  | @tA tt e hT hS =>
    subst e
    -- each tuple's object, at h'
    have obj : ∀ u ∈ vs, ∃ q ∈ tt, u = .ref q.1 ∧ ∃ o its n, h'.get? q.1 = some o ∧ o.cls = .type "tuple" ∧ o.data = .seq its.toArray n ∧ Vals (q.2.map kV) its := fun u hu => by
      obtain ⟨v, h1, h3⟩ := Vals.memU rv u hu
      obtain ⟨q, hq, rfl⟩ := List.mem_map.mp h1
      obtain ⟨o, its, n, g1, g2, g3, g4⟩ := tup_lies ok (hT q hq).1
      obtain ⟨k1, k2⟩ := ka _ _ g1
      exact ⟨q, hq, (show u = Value.ref q.1 from h3), o, its, n, keep _ _ k1 k2, g2, g3, g4⟩
    -- the first items
    have firsts : ∀ {l : List Value}, (∀ u ∈ l, u ∈ vs) → ∃ fs : List Value, PySem.W.KatTups h' l fs ∧ fs.length = l.length ∧ (∀ f ∈ fs, ∃ q ∈ tt, ∃ k ks, q.2 = k :: ks ∧ RelV (kV k) f) := fun {l} hl => by
      induction l with
      | nil => exact ⟨[], .nil, rfl, fun _ h => by cases h⟩
      | cons u l ih =>
        obtain ⟨fs, i1, i2, i3⟩ := ih fun x hx => hl x (List.mem_cons_of_mem _ hx)
        obtain ⟨q, hq, rfl, o, its, n, g1, g2, g3, g4⟩ := obj u (hl u List.mem_cons_self)
        cases hk : q.2 with
        | nil => exact absurd hk (hT q hq).2
        | cons k ks =>
          rw [hk] at g4
          cases g4 with
          | @cons _ f _ its' r t =>
            refine ⟨f :: fs, .cons g1 g2 g3 (by simp) i1, by simp [i2], fun x hx => ?_⟩
            rcases List.mem_cons.mp hx with e | hx
            · subst e; exact ⟨q, hq, k, ks, hk, r⟩
            · exact i3 x hx
    obtain ⟨fs, f1, f2, f3⟩ := firsts (l := vs) fun _ h => h
    -- one type
    have h0 : 0 < fs.length := by omega
    have ty : ∃ T, (T == Value.type "int" || T == Value.type "str") = true ∧ ∀ f ∈ fs, (∃ i t, f = Value.int i t ∧ T = .type "int") ∨ (∃ x t, f = Value.str x t ∧ T = .type "str") := by
      have hd : fs[0]'h0 ∈ fs := List.getElem_mem h0
      obtain ⟨q, hq, k, ks, e1, r1⟩ := f3 _ hd
      cases k with
      | inl i =>
        refine ⟨.type "int", by rfl, fun f hf => .inl ?_⟩
        obtain ⟨q', hq', k', ks', e2, r2⟩ := f3 f hf
        have := hS q hq q' hq'
        rw [e1, e2] at this
        cases k' with
        | inl j => obtain ⟨t, rfl⟩ := (show ∃ t, f = Value.int j t from r2); exact ⟨j, t, rfl, rfl⟩
        | inr y => simp [sigOk, sameK] at this
      | inr x =>
        refine ⟨.type "str", by rfl, fun f hf => .inr ?_⟩
        obtain ⟨q', hq', k', ks', e2, r2⟩ := f3 f hf
        have := hS q hq q' hq'
        rw [e1, e2] at this
        cases k' with
        | inl j => simp [sigOk, sameK] at this
        | inr y => obtain ⟨t, rfl⟩ := (show ∃ t, f = Value.str y t from r2); exact ⟨y, t, rfl, rfl⟩
    obtain ⟨T, hTy, hf⟩ := ty
    refine ⟨PyProof.Rows.tuples' (T != .type "tuple"), fun Q E hq => ?_, fun p q hp hq => ?_⟩
    · refine PySem.W.kat_kind (s := { s with heap := h' }) (T := T) f1 h0 (fun f hm => ?_) ?_ hq
      · rcases hf f hm with ⟨i, t, rfl, rfl⟩ | ⟨x, t, rfl, rfl⟩
        · exact PySem.W.Looks.now
        · exact PySem.W.Looks.now
      · simp only [Bool.or_eq_true] at hTy
        rcases hTy with h | h <;> · rw [eq_of_beq h]; rfl
    · obtain ⟨x, hx, e1, o, its, n, g1, g2, g3, g4⟩ := obj _ hp
      obtain ⟨y, hy, e2, o', its', n', g1', g2', g3', g4'⟩ := obj _ hq
      show wpAny _ _ (PyProof.Rows.keyLt' _ p.1 q.1) (fun r s' => s' = _ ∧ r = decide (keyU H p.1 < keyU H q.1)) _ _
      rw [e1, e2]
      refine PySem.W.kat_lt (s := { s with heap := h' }) g1 g3 g1' g3' ?_
      have ek : ∀ z ∈ tt, keyU H (.ref z.1) = z.2.map kI := fun z hz => by
        show (match H z.1 with | some (.tup vs) => vs.map kIV | _ => []) = _
        rw [(hT z hz).1]
        simp only [List.map_map]
        exact List.map_congr_left fun k _ => kIV_kV k
      rw [ek x hx, ek y hy]
      refine kat_keys _ _ _ _ 0 g4 g4' (hS x hx y hy) ?_
      have l1 := g4.length
      have l2 := g4'.length
      simp at l1 l2
      simp [l1, l2]
end
end HU
set_option maxRecDepth 100000
namespace HU
open PySem PySem.Spec PySem.Calls L2 PyProof.Rows SrtO
section
variable {prog : Program} {w : World} {A : Around} {E : Value → Shared → Prop} {s : Shared}
theorem sorted_shell {r : Value} {P : List Value → Prop} {ltv : Value → Value → Bool} {Q : Value → Shared → Prop} (O : Swo ltv) (hz : ∀ vs, P vs → vs.length ≤ sizeLine)
    (hcol : ∀ (R : List Value → Shared → Prop), (∀ h' tk vs, (∀ b o, s.heap.get? b = some o → h'.get? b = some o) → P vs → R vs { s with heap := h', toks := tk }) → wpAny (model prog w) A.in1 (PySem.collect r) R E s)
    (hS : ∀ vs, P vs → 2 ≤ vs.length → ∀ (h₁ : Heap) (a : Addr) (tk : Nat), (∀ b o, s.heap.get? b = some o → b ≠ a ∧ h₁.get? b = some o) → SortableO prog w A.in1.in1 { s with heap := h₁, toks := tk } a vs ltv)
    (h : ∀ (vs out : List Value) (h₁ h' : Heap) (tk : Nat) (d : Addr) (n : Nat), P vs → Srtd ltv out → Stb ltv out vs → (∀ b o, s.heap.get? b = some o → h₁.get? b = some o) → (∀ b o, h₁.get? b = some o → h'.get? b = some o) → h₁.objs.size ≤ d → h'.get? d = some (seqObj "list" out.toArray n) →
      Q (.ref d) { s with heap := h', toks := tk }) :
    wpAny (model prog w) A (call (.builtin "sorted") [r]) Q E s := by
  refine Calls.call_function_entry kind_sorted plain_sorted entry_sorted (args_sorted1 _) ?_
  unfold Builtin.«sorted»
  refine wpAny_bind (m := checkCount "sorted" 1 1 _) (wpAny_pure ?_)
  refine wpAny_bind (hcol _ fun h' tk vs kp hP => ?_)
  refine wpAny_bind (wpAny_newList ?_ (hz vs hP))
  have hoL : (h'.push (seqObj "list" vs.toArray 0)).get? h'.objs.size = some (seqObj "list" vs.toArray 0) := Heap.get?_push_size _ rfl
  have keep : ∀ b o, s.heap.get? b = some o → b ≠ h'.objs.size ∧ (h'.push (seqObj "list" vs.toArray 0)).get? b = some o := fun b o q => ⟨Nat.ne_of_lt (Heap.lt_size (kp b o q)), Heap.get?_push_of_some _ (kp b o q)⟩
  show wpAny _ _ _ _ _ { s with heap := h'.push (seqObj "list" vs.toArray 0), toks := tk }
  refine wpAny_bind (wpAny_holding (wpAny_call_entry slot_list_sort ⟨_, hoL, rfl⟩ entry_list_sort (list_sort_ord O hoL (hz vs hP) (fun h2 => hS vs hP h2 _ _ tk keep) fun out hs hb => ⟨_, rfl, ?_⟩) (args_list_sort _)))
  obtain ⟨n, hn⟩ := sortedHeap_at (out := out.toArray) (vs := vs) hoL
  exact wpAny_pure ⟨_, rfl, h vs out h' _ tk _ n hP hs hb kp (fun b o e => by
    have k1 : b ≠ h'.objs.size := Nat.ne_of_lt (Heap.lt_size e)
    have k2 : (h'.push (seqObj "list" vs.toArray 0)).get? b = some o := Heap.get?_push_of_some _ e
    rw [sortedHeap_old k1 (Heap.lt_size k2)]
    exact k2) (Nat.le_refl _) hn⟩
/-- the items of a list, a tuple, gathered -/
theorem collect_seq {l : Addr} {o : Obj} {vs : List Value} {n : Nat} {R : List Value → Shared → Prop} (ho : s.heap.get? l = some o) (hc : o.cls = .type "list" ∨ o.cls = .type "tuple") (hd : o.data = .seq vs.toArray n) (hsz : vs.length ≤ sizeLine)
    (h : ∀ h' tk, (∀ b o, s.heap.get? b = some o → h'.get? b = some o) → R vs { s with heap := h', toks := tk }) : wpAny (model prog w) A (PySem.collect (.ref l)) R E s := by
  unfold PySem.collect
  refine wpAny_bind (wpAny_runValue (codeAny_builtin entry_proto_collect' ?_))
  show wpAny _ _ (do again (.builtin "list.__iadd__" ⟨[← newList [], .ref l], []⟩)) _ _ s
  refine wpAny_bind (wpAny_newList (wpAny_pure ⟨Code.quiet_builtin _ (by decide +kernel), codeAny_builtin entry_list_iadd' ?_⟩))
  show wpAny _ _ (Builtin.List.listExtendWith (.ref s.heap.objs.size) (.ref l) (.ref s.heap.objs.size)) _ _ { s with heap := s.heap.push (seqObj "list" #[] 0) }
  unfold Builtin.List.listExtendWith
  have ho' : (s.heap.push (seqObj "list" #[] 0)).get? l = some o := Heap.get?_push_of_some _ ho
  have go : ∀ T : String, o.cls = .type T → (Value.type T == Value.type "list" || Value.type T == Value.type "tuple") = true → wpAny (model prog w) (A.under (Code.builtin "list.__iadd__" { pos := [Value.ref s.heap.objs.size, Value.ref l] })) (Builtin.List.listExtendWith (.ref s.heap.objs.size) (.ref l) (.ref s.heap.objs.size))
      (fun fin s' => fin = .done (.ret (.ref s.heap.objs.size)) ∧ s' = { s with heap := (s.heap.push (seqObj "list" #[] 0)).update s.heap.objs.size (Obj.mapSeq (· ++ vs.toArray)) }) (fun _ _ => False) { s with heap := s.heap.push (seqObj "list" #[] 0) } := fun T hT ht => by
    unfold Builtin.List.listExtendWith
    refine wpAny_bind (wpAny_typeOf (T := T) ⟨o, ho', hT⟩ ?_)
    rw [if_pos (by rw [Bool.or_assoc, ht, Bool.or_true])]
    refine wpAny_bind (listItems_at ho' hd ?_)
    refine wpAny_bind (listItems_at (xs := #[]) (n := 0) (Heap.get?_push_size _ rfl) rfl ?_)
    rw [if_neg (by simp)]
    refine wpAny_bind (listUpdate_at (xs := #[]) (n := 0) (Heap.get?_push_size _ rfl) rfl ?_ (Nat.zero_le _) (by show (#[] ++ vs.toArray).size ≤ sizeLine + 1; simp only [Array.size_append, List.size_toArray, List.length_nil]; omega))
    exact wpAny_pure ⟨rfl, rfl⟩
  have went : wpAny (model prog w) (A.under (Code.builtin "list.__iadd__" { pos := [Value.ref s.heap.objs.size, Value.ref l] })) (Builtin.List.listExtendWith (.ref s.heap.objs.size) (.ref l) (.ref s.heap.objs.size))
      (fun fin s' => fin = .done (.ret (.ref s.heap.objs.size)) ∧ s' = { s with heap := (s.heap.push (seqObj "list" #[] 0)).update s.heap.objs.size (Obj.mapSeq (· ++ vs.toArray)) }) (fun _ _ => False) { s with heap := s.heap.push (seqObj "list" #[] 0) } := by
    rcases hc with hc | hc
    · exact go "list" hc (by rfl)
    · exact go "tuple" hc (by rfl)
  refine wpAny_mono went (fun fin s' ⟨e1, e2⟩ => ?_) fun _ _ x => x.elim
  subst e1 e2
  show wpAny (model prog w) A (do
      let o ← load s.heap.objs.size
      match o.data with
      | .seq xs _ => pure xs.toList
      | _ => unsupported "internal:collect") R E { s with heap := (s.heap.push (seqObj "list" #[] 0)).update s.heap.objs.size (Obj.mapSeq (· ++ vs.toArray)) }
  refine wpAny_bind (wpAny_load (get?_update_seq (Heap.get?_push_size _ rfl) _) ?_)
  show wpAny _ _ (pure ((#[] : Array Value) ++ vs.toArray).toList) R E _
  rw [show ((#[] : Array Value) ++ vs.toArray).toList = vs by simp]
  refine wpAny_pure (h _ s.toks fun b o e => ?_)
  rw [Heap.get?_update_ne _ _ _ _ (Nat.ne_of_lt (Heap.lt_size e))]
  exact Heap.get?_push_of_some _ e
end
/-! ### sorted -/
theorem Vals.permU {out vs : List Value} (p : out.Perm vs) : ∀ {us : List V}, Vals us vs → ∃ ys, ys.Perm us ∧ Vals ys out := by
  induction p with
  | nil => intro us h; exact ⟨us, .refl _, h⟩
  | cons x _ ih =>
    intro us h
    cases h with
    | cons r t => obtain ⟨ys, h1, h2⟩ := ih t; exact ⟨_, .cons _ h1, .cons r h2⟩
  | swap x y l =>
    intro us h
    cases h with
    | cons r t => cases t with
      | cons r2 t => exact ⟨_, .swap _ _ _, .cons r2 (.cons r t)⟩
  | trans _ _ ih1 ih2 =>
    intro us h
    obtain ⟨ys, h1, h2⟩ := ih2 h
    obtain ⟨zs, h3, h4⟩ := ih1 h2
    exact ⟨zs, h3.trans h1, h4⟩
theorem RepL.perm {mg : Str → Option Value} {F : Hp} {ys us : List V} (p : ys.Perm us) : ∀ {ds : List D}, RepL mg F us ds → ∃ es, es.Perm ds ∧ RepL mg F ys es := by
  induction p with
  | nil => intro us h; exact ⟨us, .refl _, h⟩
  | cons x _ ih =>
    intro us h
    cases h with
    | cons r t => obtain ⟨ys, h1, h2⟩ := ih t; exact ⟨_, .cons _ h1, .cons r h2⟩
  | swap x y l =>
    intro us h
    cases h with
    | cons r t => cases t with
      | cons r2 t => exact ⟨_, .swap _ _ _, .cons r2 (.cons r t)⟩
  | trans _ _ ih1 ih2 =>
    intro us h
    obtain ⟨ys, h1, h2⟩ := ih2 h
    obtain ⟨zs, h3, h4⟩ := ih1 h2
    exact ⟨zs, h3.trans h1, h4⟩
/-- what is gone through -/
inductive SrcS (K : PySem.W.Frag) (H : Hp) : V → (List V → Prop) → Prop
  | seq {a : Addr} {us : List V} {S : List V → Prop} : (SqL K H a us ∨ SqT K H a us) → S us → SrcS K H (.ref a) S
  | dK {a : Addr} {kvs : List (Key × V)} {S : List V → Prop} : Rd H a (.dK kvs) → S (kvs.map fun kv => kV kv.1) → SrcS K H (.ref a) S
  | dT {a : Addr} {kvs : List (List Key × V)} {S : List V → Prop} : Rd H a (.dT kvs) → (∀ bs, IsKeys H kvs bs → S (bs.map V.ref)) → SrcS K H (.ref a) S
def rSortA (K : PySem.W.Frag) : List V → Hp → VK → Prop := fun xs H Q => ∃ x, xs = [x] ∧ SrcS K H x fun us => SortV H us ∧ ∀ ys p, ys.Perm us → ys.Pairwise (fun a b => ¬ keyV H b < keyV H a) → H p = none → Q (.ref p) (upd H p (.lst ys))
section
variable {X : Cx}
/-- gathered -/
theorem gather {pins : List (Addr × Obj)} {σ : L2.St} {H : Hp} {s : Shared} {x : V} {u : Value} {S : List V → Prop} {E : Value → Shared → Prop} (hc : X.calm = true) (I : Inv X pins σ H s) (r : RelV x u) (h : SrcS X.K H x S) :
    ∃ us, S us ∧ us.length ≤ sizeLine ∧ ∀ (R : List Value → Shared → Prop), (∀ h' tk vs, (∀ b o, s.heap.get? b = some o → h'.get? b = some o) → Vals us vs → R vs { s with heap := h', toks := tk }) → wpAny (model X.prog X.w) X.A.in1 (PySem.collect u) R E s := by
  cases h with
  | @seq a us _ hq hS =>
    cases (show u = Value.ref a from r)
    rcases hq with hq | hq
    · obtain ⟨its, r', pl, hz⟩ := I.list hq
      obtain ⟨o, ho, hc, n, hd⟩ := pl.isList
      exact ⟨us, hS, hz, fun R hR => collect_seq ho (.inl hc) hd (by rw [← r'.length]; exact hz) fun h' tk k => hR h' tk its k r'⟩
    · obtain ⟨its, r', pl, hz⟩ := I.tuple hq
      obtain ⟨o, ho, hc, n, hd⟩ := pl
      exact ⟨us, hS, hz, fun R hR => collect_seq ho (.inr hc) hd (by rw [← r'.length]; exact hz) fun h' tk k => hR h' tk its k r'⟩
  | @dK a kvs _ hd hS =>
    cases (show u = Value.ref a from r)
    obtain ⟨z, lo, vs, rel, dd⟩ := dk_rd I.hok hd
    obtain ⟨ep, hat⟩ := dd.dictAt
    have ek : (kvs.map fun kv => kV kv.1) = vs.map fun p => kV p.1 := by
      have e := congrArg (List.map kV) rel.keys
      rw [List.map_map, List.map_map] at e
      exact e
    refine ⟨_, hS, by simp [z], fun R hR => PySem.W.kdu_collect (A := X.A.in1) (PySem.W.kdl_dict (knd := mixKind X.prog X.w) (kvs := vs) (ep := ep) lo) (I.ok.hd hc) hat (by rw [← rel.length]; exact z) fun h' tk acc hk hacc => ?_⟩
    refine hR h' tk _ hk ?_
    rw [ek]
    exact keys_at (by rw [Array.length_toList]; exact hacc.1) fun j v e => hacc.2 j v (by rw [← Array.getElem?_toList]; exact e)
  | @dT d kvs _ hd hS =>
    cases (show u = Value.ref d from r)
    obtain ⟨z, hs, ks, pr, o, es, ep, ho, hx, hdt, he, hn⟩ := (show ObjOk X.prog X.w H s.heap d (.dT kvs) from hd.ok I.hok)
    have l1 : es.size = ks.length := size_of_entries he
    have l2 : kvs.length = ks.length := Paired.length pr
    refine ⟨_, hS _ (isKeys_of pr), by rw [List.length_map, List.length_map]; omega, fun R hR => PySem.W.kdu_collect (A := X.A.in1) (kdl_raw hs hx hdt) (I.ok.hd hc) ho (by omega) fun h' tk acc' hk it => hR h' tk _ hk ?_⟩
    have ea : acc'.toList = (ks.map fun x => x.2.1).map Value.ref := by
      have hl : acc'.toList.length = ks.length := by rw [Array.length_toList, it.1]; exact l1
      rw [List.map_map]
      apply List.ext_getElem?
      intro j
      rw [List.getElem?_map]
      cases hj : acc'.toList[j]? with
      | none =>
        have h1 := List.getElem?_eq_none_iff.mp hj
        rw [List.getElem?_eq_none (by omega)]
        all_goals rfl
      | some v =>
        obtain ⟨en, hen, hv⟩ := it.2 j v (by rw [← Array.getElem?_toList]; exact hj)
        have qe := entry_at he j
        rw [hen] at qe
        cases hb : ks[j]? with
        | none =>
          rw [hb] at qe
          exact nomatch (show some en = none from qe)
        | some b =>
          rw [hb] at qe
          have e2 : en = entryOfKey (tupleKind (mixKind X.prog X.w)) b := Option.some.inj qe
          rw [hv, e2]
          all_goals rfl
    rw [ea]
    exact vals_refs _
theorem cr_sortA (hc : X.calm = true) : CallR X (.builtin "sorted") (rSortA X.K) := by
  intro pins s σ H xs us Q I r h
  obtain ⟨x, rfl, src⟩ := h
  obtain ⟨u, rfl, rx⟩ := vals1 r
  obtain ⟨vs0, ⟨sv, q⟩, hz, hcol⟩ := gather (E := X.xe) hc I rx src
  refine sorted_shell (P := Vals vs0) (swo_key (keyU H)) (fun vs hv => by rw [← hv.length]; exact hz) hcol (fun vs hv h2 h₁ a tk ka => sort_able I.hok sv hv h2 ka) fun vs out h₁ h' tk d n hv hs hb k1 k2 hd hn => ?_
  obtain ⟨ys, p1, p2⟩ := Vals.permU hb.perm hv
  have I1 : Inv X pins σ H { s with heap := h₁, toks := tk } := I.kept k1
  have hf : H d = none := I1.hok.fresh hd
  refine ⟨.ref d, _, I1.laid (t' := tk) (o := .lst ys) k2 hd ⟨by rw [p1.length_eq]; exact hz, out, n, p2, hn⟩, rfl, q ys d p1 ?_ hf⟩
  have pw : ys.Pairwise (fun a b => ¬ keyV H b < keyV H a) := by
    have kinds : ∀ v ∈ ys, (∃ i, v = .int i) ∨ (∃ x, v = .str x) ∨ ∃ a, v = .ref a := fun v hv => sv.kinds v (p1.mem_iff.mp hv)
    have go : ∀ {ys : List V} {out : List Value}, Vals ys out → (∀ v ∈ ys, (∃ i, v = .int i) ∨ (∃ x, v = .str x) ∨ ∃ a, v = .ref a) → Srtd (fun v u => decide (keyU H v < keyU H u)) out → ys.Pairwise (fun a b => ¬ keyV H b < keyV H a) := fun {ys out} hv => by
      induction hv with
      | nil => intro _ _; exact .nil
      | @cons v ys u out r t ih =>
        intro hk hs
        have hs' := List.pairwise_cons.mp hs
        refine .cons (fun y hy => ?_) (ih (fun v hv => hk v (List.mem_cons_of_mem _ hv)) hs'.2)
        have : ∃ u' ∈ out, RelV y u' := by
          clear ih hs hs' hk
          induction t with
          | nil => cases hy
          | cons r' t' ih' =>
            rcases List.mem_cons.mp hy with e | hy
            · subst e; exact ⟨_, List.mem_cons_self, r'⟩
            · obtain ⟨u', h1, h2⟩ := ih' hy; exact ⟨u', List.mem_cons_of_mem _ h1, h2⟩
        obtain ⟨u', h1, h2⟩ := this
        have h3 := of_decide_eq_false (hs'.1 u' h1)
        rw [keyU_rel r (hk _ List.mem_cons_self), keyU_rel h2 (hk _ (List.mem_cons_of_mem _ hy))] at h3
        exact h3
    exact go p2 kinds hs
  exact pw
end
end HU
set_option maxRecDepth 100000
namespace HU
open PySem PySem.Spec L2
/-! ### all tuples stand still -/
def withT (F H : Hp) : Hp := fun x => match F x with
  | some o => some o
  | none => match H x with
    | some (.tup vs) => some (.tup vs)
    | _ => none
theorem withT_same (F H : Hp) : Same F (withT F H) := fun x o e => by unfold withT; rw [e]
theorem withT_tup {F H : Hp} (s : Same F H) {a : Addr} {vs : List V} (e : H a = some (.tup vs)) : withT F H a = some (.tup vs) := by
  unfold withT
  cases q : F a with
  | none => rw [e]
  | some o => have := s a o q; rw [e] at this; rw [Option.some.inj this]
theorem withT_some {F H : Hp} {x : Addr} {o : HO} (e : withT F H x = some o) : F x = some o ∨ (F x = none ∧ H x = some o ∧ ∃ vs, o = .tup vs) := by
  unfold withT at e
  cases q : F x with
  | some o' => rw [q] at e; exact .inl (by rw [← e])
  | none =>
    rw [q] at e
    cases q2 : H x with
    | none => rw [q2] at e; cases e
    | some o' => rw [q2] at e; cases o' <;> first | (cases e; exact .inr ⟨rfl, rfl, _, rfl⟩) | cases e
theorem R.allT {a : Ax} {env : List Sl} {σ : L2.St} {F H : Hp} {ow : Nat → List Addr} (r : R a env σ F H ow) : R a env σ (withT F H) H ow := by
  refine ⟨r.ln, r.nl, fun x o e => ?_, r.gh, r.ff.trans (withT_same F H), fun x o e => ?_, r.dm, fun i s e => (r.sl i s e).mono (withT_same F H) (Same.refl _) fun _ _ => rfl, r.oz, r.oi, r.on, fun i p hp => ⟨?_, (r.of i p hp).2⟩, r.bh, fun p o hb => ⟨?_, (r.bf p o hb).2⟩, r.ob, r.pr⟩
  · rcases withT_some e with h | ⟨_, h, _⟩
    · exact r.fh x o h
    · exact h
  · rcases withT_some e with h | ⟨_, _, h⟩
    · exact r.nw x o h
    · exact .inr (.inr h)
  · cases e : withT F H p with
    | none => rfl
    | some o =>
      obtain ⟨x, e1, nt⟩ := r.trk hp
      rcases withT_some e with h | ⟨_, h, vs, h2⟩
      · rw [(r.of i p hp).1] at h; cases h
      · rw [e1] at h; cases h; exact absurd h2 (nt vs)
  · cases e : withT F H p with
    | none => rfl
    | some o' =>
      have e1 := r.bh p o hb
      obtain ⟨f1, _, nt⟩ := r.bf p o hb
      rcases withT_some e with h | ⟨_, h, vs, h2⟩
      · rw [f1] at h; cases h
      · rw [e1] at h; cases h; exact absurd h2 (nt vs)
theorem RX.allT {a : Ax} {env : List Sl} {σ : L2.St} {F H : Hp} (r : RX a env σ F H) : RX a env σ (withT F H) H := by
  obtain ⟨ow, r⟩ := r
  exact ⟨ow, r.allT⟩
/-- as New1, all tuples standing still -/
abbrev New1T (mg : Str → Option Value) (r : List V → Hp → VK → Prop) (g : D → Option Sl) : Prop := ∀ (F H : Hp) (x : V) (dx : D) (s : Sl) (Q : VK), Same F H → Vw mg F H x dx → g dx = some s → (∀ v H', NewR mg (withT F H) H s v H' → Q v H') → r [x] H Q
section
variable {X : Cx} {n : Nat} {e : Expr} {x : Str} {p pos : Pos} {id T : String} {r : List V → Hp → VK → Prop} {τ : Type} {pa : Mr τ} {qa : τ → List Sl → Option D}
theorem rd_newT {a : Ax} {g : D → Option Sl} {σ : L2.St} {H : Hp} {Q : VK} (fl : New1T a.mg r g) (h : rdF a (mOp1 g pa qa) σ H Q) : tCons (rdV a pa qa) tNil σ H (fun vs H1 => r vs H1 Q) := by
  obtain ⟨env, F, s, env', r0, hm, q⟩ := h
  obtain ⟨t, dx, h1, h2, h3⟩ := mOp1_some hm
  refine ⟨env, F, t, _, r0, h1, fun v F' H' s' r' vw => ?_⟩
  have fh : Same F' H' := by obtain ⟨_, r''⟩ := r'; exact r''.fh
  have vx := vw _ F' H' dx (Same.refl F') r' h2
  refine fl F' H' v dx s Q fh vx h3 fun w H2 nr => ?_
  obtain ⟨F3, s3, R3⟩ := (RX.allT r').new nr
  exact q w F3 H2 (s'.trans ((withT_same F' H').trans s3)) (by obtain ⟨_, r''⟩ := r'; exact r''.nl) R3
theorem sf_callBT {g : D → Option Sl} (hc : CallR X (.builtin id) r) (fl : New1T X.mg r g) (h : SV X n e pa qa) (hm : X.mg x = none) (hv : bootBuiltins x = some (.builtin id)) (hg : Gl X x := by rfl) (he : starEach [e] X.env = (false, eval e X.env) :: starEach [] X.env := by rfl)
    (hn : x ≠ "__name__" := by decide) (hdb : (x == ("__debug__" : Str)) = false := by decide) (hpl : (backTo pos (starEach [] X.env)).any (·.1) = false := by rfl) : SF X n (.Call (.Name x p) [e] [] pos) (mOp1 g pa qa) :=
  ⟨fun a ha hn' => (pe_callB hc hg hm hv (pa_cons (h.run a ha hn') pa_nil he) hn hdb he hpl).w fun σ H Q q => rd_newT (by rw [ha]; exact fl) q⟩
theorem sf_callTyT {g : D → Option Sl} (hc : CallR X (.type T) r) (fl : New1T X.mg r g) (h : SV X n e pa qa) (hm : X.mg x = none) (hv : bootBuiltins x = some (.type T)) (hg : Gl X x := by rfl) (he : starEach [e] X.env = (false, eval e X.env) :: starEach [] X.env := by rfl)
    (hn : x ≠ "__name__" := by decide) (hdb : (x == ("__debug__" : Str)) = false := by decide) (hpl : (backTo pos (starEach [] X.env)).any (·.1) = false := by rfl) : SF X n (.Call (.Name x p) [e] [] pos) (mOp1 g pa qa) :=
  ⟨fun a ha hn' => (pe_callTy hc hg hm hv (pa_cons (h.run a ha hn') pa_nil he) hn hdb he hpl).w fun σ H Q q => rd_newT (by rw [ha]; exact fl) q⟩
end
/-! ### sorted -/
def kID : D → List Int
  | .int i => [i]
  | .str x => kI (.inr x)
  | _ => []
def keyOf : D → SK
  | .int i => [[i]]
  | .str x => [kI (.inr x)]
  | .tup ds => ds.map kID
  | _ => []
def asTups : List D → Option (List (List Key))
  | [] => some []
  | .tup ds :: r => (asKeys ds).bind fun k => (asTups r).map (k :: ·)
  | _ => none
def tupsOk (tt : List (List Key)) : Bool := tt.all (fun t => !t.isEmpty) && tt.all fun x => tt.all fun y => sigOk x y
def sortOk (ds : List D) : Bool := (asInts ds).isSome || (asStrs ds).isSome || (asTups ds).any tupsOk
def leS (a b : D) : Bool := !decide (keyOf b < keyOf a)
def srtL (ds : List D) : List D := ds.mergeSort leS
def kDs (ks : List Key) : D := .tup (ks.map kD)
def srcD : D → Option (List D)
  | .lst xs => some xs
  | .tup xs => some xs
  | .dic kvs => some (kvs.map fun kv => kD kv.1)
  | .dit kvs => some (kvs.map fun kv => kDs kv.1)
  | _ => none
def sortedD (d : D) : Option Sl := (srcD d).bind fun ds => if sortOk ds = true then some (.lst (srtL ds)) else none
theorem asTups_cons {d : D} {r : List D} {tt : List (List Key)} (h : asTups (d :: r) = some tt) : ∃ ds k tt', d = .tup ds ∧ asKeys ds = some k ∧ asTups r = some tt' ∧ tt = k :: tt' := by
  cases d with
  | tup ds =>
    simp only [asTups, Option.bind_eq_some_iff, Option.map_eq_some_iff] at h
    obtain ⟨k, h1, tt', h2, rfl⟩ := h
    exact ⟨ds, k, tt', rfl, h1, h2, rfl⟩
  | _ => cases h
theorem asKeys_eq : ∀ {ds : List D} {ks : List Key}, asKeys ds = some ks → ds = ks.map kD
  | [], _, h => by cases h; rfl
  | d :: ds, _, h => by
    simp only [asKeys, Option.bind_eq_some_iff, Option.map_eq_some_iff] at h
    obtain ⟨k, h1, ks, h2, rfl⟩ := h
    rw [List.map_cons, ← asKeys_eq h2]
    cases d <;> first | (cases h1; rfl) | cases h1
theorem asTups_eq : ∀ {ds : List D} {tt : List (List Key)}, asTups ds = some tt → ds = tt.map kDs
  | [], _, h => by cases h; rfl
  | d :: ds, _, h => by
    obtain ⟨xs, k, tt', rfl, h1, h2, rfl⟩ := asTups_cons h
    rw [List.map_cons, ← asTups_eq h2, asKeys_eq h1]; rfl
theorem kID_kD (k : Key) : kID (kD k) = kI k := by cases k <;> rfl
section
variable {mg : Str → Option Value} {F H : Hp}
theorem kV_kD {v : V} {k : Key} (r : Rep mg F v (kD k)) : v = kV k := by
  cases k with
  | inl i => cases r; rfl
  | inr x => cases r; rfl
theorem kVs_kDs : ∀ {vs : List V} {ks : List Key}, RepL mg F vs (ks.map kD) → vs = ks.map kV
  | _, [], .nil => rfl
  | _, k :: ks, .cons a r => by rw [kV_kD a, kVs_kDs r]; rfl
theorem rep_kDs : ∀ (ks : List Key), RepL mg F (ks.map kV) (ks.map kD)
  | [] => .nil
  | k :: ks => .cons (kD_rep k) (rep_kDs ks)
/-- the items, as the heap has them -/
theorem sort_items (s : Same F H) {us : List V} {ds : List D} (r : RepL mg F us ds) (h : sortOk ds = true) : SortV H us ∧ ∀ v d, Rep mg F v d → d ∈ ds → keyV H v = keyOf d := by
  unfold sortOk at h
  rw [Bool.or_eq_true, Bool.or_eq_true] at h
  rcases h with (h | h) | h
  · obtain ⟨ns, e⟩ := Option.isSome_iff_exists.mp h
    have e2 := asInts_eq e
    subst e2
    refine ⟨.iA r.ints, fun v d q hd => ?_⟩
    obtain ⟨i, _, rfl⟩ := List.mem_map.mp hd
    cases q; rfl
  · obtain ⟨ns, e⟩ := Option.isSome_iff_exists.mp h
    have e2 := asStrs_eq e
    subst e2
    refine ⟨.sA r.strs, fun v d q hd => ?_⟩
    obtain ⟨i, _, rfl⟩ := List.mem_map.mp hd
    cases q; rfl
  · cases e : asTups ds with
    | none => rw [e] at h; cases h
    | some tt =>
      rw [e] at h
      simp only [Option.any_some] at h
      unfold tupsOk at h
      rw [Bool.and_eq_true] at h
      have e2 := asTups_eq e
      subst e2
      have build : ∀ {tt : List (List Key)} {us : List V}, RepL mg F us (tt.map kDs) → ∃ t2 : List (Addr × List Key), us = t2.map (fun q => V.ref q.1) ∧ t2.map (·.2) = tt ∧ ∀ q ∈ t2, H q.1 = some (.tup (q.2.map kV)) := fun {tt} => by
        induction tt with
        | nil => intro us q; cases q; exact ⟨[], rfl, rfl, fun _ h => by cases h⟩
        | cons t tt ih =>
          intro us q
          cases q with
          | cons a q =>
            obtain ⟨t2, h1, h2, h3⟩ := ih q
            cases a with
            | @tup ad vs xs e1 e2 =>
              refine ⟨(ad, t) :: t2, by rw [h1]; rfl, by simp [h2], fun x hx => ?_⟩
              rcases List.mem_cons.mp hx with z | hx
              · subst z
                have := s _ _ e1
                rw [kVs_kDs e2] at this
                exact this
              · exact h3 x hx
      obtain ⟨t2, h1, h2, h3⟩ := build r
      have mem2 : ∀ q ∈ t2, q.2 ∈ tt := fun q hq => by rw [← h2]; exact List.mem_map.mpr ⟨q, hq, rfl⟩
      refine ⟨.tA h1 (fun q hq => ⟨h3 q hq, ?_⟩) fun p hp q hq => ?_, fun v d q hd => ?_⟩
      · have := List.all_eq_true.mp h.1 _ (mem2 q hq)
        intro z
        rw [z] at this
        cases this
      · exact List.all_eq_true.mp (List.all_eq_true.mp h.2 _ (mem2 p hp)) _ (mem2 q hq)
      · obtain ⟨t, ht, rfl⟩ := List.mem_map.mp hd
        cases q with
        | @tup ad vs xs e1 e2 =>
          have e3 := s _ _ e1
          show (match H ad with | some (.tup vs) => vs.map kIV | _ => []) = _
          rw [e3, kVs_kDs e2]
          show List.map kIV (t.map kV) = List.map kID (t.map kD)
          rw [List.map_map, List.map_map]
          exact List.map_congr_left fun k _ => by show kIV (kV k) = kID (kD k); rw [kIV_kV, kID_kD]
end
theorem keyOf_inj {ds : List D} (h : sortOk ds = true) : ∀ a b, a ∈ ds → b ∈ ds → keyOf a = keyOf b → a = b := fun a b ha hb e => by
  unfold sortOk at h
  rw [Bool.or_eq_true, Bool.or_eq_true] at h
  rcases h with (h | h) | h
  · obtain ⟨ns, q⟩ := Option.isSome_iff_exists.mp h
    have e2 := asInts_eq q
    subst e2
    obtain ⟨i, _, rfl⟩ := List.mem_map.mp ha
    obtain ⟨j, _, rfl⟩ := List.mem_map.mp hb
    simp [keyOf] at e
    rw [e]
  · obtain ⟨ns, q⟩ := Option.isSome_iff_exists.mp h
    have e2 := asStrs_eq q
    subst e2
    obtain ⟨i, _, rfl⟩ := List.mem_map.mp ha
    obtain ⟨j, _, rfl⟩ := List.mem_map.mp hb
    have e3 : kI (.inr i) = kI (.inr j) := by simpa [keyOf] using e
    have := kI_inj (k := .inr i) (l := .inr j) rfl e3
    cases this; rfl
  · cases q : asTups ds with
    | none => rw [q] at h; cases h
    | some tt =>
      rw [q] at h
      simp only [Option.any_some] at h
      unfold tupsOk at h
      rw [Bool.and_eq_true] at h
      have e2 := asTups_eq q
      subst e2
      obtain ⟨x, hx, rfl⟩ := List.mem_map.mp ha
      obtain ⟨y, hy, rfl⟩ := List.mem_map.mp hb
      have hs := List.all_eq_true.mp (List.all_eq_true.mp h.2 _ hx) _ hy
      have e3 : x.map kI = y.map kI := by
        have e4 : ∀ t : List Key, keyOf (kDs t) = t.map kI := fun t => by
          simp only [keyOf, kDs, List.map_map]
          exact List.map_congr_left fun k _ => kID_kD k
        rw [e4, e4] at e; exact e
      have key : ∀ (x y : List Key), sigOk x y = true → x.map kI = y.map kI → x = y := fun x => by
        induction x with
        | nil => intro y _ e; cases y with | nil => rfl | cons _ _ => cases e
        | cons k x ih =>
          intro y hs e
          cases y with
          | nil => cases e
          | cons l y =>
            simp only [List.map_cons, List.cons.injEq] at e
            have hs' : sameK k l = true ∧ sigOk x y = true := by
              unfold sigOk at hs ⊢
              simpa [List.all_cons, Bool.and_eq_true] using hs
            rw [kI_inj hs'.1 e.1, ih y hs'.2 e.2]
      rw [key x y hs e3]
theorem leS_total (a b : D) : (leS a b || leS b a) = true := by
  unfold leS
  by_cases h : keyOf b < keyOf a
  · have : ¬ keyOf a < keyOf b := List.lt_asymm h
    simp [this]
  · simp [h]
theorem leS_trans (a b c : D) (h1 : leS a b = true) (h2 : leS b c = true) : leS a c = true := by
  unfold leS at *
  simp only [Bool.not_eq_true', decide_eq_false_iff_not, List.not_lt] at *
  exact List.le_trans h1 h2
theorem srtL_perm (ds : List D) : (srtL ds).Perm ds := List.mergeSort_perm ds leS
theorem srtL_sorted (ds : List D) : (srtL ds).Pairwise fun a b => ¬ keyOf b < keyOf a := by
  have := List.pairwise_mergeSort (le := leS) leS_trans leS_total ds
  exact this.imp fun h => by simpa [leS] using h
theorem srt_uniq {es ds : List D} (h : sortOk ds = true) (p : es.Perm ds) (s : es.Pairwise fun a b => ¬ keyOf b < keyOf a) : es = srtL ds := by
  refine List.Perm.eq_of_pairwise (le := fun a b => ¬ keyOf b < keyOf a) (fun a b ha hb h1 h2 => ?_) s (srtL_sorted ds) (p.trans (srtL_perm ds).symm)
  refine keyOf_inj h a b (p.mem_iff.mp ha) ((srtL_perm ds).mem_iff.mp hb) ?_
  rw [List.not_lt] at h1 h2
  exact List.le_antisymm h1 h2
theorem fl_sorted {mg} {K : PySem.W.Frag} : New1T mg (rSortA K) sortedD := fun F H x dx s Q sm vx e k => by
  unfold sortedD at e
  simp only [Option.bind_eq_some_iff] at e
  obtain ⟨ds, h1, h2⟩ := e
  split at h2
  · rename_i hok
    cases h2
    have sT : Same (withT F H) H := fun x o e => by rcases withT_some e with h | ⟨_, h, _⟩; · exact sm x o h
                                                    · exact h
    have fin : ∀ {us : List V}, RepL mg (withT F H) us ds → SortV H us ∧ ∀ ys p, ys.Perm us → ys.Pairwise (fun a b => ¬ keyV H b < keyV H a) → H p = none → Q (.ref p) (upd H p (.lst ys)) := fun {us} r => by
      obtain ⟨sv, hk⟩ := sort_items sT r hok
      refine ⟨sv, fun ys p pm pw hp => ?_⟩
      obtain ⟨es, p2, r2⟩ := RepL.perm pm r
      have pw2 : es.Pairwise fun a b => ¬ keyOf b < keyOf a := by
        have go : ∀ {ys : List V} {es : List D}, RepL mg (withT F H) ys es → (∀ d ∈ es, d ∈ ds) → ys.Pairwise (fun a b => ¬ keyV H b < keyV H a) → es.Pairwise fun a b => ¬ keyOf b < keyOf a := fun {ys} => by
          induction ys with
          | nil => intro es q _ _; cases q; exact .nil
          | cons y ys ih =>
            intro es q hm pw
            cases q with
            | @cons _ _ d es' a q =>
              have pw' := List.pairwise_cons.mp pw
              refine .cons (fun z hz => ?_) (ih q (fun d hd => hm d (List.mem_cons_of_mem _ hd)) pw'.2)
              have : ∃ v ∈ ys, Rep mg (withT F H) v z := by
                obtain ⟨i, hi⟩ := List.mem_iff_getElem?.mp hz
                obtain ⟨v, h3, h4⟩ := q.get hi
                exact ⟨v, List.mem_iff_getElem?.mpr ⟨i, h3⟩, h4⟩
              obtain ⟨v, h3, h4⟩ := this
              have := pw'.1 v h3
              rw [hk v z h4 (hm z (List.mem_cons_of_mem _ hz)), hk y d a (hm d List.mem_cons_self)] at this
              exact this
        exact go r2 (fun d hd => p2.mem_iff.mp hd) pw
      have := srt_uniq hok p2 pw2
      subst this
      exact k _ _ ⟨p, ys, rfl, hp, rfl, r2⟩
    unfold srcD at h1
    split at h1
    · cases h1
      obtain ⟨p, vs, rfl, h, r⟩ := vw_lst sm vx
      exact ⟨_, rfl, .seq (.inl (SqL.of h)) (fin (r.mono (withT_same F H)))⟩
    · cases h1
      obtain ⟨p, vs, rfl, h, r⟩ := vw_tup sm vx
      exact ⟨_, rfl, .seq (.inr (SqT.of h)) (fin (r.mono (withT_same F H)))⟩
    · cases h1
      obtain ⟨p, vs, rfl, h, r⟩ := vw_dic sm vx
      refine ⟨_, rfl, .dK h (fin ?_)⟩
      have go : ∀ {ws : List (Key × V)} {kvs : List (Key × D)}, RepA mg F ws kvs → RepL mg (withT F H) (ws.map fun kv => kV kv.1) (kvs.map fun kv => kD kv.1) := fun {ws} => by
        induction ws with
        | nil => intro kvs q; cases q; exact .nil
        | cons w ws ih => intro kvs q; cases q with | cons a q => exact .cons (kD_rep _) (ih q)
      exact go r
    · cases h1
      obtain ⟨p, vs, rfl, h, r⟩ := vw_dit sm vx
      refine ⟨_, rfl, .dT h fun bs hb => fin ?_⟩
      have go : ∀ {ws : List (List Key × V)} {kvs : List (List Key × D)} {bs : List Addr}, RepA mg F ws kvs → IsKeys H ws bs → RepL mg (withT F H) (bs.map V.ref) (kvs.map fun kv => kDs kv.1) := fun {ws} => by
        induction ws with
        | nil => intro kvs bs q hb; cases q; cases hb; exact .nil
        | cons w ws ih =>
          intro kvs bs q hb
          cases q with
          | cons a q => cases hb with
            | cons hb hbs => exact .cons (.tup (withT_tup sm hb) (rep_kDs _)) (ih q hbs)
      exact go r hb
    · cases h1
  · cases h2
/-! ### list(x), of a dict with tuple keys, too; tuple(x) -/
def listTD (d : D) : Option Sl := (srcD d).map .lst
def rListT (K : PySem.W.Frag) : List V → Hp → VK → Prop := fun xs H Q => rListA K xs H Q ∨ ∃ d kvs, xs = [V.ref d] ∧ Rd H d (.dT kvs) ∧ ∀ p bs, H p = none → IsKeys H kvs bs → Q (.ref p) (upd H p (.lst (bs.map V.ref)))
theorem cr_listT {X : Cx} (hc : X.calm = true) : CallR X (.type "list") (rListT X.K) := (cr_listA hc).or (call_list_dT hc)
theorem fl_listT {mg} {K : PySem.W.Frag} : New1T mg (rListT K) listTD := fun F H x dx s Q sm vx e k => by
  unfold listTD at e
  simp only [Option.map_eq_some_iff] at e
  obtain ⟨ds, h1, rfl⟩ := e
  unfold srcD at h1
  split at h1
  · cases h1
    obtain ⟨p, vs, rfl, h, r⟩ := vw_lst sm vx
    exact .inl (.inl ⟨p, vs, rfl, .inl (SqL.of h), fun l hl => k _ _ ⟨l, vs, rfl, hl, rfl, r.mono (withT_same F H)⟩⟩)
  · cases h1
    obtain ⟨p, vs, rfl, h, r⟩ := vw_tup sm vx
    exact .inl (.inl ⟨p, vs, rfl, .inr (SqT.of h), fun l hl => k _ _ ⟨l, vs, rfl, hl, rfl, r.mono (withT_same F H)⟩⟩)
  · cases h1
    obtain ⟨p, vs, rfl, h, r⟩ := vw_dic sm vx
    refine .inl (.inr ⟨p, vs, rfl, h, fun l hl => k _ _ ⟨l, _, rfl, hl, rfl, ?_⟩⟩)
    have go : ∀ {ws : List (Key × V)} {kvs : List (Key × D)}, RepA mg F ws kvs → RepL mg (withT F H) (ws.map fun kv => kV kv.1) (kvs.map fun kv => kD kv.1) := fun {ws} => by
      induction ws with
      | nil => intro kvs q; cases q; exact .nil
      | cons w ws ih => intro kvs q; cases q with | cons a q => exact .cons (kD_rep _) (ih q)
    exact go r
  · cases h1
    obtain ⟨p, vs, rfl, h, r⟩ := vw_dit sm vx
    refine .inr ⟨p, vs, rfl, h, fun l bs hl hb => k _ _ ⟨l, _, rfl, hl, rfl, ?_⟩⟩
    have go : ∀ {ws : List (List Key × V)} {kvs : List (List Key × D)} {bs : List Addr}, RepA mg F ws kvs → IsKeys H ws bs → RepL mg (withT F H) (bs.map V.ref) (kvs.map fun kv => kDs kv.1) := fun {ws} => by
      induction ws with
      | nil => intro kvs bs q hb; cases q; cases hb; exact .nil
      | cons w ws ih =>
        intro kvs bs q hb
        cases q with
        | cons a q => cases hb with
          | cons hb hbs => exact .cons (.tup (withT_tup sm hb) (rep_kDs _)) (ih q hbs)
    exact go r hb
  · cases h1
theorem fl_tuple {mg} {K : PySem.W.Frag} : New1 mg (fun xs H Q => ∃ p ys, xs = [.ref p] ∧ ((SqL K H p ys ∧ ∀ l, H l = none → Q (.ref l) (upd H l (.tup ys))) ∨ (SqT K H p ys ∧ Q (.ref p) H))) tupleD := fun F H x dx s Q sm vx e k => by
  unfold tupleD at e
  split at e
  · cases e
    obtain ⟨p, vs, rfl, h, r⟩ := vw_lst sm vx
    exact ⟨p, vs, rfl, .inl ⟨SqL.of h, fun l hl => k _ _ (.inr ⟨l, vs, _, rfl, rfl, hl, rfl, r⟩)⟩⟩
  · cases e
    obtain ⟨p, vs, rfl, h, r⟩ := vw_tup sm vx
    refine ⟨p, vs, rfl, .inr ⟨SqT.of h, k _ _ (.inl ⟨rfl, ?_⟩)⟩⟩
    cases vx with
    | rep rv => exact rv
  · cases e
end HU
set_option maxRecDepth 100000
namespace HU
open PySem PySem.Spec L2
/-! ### min, max of texts -/
def minS (x : Str) (xs : List Str) : Str := xs.foldl (fun a y => if decide (y.cps.toList < a.cps.toList) = true then y else a) x
def maxS (x : Str) (xs : List Str) : Str := xs.foldl (fun a y => if decide (a.cps.toList < y.cps.toList) = true then y else a) x
theorem minD_strs (x : Str) : ∀ xs : List Str, PySem.W.minD (.str x) (xs.map .str) = .str (minS x xs) := by
  intro xs
  unfold PySem.W.minD minS
  induction xs generalizing x with
  | nil => rfl
  | cons y r ih =>
    rw [List.map_cons, List.foldl_cons, List.foldl_cons, PySem.W.dataLt_str]
    have e : (if decide (y.cps.toList < x.cps.toList) = true then PyData.str y else PyData.str x) = .str (if decide (y.cps.toList < x.cps.toList) = true then y else x) := by split <;> rfl
    rw [e, ih]
theorem maxD_strs (x : Str) : ∀ xs : List Str, PySem.W.maxD (.str x) (xs.map .str) = .str (maxS x xs) := by
  intro xs
  unfold PySem.W.maxD maxS
  induction xs generalizing x with
  | nil => rfl
  | cons y r ih =>
    rw [List.map_cons, List.foldl_cons, List.foldl_cons, PySem.W.dataLt_str]
    have e : (if decide (x.cps.toList < y.cps.toList) = true then PyData.str y else PyData.str x) = .str (if decide (x.cps.toList < y.cps.toList) = true then y else x) := by split <;> rfl
    rw [e, ih]
theorem reads_strs {h : Heap} : ∀ {vs : List Value} {xs : List Str}, Vals (xs.map V.str) vs → ∃ as, ReadsAll h vs (xs.map PyData.str) as
  | _, [], r => by cases r; exact ⟨_, .nil⟩
  | _, x :: xs, r => by
    cases r with
    | cons a r =>
      obtain ⟨t, rfl⟩ := (show ∃ t, _ = Value.str x t from a)
      obtain ⟨as, h1⟩ := reads_strs r
      exact ⟨_, .cons (.str x t) h1⟩
theorem alike_strs (xs : List Str) : PySem.W.AlikeAll (xs.map PyData.str) := by
  refine ⟨fun x hx y hy => ?_, fun x hx => ?_⟩
  · obtain ⟨a, _, rfl⟩ := List.mem_map.mp hx
    obtain ⟨b, _, rfl⟩ := List.mem_map.mp hy
    rfl
  · obtain ⟨a, _, rfl⟩ := List.mem_map.mp hx
    exact fun z => nomatch z
theorem depth_strs : ∀ xs : List Str, PyData.depthAll (xs.map PyData.str) ≤ 1
  | [] => by simp [PyData.depthAll]
  | x :: xs => by
    have := depth_strs xs
    simp only [List.map_cons, PyData.depthAll, PyData.depth]
    omega
def rMMS (K : PySem.W.Frag) (f : Str → List Str → Str) : List V → Hp → VK → Prop := fun xs H Q => ∃ (a : Addr) (x : Str) (ss : List Str), xs = [.ref a] ∧ (SqL K H a ((x :: ss).map V.str) ∨ SqT K H a ((x :: ss).map V.str)) ∧ Q (.str (f x ss)) H
section
variable {X : Cx}
theorem cr_minS (hc : X.calm = true) (hu : X.A.units + 64 < cLine) : CallR X (.builtin "min") (rMMS X.K minS) := by
  intro pins s σ H xs us Q I r h
  obtain ⟨a, x, ss, rfl, hq, q⟩ := h
  obtain ⟨u, rfl, rx⟩ := vals1 r
  cases rx
  have fin : ∀ {vs : Array Value} {i : Nat} {v : Value} {h' : Heap} {tk : Nat} {bs : List Addr}, Reads h' v (PySem.W.minD (.str x) (ss.map .str)) bs → (∀ b o, s.heap.get? b = some o → h'.get? b = some o) → EP X pins σ Q v { s with heap := h', toks := tk } := fun {vs i v h' tk bs} rd k => by
    rw [minD_strs] at rd
    cases rd with
    | str _ t => exact ⟨.str _, H, I.kept k, ⟨t, rfl⟩, q⟩
  have hdep := depth_strs (x :: ss)
  rcases hq with hq | hq
  · obtain ⟨its, rv, pl, hz⟩ := I.list hq
    obtain ⟨as, hr⟩ := reads_strs (h := s.heap) rv
    exact PySem.W.min_list_data (I.ok.hd hc) pl.isList (by rw [List.toList_toArray]; exact hr) (alike_strs (x :: ss)) (by rw [← List.map_cons]; omega) fun i v h' tk bs _ rd k => fin (vs := its.toArray) (i := i) rd k
  · obtain ⟨its, rv, pl, hz⟩ := I.tuple hq
    obtain ⟨as, hr⟩ := reads_strs (h := s.heap) rv
    exact PySem.W.min_tuple_data (I.ok.hd hc) pl (by rw [List.toList_toArray]; exact hr) (alike_strs (x :: ss)) (by rw [← List.map_cons]; omega) fun i v h' tk bs _ rd k => fin (vs := its.toArray) (i := i) rd k
theorem cr_maxS (hc : X.calm = true) (hu : X.A.units + 64 < cLine) : CallR X (.builtin "max") (rMMS X.K maxS) := by
  intro pins s σ H xs us Q I r h
  obtain ⟨a, x, ss, rfl, hq, q⟩ := h
  obtain ⟨u, rfl, rx⟩ := vals1 r
  cases rx
  have fin : ∀ {vs : Array Value} {i : Nat} {v : Value} {h' : Heap} {tk : Nat} {bs : List Addr}, Reads h' v (PySem.W.maxD (.str x) (ss.map .str)) bs → (∀ b o, s.heap.get? b = some o → h'.get? b = some o) → EP X pins σ Q v { s with heap := h', toks := tk } := fun {vs i v h' tk bs} rd k => by
    rw [maxD_strs] at rd
    cases rd with
    | str _ t => exact ⟨.str _, H, I.kept k, ⟨t, rfl⟩, q⟩
  have hdep := depth_strs (x :: ss)
  rcases hq with hq | hq
  · obtain ⟨its, rv, pl, hz⟩ := I.list hq
    obtain ⟨as, hr⟩ := reads_strs (h := s.heap) rv
    exact PySem.W.max_list_data (I.ok.hd hc) pl.isList (by rw [List.toList_toArray]; exact hr) (alike_strs (x :: ss)) (by rw [← List.map_cons]; omega) fun i v h' tk bs _ rd k => fin (vs := its.toArray) (i := i) rd k
  · obtain ⟨its, rv, pl, hz⟩ := I.tuple hq
    obtain ⟨as, hr⟩ := reads_strs (h := s.heap) rv
    exact PySem.W.max_tuple_data (I.ok.hd hc) pl (by rw [List.toList_toArray]; exact hr) (alike_strs (x :: ss)) (by rw [← List.map_cons]; omega) fun i v h' tk bs _ rd k => fin (vs := its.toArray) (i := i) rd k
end
/-- min, max of ints (a list), of texts (a list, a tuple) -/
def mmD (fi : Int → List Int → Int) (fs : Str → List Str → Str) : D → Option D
  | .lst xs => match asInts xs with
    | some (n :: ns) => some (.int (fi n ns))
    | some [] => none
    | none => match asStrs xs with
      | some (x :: ss) => some (.str (fs x ss))
      | _ => none
  | .tup xs => match asStrs xs with
    | some (x :: ss) => some (.str (fs x ss))
    | _ => none
  | _ => none
def minA := mmD minI minS
def maxA := mmD maxI maxS
theorem fl_mmS {mg} {K : PySem.W.Frag} {fi fs} {r : List V → Hp → VK → Prop} (hi : ∀ (F H : Hp) (p : Addr) (vs : List V) (n : Int) (ns : List Int) (Q : VK), H p = some (.lst vs) → vs = (n :: ns).map V.int → Q (.int (fi n ns)) H → r [.ref p] H Q) : Flat1 mg (fun xs H Q => r xs H Q ∨ rMMS K fs xs H Q) (mmD fi fs) := fun F H x dx d Q sm vx e k => by
  unfold mmD at e
  split at e
  · split at e
    · rename_i n ns h1
      cases e
      obtain ⟨p, vs, rfl, h, q⟩ := vw_lst sm vx
      rw [asInts_eq h1] at q
      exact .inl (hi F H p vs n ns Q h q.ints (k _ fun _ => .int _))
    · cases e
    · split at e
      · rename_i x ss h1
        cases e
        obtain ⟨p, vs, rfl, h, q⟩ := vw_lst sm vx
        rw [asStrs_eq h1] at q
        exact .inr ⟨p, x, ss, rfl, .inl (by rw [← q.strs]; exact SqL.of h), k _ fun _ => .str _⟩
      · cases e
  · split at e
    · rename_i x ss h1
      cases e
      obtain ⟨p, vs, rfl, h, q⟩ := vw_tup sm vx
      rw [asStrs_eq h1] at q
      exact .inr ⟨p, x, ss, rfl, .inr (by rw [← q.strs]; exact SqT.of h), k _ fun _ => .str _⟩
    · cases e
  · cases e
def rMinA (K : PySem.W.Frag) : List V → Hp → VK → Prop := fun xs H Q => rMin K xs H Q ∨ rMMS K minS xs H Q
def rMaxA (K : PySem.W.Frag) : List V → Hp → VK → Prop := fun xs H Q => rMax K xs H Q ∨ rMMS K maxS xs H Q
theorem cr_minA {X : Cx} (hc : X.calm = true) (hu : X.A.units + 64 < cLine) : CallR X (.builtin "min") (rMinA X.K) := (cr_min hc).or (cr_minS hc hu)
theorem cr_maxA {X : Cx} (hc : X.calm = true) (hu : X.A.units + 64 < cLine) : CallR X (.builtin "max") (rMaxA X.K) := (cr_max hc).or (cr_maxS hc hu)
theorem fl_minA {mg} {K : PySem.W.Frag} : Flat1 mg (rMinA K) minA := fl_mmS fun F H p vs n ns Q h e q => ⟨p, n :: ns, rfl, by rw [← e]; exact SqL.of h, by simp, fun m hm hle => by
  have h5 := minI_le n ns
  have h6 : m = minI n ns := by
    apply Int.le_antisymm
    · rcases minI_mem n ns with e | e
      · rw [e]; exact hle _ List.mem_cons_self
      · exact hle _ (List.mem_cons_of_mem _ e)
    · rcases List.mem_cons.mp hm with e | hm
      · rw [e]; exact h5.1
      · exact h5.2 m hm
  rw [h6]; exact q⟩
theorem fl_maxA {mg} {K : PySem.W.Frag} : Flat1 mg (rMaxA K) maxA := fl_mmS fun F H p vs n ns Q h e q => ⟨p, n :: ns, rfl, by rw [← e]; exact SqL.of h, by simp, fun m hm hle => by
  have h5 := maxI_ge n ns
  have h6 : m = maxI n ns := by
    apply Int.le_antisymm
    · rcases List.mem_cons.mp hm with e | hm
      · rw [e]; exact h5.1
      · exact h5.2 m hm
    · rcases maxI_mem n ns with e | e
      · rw [e]; exact hle _ List.mem_cons_self
      · exact hle _ (List.mem_cons_of_mem _ e)
  rw [h6]; exact q⟩
/-! ### "..".join(xs) -/
def strsOf : D → Option (List Str)
  | .lst xs => asStrs xs
  | .tup xs => asStrs xs
  | _ => none
def joinD : D → D → Option D
  | .str a, d => (strsOf d).bind fun ys => if (ys.map fun y : Str => y.length).sum + ys.length * a.length ≤ 16777216 then some (.str (Txt.join a ys)) else none
  | _, _ => none
def mM1 (g : D → D → Option D) (ma mb : Mr D) : Mr D := fun env => (ma env).bind fun x => (mb x.2).bind fun y => (g x.1 y.1).map fun z => (z, y.2)
def isStrD : D → Bool
  | .str _ => true
  | _ => false
section
variable {X : Cx} {n : Nat} {o e : Expr} {apos pos cpos : Pos}
theorem se_join {ma mb : Mr D} (ho : SE X n o ma) (he : SE X n e mb) (hs : starEach [e] X.env = [(false, eval e X.env)] := by rfl) (hbase : attributeBase o "join" X.env (eval o X.env) = eval o X.env := by rfl) (hline : (apos.endLine == pos.line) = true := by rfl) :
    SE X n (.Call (.Attribute o "join" apos) [e] [] pos) (mM1 joinD ma mb) := ⟨fun a ha hn => (pe_join (ho.run a ha hn) (he.run a ha hn) hs hbase hline).w fun σ H Q ⟨env, F, d, env', r, hm, q⟩ => by
  simp only [mM1, Option.bind_eq_some_iff, Option.map_eq_some_iff] at hm
  obtain ⟨x, h1, y, h2, z, h3, h4⟩ := hm
  cases h4
  refine ⟨env, F, x.1, x.2, r, h1, fun v F1 H1 s1 r1 rv => ?_⟩
  obtain ⟨a', ex, h5, h6⟩ : ∃ a', x.1 = .str a' ∧ ∃ ys, strsOf y.1 = some ys ∧ (ys.map fun y : Str => y.length).sum + ys.length * a'.length ≤ 16777216 ∧ d = D.str (Txt.join a' ys) := by
    cases hx : x.1 with
    | str a' =>
      rw [hx] at h3
      simp only [joinD, Option.bind_eq_some_iff] at h3
      obtain ⟨ys, h5, h6⟩ := h3
      split at h6
      · cases h6; exact ⟨a', rfl, ys, h5, ‹_›, rfl⟩
      · cases h6
    | _ => rw [hx] at h3; cases h3
  obtain ⟨hys, hz, ez⟩ := h6
  rw [ex] at rv
  cases rv
  refine ⟨⟨_, rfl⟩, x.2, F1, y.1, y.2, r1, h2, fun w F2 H2 s2 r2 rw' => ?_⟩
  have fh : Same F2 H2 := by obtain ⟨_, r'⟩ := r2; exact r'.fh
  subst ez
  have fin := q (.str (Txt.join a' h5)) F2 H2 (s1.trans s2) r2 (.str _)
  cases hy : y.1 with
  | lst xs =>
    rw [hy] at rw' hys
    rw [asStrs_eq hys] at rw'
    cases rw' with
    | lst hp rp => exact ⟨a', _, h5, rfl, rfl, .inl (by rw [← rp.strs]; exact SqL.of (fh _ _ hp)), hz, fin⟩
  | tup xs =>
    rw [hy] at rw' hys
    rw [asStrs_eq hys] at rw'
    cases rw' with
    | tup hp rp => exact ⟨a', _, h5, rfl, rfl, .inr (by rw [← rp.strs]; exact SqT.of (fh _ _ hp)), hz, fin⟩
  | _ => rw [hy] at hys; cases hys⟩
end
/-! ### dict(pairs) -/
def asPairs : List D → Option (List (Key × D))
  | [] => some []
  | .tup [k, v] :: r => (asKey k).bind fun k => (asPairs r).map ((k, v) :: ·)
  | _ => none
def asPairsT : List D → Option (List (List Key × D))
  | [] => some []
  | .tup [.tup ks, v] :: r => (asKeys ks).bind fun k => (asPairsT r).map ((k, v) :: ·)
  | _ => none
def putAll {κ : Type} [DecidableEq κ] (more : List (κ × D)) : List (κ × D) := more.foldl (fun acc kv => putA acc kv.1 kv.2) []
def dictD : D → Option Sl
  | .lst xs => (asPairs xs).map fun kvs => .dic (putAll kvs)
  | _ => none
def dictTD : D → Option Sl
  | .lst xs => (asPairsT xs).map fun kvs => .dit (putAll kvs)
  | _ => none
theorem RepA.foldPut {mg : Str → Option Value} {F : Hp} {κ : Type} [DecidableEq κ] : ∀ (more : List (κ × V)) (dm : List (κ × D)) (ws : List (κ × V)) (kvs : List (κ × D)), RepA mg F more dm → RepA mg F ws kvs → RepA mg F (more.foldl (fun acc kv => putK acc kv.1 kv.2) ws) (dm.foldl (fun acc kv => putA acc kv.1 kv.2) kvs)
  | _, _, _, _, .nil, r => r
  | (k, v) :: m, (_, d) :: dm, ws, kvs, .cons a q, r => by
    show RepA mg F (m.foldl (fun acc kv => putK acc kv.1 kv.2) (putK ws k v)) (dm.foldl (fun acc kv => putA acc kv.1 kv.2) (putA kvs k d))
    exact RepA.foldPut _ _ _ _ q (r.put k a)
theorem fl_dict {mg} {K : PySem.W.Frag} : New1 mg (fun xs H Q => ∃ (a : Addr) (ps : List Addr) (kvs : List (Key × V)), xs = [.ref a] ∧ SqL K H a (ps.map V.ref) ∧ Paired (fun p kv => SqT K H p [kV kv.1, kv.2]) ps kvs ∧
    ∀ p, H p = none → Q (.ref p) (upd H p (.dK (mergeK [] kvs)))) dictD := fun F H x dx s Q sm vx e k => by
  unfold dictD at e
  split at e
  · simp only [Option.map_eq_some_iff] at e
    obtain ⟨kvs, h1, rfl⟩ := e
    obtain ⟨p, vs, rfl, h, q⟩ := vw_lst sm vx
    have go : ∀ {xs : List D} {vs : List V} {kvs : List (Key × D)}, RepL mg F vs xs → asPairs xs = some kvs → ∃ (ps : List Addr) (ws : List (Key × V)), vs = ps.map V.ref ∧ Paired (fun p kv => SqT K H p [kV kv.1, kv.2]) ps ws ∧ RepA mg F ws kvs := fun {xs} => by
      induction xs with
      | nil => intro vs kvs q e; cases q; cases e; exact ⟨[], [], rfl, .nil, .nil⟩
      | cons d xs ih =>
        intro vs kvs q e
        unfold asPairs at e
        split at e
        · rename_i h0; cases h0
        · rename_i h0
          cases h0
          simp only [Option.bind_eq_some_iff, Option.map_eq_some_iff] at e
          obtain ⟨key, e1, r', e2, rfl⟩ := e
          cases q with
          | cons a q =>
            obtain ⟨ps, ws, g1, g2, g3⟩ := ih q e2
            cases a with
            | @tup ad us _ hp ru =>
              cases ru with
              | cons a1 ru => cases ru with
                | cons a2 ru =>
                  cases ru
                  rw [asKey_rep a1 e1] at hp
                  exact ⟨ad :: ps, (key, _) :: ws, by rw [g1]; rfl, .cons (SqT.of (sm _ _ hp)) g2, .cons a2 g3⟩
        · cases e
    obtain ⟨ps, ws, g1, g2, g3⟩ := go q h1
    exact ⟨p, ps, ws, rfl, by rw [← g1]; exact SqL.of h, g2, fun l hl => k _ _ ⟨l, _, rfl, hl, rfl, RepA.foldPut _ _ _ _ g3 .nil⟩⟩
  · cases e
/-- keys that are tuples -/
def rDictT (K : PySem.W.Frag) : List V → Hp → VK → Prop := fun xs H Q => ∃ (a : Addr) (ps : List (Addr × Addr)) (kvs : List (List Key × V)), xs = [.ref a] ∧ SqL K H a (ps.map fun q => V.ref q.1) ∧
  Paired (fun (p : Addr × Addr) (kv : List Key × V) => SqT K H p.1 [.ref p.2, kv.2] ∧ H p.2 = some (.tup (kv.1.map kV))) ps kvs ∧ ∀ p, H p = none → Q (.ref p) (upd H p (.dT (kvs.foldl (fun acc kv => putK acc kv.1 kv.2) [])))
section
variable {X : Cx}
theorem KT.fold {H : Hp} : ∀ (more : List (List Key × V)) (xs : List (List Key × Addr × Value)) (ws : List (List Key × V)) (ys : List (List Key × Addr × Value)), KT H more xs → KT H ws ys → KT H (more.foldl (fun acc kv => putK acc kv.1 kv.2) ws) (PySem.storedAllH ys xs)
  | _, _, _, _, .nil, r => r
  | p :: m, (k, b, v) :: xm, ws, ys, .cons h t, r => by
    obtain ⟨e1, e2, e3⟩ := h
    have e1 : p.1 = k := e1
    subst e1
    show KT H (m.foldl (fun acc kv => putK acc kv.1 kv.2) (putK ws p.1 p.2)) (PySem.storedAllH (storedH ys p.1 b v) xm)
    exact KT.fold _ _ _ _ t (r.put p.1 e2 e3)
theorem cr_dictT (hc : X.calm = true) (hu : X.A.units + 64 < cLine) : CallR X (.type "dict") (rDictT X.K) := by
  intro pins s σ H xs us Q I r h
  obtain ⟨a, ps, kvs, rfl, hq, hp, q⟩ := h
  obtain ⟨u, rfl, rx⟩ := vals1 r
  cases rx
  obtain ⟨its, rv, pl, hz⟩ := I.list hq
  obtain ⟨o, n, ho, hcl, hd, hdat⟩ := pl
  have key : ∀ {ps : List (Addr × Addr)} {kvs : List (List Key × V)}, Paired (fun (p : Addr × Addr) (kv : List Key × V) => SqT X.K H p.1 [.ref p.2, kv.2] ∧ H p.2 = some (.tup (kv.1.map kV))) ps kvs →
      ∃ xs : List (List Key × Addr × Value), KT H kvs xs ∧ xs.length = ps.length ∧ ∀ (j : Nat) (x : List Key × Addr × Value), xs[j]? = some x → ∃ p : Addr × Addr, ps[j]? = some p ∧ PySem.Heap.IsTuple s.heap p.1 #[.ref x.2.1, x.2.2] := fun {ps kvs} hp => by
    induction hp with
    | nil => exact ⟨[], .nil, rfl, fun j x e => by simp at e⟩
    | @cons p kv _ _ h t ih =>
      obtain ⟨xs, i1, i2, i3⟩ := ih
      obtain ⟨its, r', pl, _⟩ := I.tuple h.1
      cases r' with
      | cons ra r' => cases r' with
        | cons rb r' =>
          cases r'
          cases (show _ = Value.ref p.2 from ra)
          refine ⟨(kv.1, p.2, _) :: xs, .cons ⟨rfl, h.2, rb⟩ i1, by simp [i2], fun j x e => ?_⟩
          cases j with
          | zero => cases e; exact ⟨p, rfl, pl⟩
          | succ j => exact i3 j x (by simpa using e)
  obtain ⟨zs, kt, lz, hz2⟩ := key hp
  have lp : its.length = ps.length := by rw [← rv.length]; simp
  have ei : its = ps.map fun q => Value.ref q.1 := by
    have : ps.map (fun q => V.ref q.1) = (ps.map (·.1)).map V.ref := by simp
    rw [this] at rv
    rw [refs_at rv]; simp
  have P := PySem.PairArg.list (prog := X.prog) (w := X.w) a its.toArray (fun j => (ps[j]?.getD (0, 0)).1) (zs.map fun x => (Value.ref x.2.1, x.2.2))
  refine PySem.call_dict_pairsH (knd := tupleKind (mixKind X.prog X.w)) (ps := zs) P (I.ok.hd hc) (tupleKind_room_in1 (by show X.A.units + 1 + 1 < cLine; omega)) ⟨⟨o, n, ho, hcl, hd, hdat⟩, by simp [lp, lz], fun j k v e => ?_⟩ ⟨by simp, fun i ky v e => ?_⟩ (fun h' hk x hx => ?_) (by simp [lz]; simpa using hz) fun h' tk hd' hk => ?_
  · rw [List.getElem?_map, Option.map_eq_some_iff] at e
    obtain ⟨x, e1, e2⟩ := e
    cases e2
    obtain ⟨p, e3, e4⟩ := hz2 j x e1
    refine ⟨by subst ei; simp [e3], .inl ?_⟩
    simp only [e3, Option.getD_some]
    exact e4
  · have e : (zs.map fun x => (Value.ref x.2.1, x.2.2))[i]? = some (ky, v) := e
    rw [List.getElem?_map, Option.map_eq_some_iff] at e
    obtain ⟨x, e1, e2⟩ := e
    cases e2
    exact ⟨x.1, x.2.1, e1, rfl⟩
  · have : H x.2.1 = some (.tup (x.1.map kV)) := by
      have go : ∀ {kvs : List (List Key × V)} {zs : List (List Key × Addr × Value)}, KT H kvs zs → x ∈ zs → H x.2.1 = some (.tup (x.1.map kV)) := fun {kvs zs} kt hx => by
        induction kt with
        | nil => cases hx
        | cons h t ih =>
          rcases List.mem_cons.mp hx with e | hx
          · subst e; rw [← h.1]; exact h.2.1
          · exact ih hx
      exact go kt hx
    have I' : HOk X.prog X.w H s.heap := I.hok
    obtain ⟨o1, items, m, k1, k2⟩ := (key_of I' this : IsTupleKey _ _ _ _)
    exact (⟨o1, items, m, hk _ _ (Nat.ne_of_lt (Heap.lt_size k1)) (by simp) k1, k2⟩ : IsTupleKey _ _ _ _)
  · have hm : (s.heap.objs.size == sysModules) = false := beq_eq_false_iff_ne.mpr (Nat.ne_of_gt I.big)
    have kt2 := KT.fold _ _ _ _ kt (.nil : KT H [] [])
    have hf := I.hok.fresh (Nat.le_refl s.heap.objs.size)
    refine ⟨.ref s.heap.objs.size, _, I.laid (t' := tk) (o := .dT (kvs.foldl (fun acc kv => putK acc kv.1 kv.2) [])) (fun b u e => hk b u (by simp) e) (Nat.le_refl _) ?_, rfl, q _ hf⟩
    obtain ⟨o', es, ep, g1, g2, g3, g4, g5, g6⟩ := hd'
    have len : ∀ (more ws : List (List Key × V)), (more.foldl (fun acc kv => putK acc kv.1 kv.2) ws).length ≤ ws.length + more.length := fun more => by
      induction more with
      | nil => intro ws; simp
      | cons m more ih =>
        intro ws
        have z1 := ih (putK ws m.1 m.2)
        have z2 := length_putK ws m.1 m.2
        simp only [List.foldl_cons, List.length_cons]
        omega
    have l1 := len kvs []
    have l2 : kvs.length = ps.length := (Paired.length hp).symm
    rw [List.length_map] at hz
    refine ⟨by simp at l1; omega, hm, _, kt2.keeps fun b ys eb => ?_, o', es, ep, g1, g2, g3, g4, g6⟩
    rw [upd_ne (ne_of_none eb hf)]; exact eb
end
end HU
set_option maxRecDepth 100000
namespace HU
open PySem PySem.Spec L2
theorem fl_dictT {mg} {K : PySem.W.Frag} : New1 mg (rDictT K) dictTD := fun F H x dx s Q sm vx e k => by
  unfold dictTD at e
  split at e
  · simp only [Option.map_eq_some_iff] at e
    obtain ⟨kvs, h1, rfl⟩ := e
    obtain ⟨p, vs, rfl, h, q⟩ := vw_lst sm vx
    have go : ∀ {xs : List D} {vs : List V} {kvs : List (List Key × D)}, RepL mg F vs xs → asPairsT xs = some kvs → ∃ (ps : List (Addr × Addr)) (ws : List (List Key × V)), vs = ps.map (fun q => V.ref q.1) ∧
        Paired (fun (p : Addr × Addr) (kv : List Key × V) => SqT K H p.1 [.ref p.2, kv.2] ∧ H p.2 = some (.tup (kv.1.map kV))) ps ws ∧ RepA mg F ws kvs := fun {xs} => by
      induction xs with
      | nil => intro vs kvs q e; cases q; cases e; exact ⟨[], [], rfl, .nil, .nil⟩
      | cons d xs ih =>
        intro vs kvs q e
        unfold asPairsT at e
        split at e
        · rename_i h0; cases h0
        · rename_i h0
          cases h0
          simp only [Option.bind_eq_some_iff, Option.map_eq_some_iff] at e
          obtain ⟨key, e1, r', e2, rfl⟩ := e
          cases q with
          | cons a q =>
            obtain ⟨ps, ws, g1, g2, g3⟩ := ih q e2
            cases a with
            | @tup ad us _ hp ru =>
              cases ru with
              | cons a1 ru => cases ru with
                | cons a2 ru =>
                  cases ru
                  cases a1 with
                  | @tup bd us2 _ hp2 ru2 =>
                    rw [asKeys_rep ru2 e1] at hp2
                    exact ⟨(ad, bd) :: ps, (key, _) :: ws, by rw [g1]; rfl, .cons ⟨SqT.of (sm _ _ hp), sm _ _ hp2⟩ g2, .cons a2 g3⟩
        · cases e
    obtain ⟨ps, ws, g1, g2, g3⟩ := go q h1
    exact ⟨p, ps, ws, rfl, by rw [← g1]; exact SqL.of h, g2, fun l hl => k _ _ ⟨l, _, rfl, hl, rfl, RepA.foldPut _ _ _ _ g3 .nil⟩⟩
  · cases e
/-! ### a made thing by a test -/
def mIfF (mc : Mr Bool) (mt mu : Mr Sl) : Mr Sl := fun env => (mc env).bind fun r => if r.1 = true then mt r.2 else mu r.2
section
variable {X : Cx} {n : Nat} {e e2 c : Expr} {pos apos cpos p : Pos}
theorem sf_if {mc : Mr Bool} {mt mu : Mr Sl} (hc : ST X n c mc) (ht : SF X n e mt) (hu : SF X n e2 mu) : SF X n (.IfExp c e e2 pos) (mIfF mc mt mu) := ⟨fun a ha hn => (pe_ifExp (hc.run a ha hn) (ht.run a ha hn) (hu.run a ha hn)).w fun σ H Q ⟨env, F, s, env', r, hm, q⟩ => by
  simp only [mIfF, Option.bind_eq_some_iff] at hm
  obtain ⟨b, h1, h2⟩ := hm
  refine ⟨env, F, b.1, b.2, r, h1, fun F1 H1 s1 r1 => ?_⟩
  cases hb : b.1 with
  | true =>
    rw [hb] at h2
    simp only [if_true] at h2 ⊢
    exact ⟨b.2, F1, s, env', r1, h2, fun v F2 H2 s2 n2 r2 => q v F2 H2 (s1.trans s2) n2 r2⟩
  | false =>
    rw [hb] at h2
    simp only [Bool.false_eq_true, if_false] at h2 ⊢
    exact ⟨b.2, F1, s, env', r1, h2, fun v F2 H2 s2 n2 r2 => q v F2 H2 (s1.trans s2) n2 r2⟩⟩
/-! ### d.get(k), d.get(k, x) -/
def getD' : D → D → Option (Option D)
  | .dic kvs, k => (asKey k).map fun k => getA kvs k
  | .dit kvs, .tup ks => (asKeys ks).map fun k => getA kvs k
  | _, _ => none
end
/-! ### dict comprehensions -/
def dcL (b : Bd) (vs : List Nat) (tt : Mr Bool) (mk mv : Mr D) : List D → List (Key × D) → Mr (List (Key × D))
  | [], acc => mRet acc
  | d :: ds, acc => fun env => (b d env).bind fun e1 => (tt e1).bind fun t => if t.1 = true then (mk t.2).bind fun y => (mv y.2).bind fun z => (asKey y.1).bind fun k => if acc.length < sizeLine then dcL b vs tt mk mv ds (putA acc k z.1) (wipeE z.2 vs) else none else dcL b vs tt mk mv ds acc (wipeE t.2 vs)
def mDc (mi : Mr (List D)) (b : Bd) (vs : List Nat) (tt : Mr Bool) (mk mv : Mr D) : Mr Sl := fun env => (mi env).bind fun r => (dcL b vs tt mk mv r.1 [] (wipeE r.2 vs)).map fun q => (.dic q.1, restore vs r.2 q.2)
section
variable {X : Cx} {n : Nat} {pos : Pos}
theorem sf_dc {kx vx tg iter : Expr} {ifs : List Expr} {scope : Scope} {own : List (Str × Nat)} {mi : Mr (List D)} {b : Bd} {ts : List Nat} {tt : Mr Bool} {mk mv : Mr D} (hc : X.calm = true) (hN : X.N.Nodup) (hi : SI X n tg iter mi) (ok : blkC X.N X.env.scope scope own = true)
    (hts : ∀ t ∈ ts, t ∈ own.map (·.2))
    (hg : ∀ (s : Shared) (H : Hp) (C : Addr) (cl : List (Str × Addr)) (fp : List Addr), SG (X.blk s H scope (compEnvC scope cl C X.env) fp) n tg b ts) (ht : ∀ (s : Shared) (H : Hp) (C : Addr) (cl : List (Str × Addr)) (fp : List Addr), STs (X.blk s H scope (compEnvC scope cl C X.env) fp) n ifs tt)
    (hk : ∀ (s : Shared) (H : Hp) (C : Addr) (cl : List (Str × Addr)) (fp : List Addr), SE (X.blk s H scope (compEnvC scope cl C X.env) fp) n kx mk)
    (he : ∀ (s : Shared) (H : Hp) (C : Addr) (cl : List (Str × Addr)) (fp : List Addr), SE (X.blk s H scope (compEnvC scope cl C X.env) fp) n vx mv) (hs : ∀ x, foldedSetIterable iter X.env x = pure x := by intro _; rfl) :
    SF X n (.DictComp kx vx [⟨tg, iter, ifs, 0⟩] scope pos) (mDc mi b (own.map (·.2)) tt mk mv) := ⟨fun a ha hn => by
  have hi' := hi.run a ha hn
  have P := pe_dc (tk := anyE X.mg n mk) (tv := anyE X.mg n mv) (g := anyG X.mg n b ts) (tt := anyT X.mg n tt) hc hN hi' (blkOk_by ok) (fun s H C cl fp => (hg s H C cl fp).any) (fun s H C cl fp => (ht s H C cl fp).any) (fun s H C cl fp => (hk s H C cl fp).any) (fun s H C cl fp => (he s H C cl fp).any) hs (pos := pos)
  refine P.w fun σ H Q ⟨env, F, rr, env', r, hm, q⟩ => ?_
  unfold mDc at hm
  cases h1 : mi env with
  | none => rw [h1] at hm; cases hm
  | some z =>
    obtain ⟨ds, env1⟩ := z
    rw [h1] at hm
    simp only [Option.bind_some] at hm
    cases h2 : dcL b (own.map (·.2)) tt mk mv ds [] (wipeE env1 (own.map (·.2))) with
    | none => rw [h2] at hm; cases hm
    | some z =>
      obtain ⟨all, env2⟩ := z
      rw [h2] at hm
      cases hm
      refine ⟨env, F, ds, env1, r, h1, fun J F1 H1 s1 r1 w D hD => ?_⟩
      -- the turns: the pairs so far at D, the rest still to come
      refine ⟨fun i m H => m = ds.length - i ∧ i ≤ ds.length ∧ ∃ env F acc vs, RX (a.at D (.dK vs)) env (L2.wipe σ (own.map (·.2))) F H ∧ Same F1 F ∧ RepA a.mg F vs acc ∧
          dcL b (own.map (·.2)) tt mk mv (ds.drop i) acc env = some (all, env2), ⟨ds.length, by simp, Nat.zero_le _, ?_⟩, ?_⟩
      · obtain ⟨ow, r2⟩ := r1.wipe (own.map (·.2))
        exact ⟨_, F1, [], [], ⟨ow, r2.bar0 hD (fun _ z => nomatch z)⟩, Same.refl F1, .nil, h2⟩
      · rintro i m H ⟨rfl, hi, env3, F3, acc, vs, r3, s3, rp, h3⟩
        have sH : Same F1 H := by obtain ⟨_, r⟩ := r3; exact s3.trans r.fh
        have hbD : a.bar D = none := by
          cases e : a.bar D with
          | none => rfl
          | some o => obtain ⟨_, r1⟩ := r1; have := r1.bh D o e; rw [hD] at this; cases this
        by_cases hlt : i < ds.length
        · refine .inr ⟨w.goes i H hlt sH, fun H => ∃ env F acc vs, RX (a.at D (.dK vs)) env (L2.wipe σ (own.map (·.2))) F H ∧ Same F1 F ∧ RepA a.mg F vs acc ∧
            dcL b (own.map (·.2)) tt mk mv (ds.drop (i + 1)) acc env = some (all, env2), fun H' q' => ⟨ds.length - (i + 1), by omega, rfl, hlt, q'⟩, fun x H' y => ?_⟩
          obtain ⟨F4, s4, r4, rx⟩ := r3.yield s3 (w.yields i H x H' ds[i] (by simp [hlt]) sH y)
          rw [List.drop_eq_getElem_cons hlt] at h3
          unfold dcL at h3
          simp only [Option.bind_eq_some_iff] at h3
          obtain ⟨e1, h5, ⟨t, e2⟩, h6, h3⟩ := h3
          refine ⟨a.at D (.dK vs), ha, hn, env3, F4, ds[i], e1, r4, rx, h5, fun σ2 r5 w5' => ?_⟩
          have w5 : L2.wipe σ2 (own.map (·.2)) = L2.wipe σ (own.map (·.2)) := (w5' _ hts).trans (wipe_wipe σ _)
          refine ⟨w5, ?_⟩
          refine ⟨a.at D (.dK vs), ha, hn, e1, F4, t, e2, r5, h6, fun F6 H6 s6 r6 => ?_⟩
          cases t with
          | false =>
            simp only [Bool.false_eq_true, if_false] at h3 ⊢
            have r7 := r6.wipe (own.map (·.2))
            rw [w5] at r7
            exact ⟨_, F6, acc, vs, r7, (s3.trans s4).trans s6, rp.mono (s4.trans s6), h3⟩
          | true =>
            simp only [if_true, Option.bind_eq_some_iff] at h3 ⊢
            obtain ⟨⟨y, e3⟩, h7, ⟨z, e4⟩, h8, k, h9, h10⟩ := h3
            split at h10
            · rename_i hz
              refine ⟨a.at D (.dK vs), ha, hn, e2, F6, y, e3, r6, h7, fun v F7 H7 s7 r7 ry => ?_⟩
              refine ⟨a.at D (.dK vs), ha, hn, e3, F7, z, e4, r7, h8, fun v2 F8 H8 s8 r8 rz => ?_⟩
              obtain ⟨ow8, r8⟩ := r8
              have hbD8 : H8 D = some (.dK vs) := r8.bh D _ upd_same
              refine ⟨vs, k, asKey_rep ry h9, hbD8, by rw [rp.length]; exact hz, ?_⟩
              have r9 := RX.wipe (⟨ow8, r8⟩ : RX (a.at D (.dK vs)) e4 σ2 F8 H8) (own.map (·.2))
              rw [w5] at r9
              obtain ⟨ow9, r9⟩ := r9
              have sA : Same F3 F8 := ((s4.trans s6).trans s7).trans s8
              exact ⟨_, F8, putA acc k z, putK vs k v2, ⟨ow9, r9.barNext (fun _ z => nomatch z)⟩, s3.trans sA, (rp.mono sA).put k rz, h10⟩
            · cases h10
        · have e : i = ds.length := by omega
          subst e
          refine .inl ⟨w.stops H sH, ?_⟩
          rw [List.drop_length] at h3
          have h3 : some (acc, env3) = some (all, env2) := h3
          cases h3
          obtain ⟨ow5, r5⟩ := RX.restore (a := a.at D (.dK vs)) (a0 := a) rfl r1 s3 _ _ r3
          obtain ⟨r4, hD4, f1, f2, f3⟩ := r5.barEnd hbD
          have hD0 : a.H0 D = none := by obtain ⟨_, r1⟩ := r1; exact r1.dm D hD
          refine q _ F3 H (s1.trans s3) r4.nl (r4.snoc (s := .dic all) (ps := [D]) ⟨D, vs, rfl, rfl, hD4, rp⟩ (by simp) (fun p hp => ?_) (fun p hp j hj => ?_) fun p hp => ?_)
          · rw [List.mem_singleton.mp hp]; exact ⟨f1, f2, hD0⟩
          · rw [List.mem_singleton.mp hp] at hj; exact f3 j hj
          · rw [List.mem_singleton.mp hp]; exact hbD⟩
end
/-! ### list(d.items()), of a dict that stands, too -/
def rItemsA : V → Hp → VK → Prop := fun x H Q => ∃ (d : Addr) (kvs : List (Key × V)), x = .ref d ∧ Rd H d (.dK kvs) ∧
  ∀ (H' : Hp) (p : Addr) (ts : List Addr), (∀ b o, H b = some o → H' b = some o) → H p = none → (∀ t ∈ ts, H t = none) → p ∉ ts → H' p = some (.lst (ts.map V.ref)) → Paired (fun (t : Addr) (q : Key × V) => H' t = some (.tup [kV q.1, q.2])) ts kvs → Q (.ref p) H'
section
variable {X : Cx} {n : Nat} {e : Expr} {te : TE} {p apos cpos pos : Pos}
theorem pe_itemsA (hc : X.calm = true) (he : PE X e te) (hg : Gl X "list") (hm : X.mg "list" = none) (hv : bootBuiltins "list" = some (.type "list"))
    (hb : attributeBase e "items" X.env (eval e X.env) = eval e X.env := by rfl) (hl : (apos.endLine == cpos.line) = true := by rfl)
    (hs : starEach [.Call (.Attribute e "items" apos) [] [] cpos] X.env = (false, eval (.Call (.Attribute e "items" apos) [] [] cpos) X.env) :: starEach [] X.env := by rfl) :
    PE X (.Call (.Name "list" p) [.Call (.Attribute e "items" apos) [] [] cpos] [] pos) (fun σ H Q => te σ H fun x H1 => rItemsA x H1 Q) := ⟨fun pins s σ H Q I hq => by
  have inner : wpAny (model X.prog X.w) X.A (spliced (backTo pos (starEach [.Call (.Attribute e "items" apos) [] [] cpos] X.env))) (fun vs s2 => wpAny (model X.prog X.w) X.A (call (.type "list") vs) (EP X pins σ Q) X.xe s2) X.xe s := by
    rw [hs]
    show wpAny _ _ (spliced ((false, eval (.Call (.Attribute e "items" apos) [] [] cpos) X.env) :: backTo pos (starEach [] X.env))) _ _ s
    refine Calls.spliced_cons (wpAny_Call_method (T := "dict") (id := "dict.items") hb rfl hl PySem.F.plainAttrs_dict PySem.F.slot_dict_items PySem.F.type_dict_items (thn (he.run pins s σ H _ I hq) fun u s1 ⟨x, H1, I1, rx, d, kvs, ex, hd, q⟩ => ?_))
    subst ex
    cases (show u = Value.ref d from rx)
    obtain ⟨hz, hs0, vs, kv, dd⟩ := dk_rd I1.hok hd
    obtain ⟨ep, hat⟩ := dd.dictAt
    have I2 : Inv X pins σ H1 { s1 with heap := s1.heap.push { cls := .type "dict_items", data := .fields #[.ref d] } } := I1.kept (t' := s1.toks) fun b ob q => Heap.get?_push_of_some _ q
    refine ⟨dd.typeIs, dd.mapOf.noDict, ?_⟩
    show wpAny _ _ (callWith cpos (.builtin "dict.items") [.ref d] [] []) _ X.xe s1
    refine method_meetsIn PySem.F.slot_dict_items PySem.F.entry_dict_items rfl (PySem.evalArgs_none ⟨rfl, dd.typeIs, PySem.F.args_dict_items_1 _, _, meets_dict_items (mixKind X.prog X.w) d hs0, ⟨vs, dd⟩, Calls.spliced_nil ?_⟩)
    refine PySem.W.kdx_call (knd := mixKind X.prog X.w) (kvs := vs) (ep := ep) (I1.ok.hd hc) ⟨_, Heap.get?_push_size _ rfl, rfl, rfl⟩ (hat.push _) (by rw [← Paired.length kv]; exact hz) fun h' tk acc c as hk hS hl hG hacc => ?_
    obtain ⟨H', k1, k2, k3, k4, k5, k6, J⟩ := LiI.items_laid (tk := tk) I2 hz kv hk hS hl hG hacc
    exact ⟨.ref _, H', J, rfl, q H' _ as k1 k2 k3 k4 k5 k6⟩
  exact wpAny_Call_Name_kw (ld_blt I hg hm hv (PyProof.Rows.callWith_type1 inner hs rfl))⟩
def itemsLD : D → Option Sl
  | .dic kvs => some (.lst (kvs.map fun kv => .tup [kD kv.1, kv.2]))
  | _ => none
theorem sf_items {τ : Type} {pa : Mr τ} {qa : τ → List Sl → Option D} (hc : X.calm = true) (he : SV X n e pa qa) (hm : X.mg "list" = none) (hg : Gl X "list" := by rfl) (hv : bootBuiltins "list" = some (.type "list") := by decide +kernel)
    (hb : attributeBase e "items" X.env (eval e X.env) = eval e X.env := by rfl) (hl : (apos.endLine == cpos.line) = true := by rfl)
    (hs : starEach [.Call (.Attribute e "items" apos) [] [] cpos] X.env = (false, eval (.Call (.Attribute e "items" apos) [] [] cpos) X.env) :: starEach [] X.env := by rfl) :
    SF X n (.Call (.Name "list" p) [.Call (.Attribute e "items" apos) [] [] cpos] [] pos) (mOp1 itemsLD pa qa) := ⟨fun a ha hn => (pe_itemsA hc (he.run a ha hn) hg hm hv hb hl hs).w fun σ H Q ⟨env, F, d, env', r, hm, q⟩ => by
  obtain ⟨t, dx, h1, h2, h3⟩ := mOp1_some hm
  refine ⟨env, F, t, _, r, h1, fun v F' H' s' r' vw => ?_⟩
  have fh : Same F' H' := by obtain ⟨_, r'⟩ := r'; exact r'.fh
  have vx := vw _ F' H' dx (Same.refl F') r' h2
  unfold itemsLD at h3
  split at h3
  · rename_i kvs
    cases h3
    obtain ⟨p, ws, rfl, hp, ra⟩ := vw_dic fh vx
    refine ⟨p, ws, rfl, hp, fun H2 l ts k1 k2 k3 k4 k5 k6 => ?_⟩
    obtain ⟨ow, r'⟩ := r'
    obtain ⟨f1, f2, f3, f4⟩ := r'.fresh k2
    have g := r'.grow (H' := H2) k1
    have hbar : a.bar l = none := by
      cases e : a.bar l with
      | none => rfl
      | some o => have := r'.bh l o e; rw [k2] at this; cases this
    have gT := g.allT
    have sT : Same F' (withT F' H2) := withT_same F' H2
    have f1T : withT F' H2 l = none := by
      cases e : withT F' H2 l with
      | none => rfl
      | some o =>
        rcases withT_some e with h | ⟨_, h, vs, h2⟩
        · rw [f1] at h; cases h
        · rw [k5] at h; cases h; cases h2
    have go : ∀ {ws : List (Key × V)} {kvs : List (Key × D)} {ts : List Addr}, RepA a.mg F' ws kvs → Paired (fun (t : Addr) (q : Key × V) => H2 t = some (.tup [kV q.1, q.2])) ts ws → RepL a.mg (withT F' H2) (ts.map V.ref) (kvs.map fun kv => .tup [kD kv.1, kv.2]) := fun {ws} => by
      induction ws with
      | nil => intro kvs ts q hb; cases q; cases hb; exact .nil
      | cons w ws ih =>
        intro kvs ts q hb
        cases q with
        | cons a q => cases hb with
          | cons hb hbs => exact .cons (.tup (withT_tup (r'.fh.trans k1) hb) (.cons (kD_rep _) (.cons (a.mono sT) .nil))) (ih q hbs)
    exact q _ _ H2 (s'.trans sT) gT.nl (R.snoc gT (ps := [l]) ⟨l, _, rfl, rfl, k5, go ra k6⟩ (by simp) (fun x hx => by rw [List.mem_singleton.mp hx]; exact ⟨f1T, f2, f3⟩) (fun x hx j hj => by rw [List.mem_singleton.mp hx] at hj; exact f4 j hj) (fun x hx => by rw [List.mem_singleton.mp hx]; exact hbar))
  · cases h3⟩
end
end HU
set_option maxRecDepth 100000
namespace HU
open PySem PySem.Spec L2
/-! ### several objects under way -/
def Ax.atF (a : Ax) (B : Hp) : Ax := { a with bar := fun x => match B x with | some o => some o | none => a.bar x }
theorem atF_some {a : Ax} {B : Hp} {x : Addr} {o : HO} (h : (a.atF B).bar x = some o) : B x = some o ∨ (B x = none ∧ a.bar x = some o) := by
  have h : (match B x with | some o => some o | none => a.bar x) = some o := h
  cases e : B x with
  | none => rw [e] at h; exact .inr ⟨rfl, h⟩
  | some o' => rw [e] at h; exact .inl h
theorem atF_in {a : Ax} {B : Hp} {x : Addr} {o : HO} (h : B x = some o) : (a.atF B).bar x = some o := by
  show (match B x with | some o => some o | none => a.bar x) = some o
  rw [h]
section
variable {a : Ax} {env : List Sl} {σ : L2.St} {F H : Hp} {ow : Nat → List Addr} {B : Hp} {x : Addr} {u u' : HO}
theorem R.barF0 (r : R a env σ F H ow) : R (a.atF fun _ => none) env σ F H ow := r
theorem R.barFNew (r : R (a.atF B) env σ F H ow) (hx : H x = none) (nt : ∀ ys, u ≠ .tup ys) : R (a.atF (upd B x u)) env σ F (upd H x u) ow := by
  obtain ⟨f1, f2, f3, f4⟩ := r.fresh hx
  have g := r.grow (H' := upd H x u) (Same.upd hx)
  refine ⟨g.ln, g.nl, g.fh, g.gh, g.ff, g.nw, g.dm, g.sl, g.oz, g.oi, g.on, g.of, fun y o e => ?_, fun y o e => ?_, fun i p hp => ?_, g.pr⟩
  · rcases atF_some e with e | ⟨e1, e⟩
    · by_cases z : y = x
      · subst z; rw [upd_same] at e ⊢; exact e
      · rw [upd_ne z] at e ⊢; exact r.bh y o (atF_in e)
    · by_cases z : y = x
      · subst z; rw [upd_same] at e1; cases e1
      · rw [upd_ne z] at e1 ⊢
        refine r.bh y o ?_
        show (match B y with | some o => some o | none => a.bar y) = some o
        rw [e1]; exact e
  · rcases atF_some e with e | ⟨e1, e⟩
    · by_cases z : y = x
      · subst z; rw [upd_same] at e; cases e; exact ⟨f1, f2, nt⟩
      · rw [upd_ne z] at e; exact r.bf y o (atF_in e)
    · by_cases z : y = x
      · subst z; rw [upd_same] at e1; cases e1
      · rw [upd_ne z] at e1
        refine r.bf y o ?_
        show (match B y with | some o => some o | none => a.bar y) = some o
        rw [e1]; exact e
  · have z : p ≠ x := by rintro rfl; exact f4 i hp
    have h1 := r.ob i p hp
    show (match upd B x u p with | some o => some o | none => a.bar p) = none
    rw [upd_ne z]; exact h1
theorem R.barFSet (r : R (a.atF B) env σ F H ow) (hx : B x = some u) (nt : ∀ ys, u' ≠ .tup ys) : R (a.atF (upd B x u')) env σ F (upd H x u') ow := by
  obtain ⟨f1, f2, f3⟩ := r.bf x u (atF_in hx)
  have nD : ∀ i p, p ∈ ow i → p ≠ x := fun i p hp z => by subst z; have := r.ob i p hp; rw [atF_in hx] at this; cases this
  have cg : ∀ {y o}, (a.atF (upd B x u')).bar y = some o → y ≠ x → (a.atF B).bar y = some o := fun {y o} e z => by
    have e : (match upd B x u' y with | some o => some o | none => a.bar y) = some o := e
    rw [upd_ne z] at e; exact e
  refine ⟨r.ln, r.nl, fun y o e => ?_, fun y o e => ?_, r.ff, r.nw, fun y e => ?_, fun i s e => ?_, r.oz, r.oi, r.on, fun i p hp => r.of i p hp, fun y o e => ?_, fun y o e => ?_, fun i p hp => ?_, r.pr⟩
  · have z : y ≠ x := by rintro rfl; rw [f1] at e; cases e
    rw [upd_ne z]; exact r.fh y o e
  · have z : y ≠ x := by rintro rfl; have e : a.G y = some o := e; have f2 : a.G y = none := f2; rw [f2] at e; cases e
    rw [upd_ne z]; exact r.gh y o e
  · have z : y ≠ x := by rintro rfl; rw [upd_same] at e; cases e
    rw [upd_ne z] at e; exact r.dm y e
  · exact (r.sl i s e).mono (Same.refl F) (Same.refl _) fun p hp => upd_ne (nD i p hp)
  · by_cases z : y = x
    · subst z
      rcases atF_some e with e | ⟨e1, e⟩
      · rw [upd_same] at e ⊢; exact e
      · rw [upd_same] at e1; cases e1
    · rw [upd_ne z]; exact r.bh y o (cg e z)
  · by_cases z : y = x
    · subst z
      rcases atF_some e with e | ⟨e1, e⟩
      · rw [upd_same] at e; cases e; exact ⟨f1, f2, nt⟩
      · rw [upd_same] at e1; cases e1
    · exact r.bf y o (cg e z)
  · show (match upd B x u' p with | some o => some o | none => a.bar p) = none
    rw [upd_ne (nD i p hp)]; exact r.ob i p hp
theorem R.barFEnd (r : R (a.atF B) env σ F H ow) (hb : ∀ x o, B x = some o → a.bar x = none) : R a env σ F H ow ∧ ∀ x o, B x = some o → H x = some o ∧ F x = none ∧ a.G x = none ∧ ∀ i, x ∉ ow i := by
  have out : ∀ {y o}, a.bar y = some o → (a.atF B).bar y = some o := fun {y o} e => by
    show (match B y with | some o => some o | none => a.bar y) = some o
    cases q : B y with
    | none => exact e
    | some o' => rw [hb y o' q] at e; cases e
  refine ⟨⟨r.ln, r.nl, r.fh, r.gh, r.ff, r.nw, r.dm, r.sl, r.oz, r.oi, r.on, r.of, fun y o e => r.bh y o (out e), fun y o e => r.bf y o (out e), fun i p hp => ?_, r.pr⟩, fun y o e => ?_⟩
  · cases q : a.bar p with
    | none => rfl
    | some o => have := r.ob i p hp; rw [out q] at this; cases this
  · obtain ⟨f1, f2, _⟩ := r.bf y o (atF_in e)
    exact ⟨r.bh y o (atF_in e), f1, f2, fun i hi => by have := r.ob i y hi; rw [atF_in e] at this; cases this⟩
end
/-! ### {k: [] for ..}: a dict of lists that may be changed -/
def dolL (b : Bd) (vs : List Nat) (mk : Mr D) : List D → List Key → Mr (List Key)
  | [], acc => mRet acc
  | d :: ds, acc => fun env => (b d env).bind fun e1 => (mk e1).bind fun y => (asKey y.1).bind fun k => if acc.length < sizeLine ∧ (acc.any fun x => decide (x = k)) = false then dolL b vs mk ds (acc ++ [k]) (wipeE y.2 vs) else none
def mDol (mi : Mr (List D)) (b : Bd) (vs : List Nat) (mk : Mr D) : Mr Sl := fun env => (mi env).bind fun r => (dolL b vs mk r.1 [] (wipeE r.2 vs)).map fun q => (.stm (.dol (q.1.map fun k => (k, []))), restore vs r.2 q.2)
section
variable {X : Cx} {n : Nat} {pos : Pos}
theorem putK_new {ws : List (Key × V)} {k : Key} {v : V} (h : k ∉ ws.map (·.1)) : putK ws k v = ws ++ [(k, v)] := by
  unfold putK
  rw [if_neg]
  rw [List.any_eq_true]
  rintro ⟨p, hp, e⟩
  exact h (List.mem_map.mpr ⟨p, hp, of_decide_eq_true e⟩)
theorem dol_empty {mg : Str → Option Value} {F H : Hp} : ∀ {ks : List Key} {as : List Addr}, ks.length = as.length → (∀ x ∈ as, H x = some (.lst [])) → DolR mg F H (ks.map fun k => (k, [])) (ks.zip (as.map V.ref)) as
  | [], [], _, _ => .nil
  | k :: ks, a :: as, hl, h => .cons (h a (by simp)) .nil (dol_empty (by simpa using hl) fun x hx => h x (by simp [hx]))
  | [], _ :: _, hl, _ => by cases hl
  | _ :: _, [], hl, _ => by cases hl
theorem sf_dol {kx tg iter : Expr} {lp : Pos} {scope : Scope} {own : List (Str × Nat)} {mi : Mr (List D)} {b : Bd} {ts : List Nat} {mk : Mr D} (hc : X.calm = true) (hN : X.N.Nodup) (hi : SI X n tg iter mi) (ok : blkC X.N X.env.scope scope own = true)
    (hts : ∀ t ∈ ts, t ∈ own.map (·.2))
    (hg : ∀ (s : Shared) (H : Hp) (C : Addr) (cl : List (Str × Addr)) (fp : List Addr), SG (X.blk s H scope (compEnvC scope cl C X.env) fp) n tg b ts)
    (hk : ∀ (s : Shared) (H : Hp) (C : Addr) (cl : List (Str × Addr)) (fp : List Addr), SE (X.blk s H scope (compEnvC scope cl C X.env) fp) n kx mk) (hs : ∀ x, foldedSetIterable iter X.env x = pure x := by intro _; rfl) :
    SF X n (.DictComp kx (.List [] lp) [⟨tg, iter, [], 0⟩] scope pos) (mDol mi b (own.map (·.2)) mk) := ⟨fun a ha hn => by
  have hi' := hi.run a ha hn
  have P := pe_dc (vx := .List [] lp) (tk := anyE X.mg n mk) (tv := tLst tNil) (g := anyG X.mg n b ts) (tt := tYes) hc hN hi' (blkOk_by ok) (fun s H C cl fp => (hg s H C cl fp).any) (fun s H C cl fp => pts_nil) (fun s H C cl fp => (hk s H C cl fp).any) (fun s H C cl fp => pe_lst pa_nil) hs (pos := pos)
  refine P.w fun σ H Q ⟨env, F, rr, env', r, hm, q⟩ => ?_
  unfold mDol at hm
  cases h1 : mi env with
  | none => rw [h1] at hm; cases hm
  | some z =>
    obtain ⟨ds, env1⟩ := z
    rw [h1] at hm
    simp only [Option.bind_some] at hm
    cases h2 : dolL b (own.map (·.2)) mk ds [] (wipeE env1 (own.map (·.2))) with
    | none => rw [h2] at hm; cases hm
    | some z =>
      obtain ⟨all, env2⟩ := z
      rw [h2] at hm
      cases hm
      refine ⟨env, F, ds, env1, r, h1, fun J F1 H1 s1 r1 w D hD => ?_⟩
      have new0 : ∀ {F H : Hp} {env : List Sl} {σ : L2.St} {B : Hp} {x : Addr}, RX (a.atF B) env σ F H → H x = none → a.H0 x = none ∧ a.bar x = none ∧ B x = none := fun {F H env σ B x} r hx => by
        obtain ⟨_, r⟩ := r
        have hb : (a.atF B).bar x = none := by
          cases e : (a.atF B).bar x with
          | none => rfl
          | some o => have := r.bh x o e; rw [hx] at this; cases this
        refine ⟨r.dm x hx, ?_, ?_⟩
        · cases e : B x with
          | none => have hb : (match B x with | some o => some o | none => a.bar x) = none := hb; rw [e] at hb; exact hb
          | some o => rw [atF_in e] at hb; cases hb
        · cases e : B x with
          | none => rfl
          | some o => rw [atF_in e] at hb; cases hb
      -- the keys so far, their lists; all this is barred
      refine ⟨fun i m H => m = ds.length - i ∧ i ≤ ds.length ∧ ∃ env F acc as B, RX (a.atF B) env (L2.wipe σ (own.map (·.2))) F H ∧ Same F1 F ∧ B D = some (.dK (acc.zip (as.map V.ref))) ∧ (∀ x ∈ as, B x = some (.lst [])) ∧ (D :: as).Nodup ∧ acc.length = as.length ∧
          (∀ x o, B x = some o → a.H0 x = none ∧ a.bar x = none) ∧ dolL b (own.map (·.2)) mk (ds.drop i) acc env = some (all, env2), ⟨ds.length, by simp, Nat.zero_le _, ?_⟩, ?_⟩
      · have n0 := new0 (B := fun _ => none) (show RX (a.atF fun _ => none) _ _ _ _ from r1) hD
        obtain ⟨ow, r2⟩ := r1.wipe (own.map (·.2))
        refine ⟨_, F1, [], [], upd (fun _ => none) D (.dK []), ⟨ow, (r2.barF0).barFNew hD (fun _ z => nomatch z)⟩, Same.refl F1, by rw [upd_same] <;> rfl, (fun _ h => nomatch h), by simp, rfl, fun x o e => ?_, h2⟩
        by_cases z : x = D
        · rw [z]; exact ⟨n0.1, n0.2.1⟩
        · rw [upd_ne z] at e; cases e
      · rintro i m H ⟨rfl, hi, env3, F3, acc, as, B, r3, s3, hBD, hBa, hnd, hl, hB0, h3⟩
        have sH : Same F1 H := by obtain ⟨_, r⟩ := r3; exact s3.trans r.fh
        by_cases hlt : i < ds.length
        · refine .inr ⟨w.goes i H hlt sH, fun H => ∃ env F acc as B, RX (a.atF B) env (L2.wipe σ (own.map (·.2))) F H ∧ Same F1 F ∧ B D = some (.dK (acc.zip (as.map V.ref))) ∧ (∀ x ∈ as, B x = some (.lst [])) ∧ (D :: as).Nodup ∧ acc.length = as.length ∧
            (∀ x o, B x = some o → a.H0 x = none ∧ a.bar x = none) ∧ dolL b (own.map (·.2)) mk (ds.drop (i + 1)) acc env = some (all, env2), fun H' q1 => ⟨ds.length - (i + 1), by omega, rfl, hlt, q1⟩, fun x H' y => ?_⟩
          obtain ⟨F4, s4, r4, rx⟩ := r3.yield s3 (w.yields i H x H' ds[i] (by simp [hlt]) sH y)
          rw [List.drop_eq_getElem_cons hlt] at h3
          unfold dolL at h3
          simp only [Option.bind_eq_some_iff] at h3
          obtain ⟨e1, h5, ⟨y, e3⟩, h7, k, h9, h10⟩ := h3
          split at h10
          · rename_i hz
            refine ⟨a.atF B, ha, hn, env3, F4, ds[i], e1, r4, rx, h5, fun σ2 r5 w5' => ?_⟩
            have w5 : L2.wipe σ2 (own.map (·.2)) = L2.wipe σ (own.map (·.2)) := (w5' _ hts).trans (wipe_wipe σ _)
            refine ⟨w5, ?_⟩
            unfold tYes
            simp only [if_true]
            refine ⟨a.atF B, ha, hn, e1, F4, y, e3, r5, h7, fun v F7 H7 s7 r7 ry => ⟨Nat.zero_le _, fun x hx => ?_⟩⟩
            obtain ⟨n1, n2, n3⟩ := new0 r7 hx
            obtain ⟨ow7, r7⟩ := r7
            have eD : H7 D = some (.dK (acc.zip (as.map V.ref))) := r7.bh D _ (atF_in hBD)
            have xD : x ≠ D := by rintro rfl; rw [hx] at eD; cases eD
            have xa : x ∉ as := fun hm => by have := r7.bh x _ (atF_in (hBa x hm)); rw [hx] at this; cases this
            have kz : ∀ {acc : List Key} {as : List Addr}, acc.length = as.length → (acc.zip (as.map V.ref)).map (·.1) = acc := fun {acc as} h => List.map_fst_zip (by simp [h])
            refine ⟨acc.zip (as.map V.ref), k, asKey_rep ry h9, by rw [upd_ne (Ne.symm xD)]; exact eD, by rw [List.length_zip, List.length_map, ← hl, Nat.min_self]; exact hz.1, ?_⟩
            have hk : k ∉ (acc.zip (as.map V.ref)).map (·.1) := fun hm => by
              rw [kz hl] at hm
              have h0 := hz.2
              rw [List.any_eq_false] at h0
              exact h0 k hm (decide_eq_true rfl)
            rw [putK_new hk]
            have ez : acc.zip (as.map V.ref) ++ [(k, V.ref x)] = (acc ++ [k]).zip ((as ++ [x]).map V.ref) := by
              rw [List.map_append, List.zip_append (by simp [hl])]; rfl
            rw [ez]
            have r8 : RX (a.atF B) e3 σ2 F7 H7 := ⟨ow7, r7⟩
            have r9 := r8.wipe (own.map (·.2))
            rw [w5] at r9
            obtain ⟨ow9, r9⟩ := r9
            have r10 := r9.barFNew (u := .lst []) hx (fun _ z => nomatch z)
            have r11 := r10.barFSet (x := D) (u := .dK (acc.zip (as.map V.ref))) (u' := .dK ((acc ++ [k]).zip ((as ++ [x]).map V.ref))) (by rw [upd_ne (Ne.symm xD)]; exact hBD) (fun _ z => nomatch z)
            have hnd' := List.nodup_cons.mp hnd
            refine ⟨_, F7, acc ++ [k], as ++ [x], _, ⟨ow9, r11⟩, s3.trans (s4.trans s7), upd_same, fun z hz => ?_, ?_, by simp [hl], fun z o e => ?_, h10⟩
            · have zD : z ≠ D := by
                rintro rfl
                rcases List.mem_append.mp hz with h | h
                · exact hnd'.1 h
                · exact xD (List.mem_singleton.mp h).symm
              rw [upd_ne zD]
              rcases List.mem_append.mp hz with h | h
              · rw [upd_ne (by rintro rfl; exact xa h)]; exact hBa z h
              · rw [List.mem_singleton.mp h, upd_same]
            · refine List.nodup_cons.mpr ⟨fun h => ?_, ?_⟩
              · rcases List.mem_append.mp h with h | h
                · exact hnd'.1 h
                · exact xD (List.mem_singleton.mp h).symm
              · rw [List.nodup_append]
                refine ⟨hnd'.2, by simp, fun p hp q hq => ?_⟩
                rintro rfl
                rw [List.mem_singleton.mp hq] at hp
                exact xa hp
            · by_cases zD : z = D
              · rw [zD]; exact hB0 D _ hBD
              · rw [upd_ne zD] at e
                by_cases zx : z = x
                · rw [zx]; exact ⟨n1, n2⟩
                · rw [upd_ne zx] at e; exact hB0 z o e
          · cases h10
        · have e : i = ds.length := by omega
          subst e
          refine .inl ⟨w.stops H sH, ?_⟩
          rw [List.drop_length] at h3
          have h3 : some (acc, env3) = some (all, env2) := h3
          cases h3
          obtain ⟨ow5, r5⟩ := RX.restore (a := a.atF B) (a0 := a) rfl r1 s3 _ _ r3
          obtain ⟨r4, hBs⟩ := r5.barFEnd fun x o e => (hB0 x o e).2
          have mem : ∀ p ∈ D :: as, ∃ o, B p = some o := fun p hp => by
            rcases List.mem_cons.mp hp with e | hp
            · rw [e]; exact ⟨_, hBD⟩
            · exact ⟨_, hBa p hp⟩
          refine q _ F3 H (s1.trans s3) r4.nl (r4.snoc (s := .stm (.dol (all.map fun k => (k, [])))) (ps := D :: as) ⟨D, rfl, as, _, rfl, (hBs D _ hBD).1, dol_empty hl fun x hx => (hBs x _ (hBa x hx)).1⟩ hnd (fun p hp => ?_) (fun p hp j hj => ?_) fun p hp => ?_)
          · obtain ⟨o, e⟩ := mem p hp; exact ⟨(hBs p o e).2.1, (hBs p o e).2.2.1, (hB0 p o e).1⟩
          · obtain ⟨o, e⟩ := mem p hp; exact (hBs p o e).2.2.2 j hj
          · obtain ⟨o, e⟩ := mem p hp; exact (hB0 p o e).2⟩
end
/-! ### x[k].append(name) -/
def getL : List (Key × List D) → Key → Option (List D)
  | [], _ => none
  | (j, xs) :: r, k => if j = k then some xs else getL r k
def putL : List (Key × List D) → Key → List D → List (Key × List D)
  | [], _, _ => []
  | (j, xs) :: r, k, ys => if j = k then (j, ys) :: r else (j, xs) :: putL r k ys
def mDolApp (i j : Nat) (mk : Mr D) : Mr D := fun env => if (env[i]?).any Sl.own = false then none else (mk env).bind fun y => (asKey y.1).bind fun k => match y.2[i]?, y.2[j]? with
  | some (.stm (.dol kvs)), some (.val d) => (getL kvs k).bind fun xs => if xs.length < sizeLine then some (.non, y.2.set i (.stm (.dol (putL kvs k (xs ++ [d]))))) else none
  | _, _ => none
theorem dol_get {mg : Str → Option Value} {F H : Hp} : ∀ {kvs : List (Key × List D)} {ws : List (Key × V)} {as : List Addr} {k : Key} {xs : List D}, DolR mg F H kvs ws as → getL kvs k = some xs → as.Nodup → ∃ x vs, x ∈ as ∧ valV ws k = some (.ref x) ∧ H x = some (.lst vs) ∧ RepL mg F vs xs ∧
    ∀ ys us, RepL mg F us ys → DolR mg F (upd H x (.lst us)) (putL kvs k ys) ws as
  | _, _, _, _, _, .nil, h, _ => by cases h
  | _, _, _, k, xs, .cons (k := j) (a := x0) (xs := xs0) e q r, h, nd => by
    have nd' := List.nodup_cons.mp nd
    unfold getL at h
    rw [valV_cons]
    split at h
    · rename_i hj
      cases h
      refine ⟨x0, _, by simp, if_pos hj, e, q, fun ys us ru => ?_⟩
      unfold putL
      rw [if_pos hj]
      exact .cons upd_same ru (r.mono (Same.refl F) fun y hy => upd_ne (by rintro rfl; exact nd'.1 hy))
    · rename_i hj
      obtain ⟨x, vs, g1, g2, g3, g4, g5⟩ := dol_get r h nd'.2
      refine ⟨x, vs, by simp [g1], by rw [if_neg hj]; exact g2, g3, g4, fun ys us ru => ?_⟩
      unfold putL
      rw [if_neg hj]
      exact .cons (by rw [upd_ne (by rintro rfl; exact nd'.1 g1)]; exact e) q (g5 ys us ru)
/-- one of several objects that a name holds is changed -/
theorem R.write1 {a : Ax} {env : List Sl} {σ : L2.St} {F H : Hp} {ow : Nat → List Addr} (r : R a env σ F H ow) {i : Nat} {p : Addr} {s s' : Sl} {u' : HO} (e : env[i]? = some s) (he : s.own = true) (hp : p ∈ ow i)
    (q : SlR a.mg a.G F (upd H p u') s' (σ[i]?.join) (ow i)) : R a (env.set i s') σ F (upd H p u') ow := by
  have hi : i < env.length := (List.getElem?_eq_some_iff.mp e).1
  obtain ⟨f1, f2, f3⟩ := r.of i p hp
  have hb := r.ob i p hp
  refine ⟨by simp [r.ln], by simp [r.nl], fun x o ex => ?_, fun x o ex => ?_, r.ff, r.nw, fun x ex => ?_, fun j t ej => ?_, fun j hj => r.oz j (by simpa using hj), r.oi, r.on, r.of, fun x o ex => ?_, r.bf, r.ob, fun j t v hj ej ow' ev => ?_⟩
  · have z : x ≠ p := by rintro rfl; rw [f1] at ex; cases ex
    rw [upd_ne z]; exact r.fh x o ex
  · have z : x ≠ p := by rintro rfl; rw [f2] at ex; cases ex
    rw [upd_ne z]; exact r.gh x o ex
  · have z : x ≠ p := by rintro rfl; rw [upd_same] at ex; cases ex
    rw [upd_ne z] at ex; exact r.dm x ex
  · by_cases z : j = i
    · subst z
      rw [List.getElem?_set_self hi] at ej
      cases ej
      exact q
    · rw [List.getElem?_set_ne (Ne.symm z)] at ej
      exact (r.sl j t ej).mono (Same.refl F) (Same.refl _) fun x hx => upd_ne (by rintro rfl; exact z (r.oi j i x hx hp))
  · have z : x ≠ p := by rintro rfl; rw [hb] at ex; cases ex
    rw [upd_ne z]; exact r.bh x o ex
  · by_cases z : j = i
    · subst z
      exact r.pr j s v hj e he ev
    · rw [List.getElem?_set_ne (Ne.symm z)] at ej
      exact r.pr j t v hj ej ow' ev
section
variable {X : Cx} {n i j : Nat} {ki : Expr} {x y name : Str} {pos apos cpos px py sp : Pos}
theorem se_dolApp {mk : Mr D} (hu : X.A.units + 1 < cLine) (ho : PE X (.Name x px) (tVar i)) (hk : SE X n ki mk) (hs : NoSl ki) (hy : PE X (.Name y py) (tVar j))
    (hbase : attributeBase (.Subscript (.Name x px) ki sp) "append" X.env (eval (.Subscript (.Name x px) ki sp) X.env) = eval (.Subscript (.Name x px) ki sp) X.env := by rfl)
    (hfew : ((backTo cpos (starEach [.Name y py] X.env)).all (fun x => !x.1) && (backToKw cpos (keywordEach [] X.env)).all (fun x => x.1.isSome)
      && decide (([.Name y py] : List Expr).length + ([] : List Keyword).length + (if ([] : List Keyword).isEmpty then 0 else 1) < 30)) = true := by rfl)
    (hline : (apos.endLine == cpos.line) = true := by rfl) (hst : starEach [.Name y py] X.env = (false, eval (.Name y py) X.env) :: starEach [] X.env := by rfl) (hplain : (backTo cpos (starEach [] X.env)).any (·.1) = false := by rfl) :
    SE X n (.Call (.Attribute (.Subscript (.Name x px) ki sp) "append" apos) [.Name y py] [] cpos) (mDolApp i j mk) := ⟨fun a ha hn =>
  (pe_bm PySem.F.plainAttrs_list PySem.F.slot_list_append PySem.F.type_list_append mt_append (pe_dget hu ho (hk.run a ha hn) hs) (pa_cons hy pa_nil hst) hbase hfew hline hst hplain).w fun σ H Q ⟨env, F, d, env', r, hm, q⟩ => by
  unfold mDolApp at hm
  split at hm
  · cases hm
  · rename_i hown
    simp only [Option.bind_eq_some_iff] at hm
    obtain ⟨y, h1, k, h2, h3⟩ := hm
    split at h3
    · rename_i kvs dv e1 e2
      simp only [Option.bind_eq_some_iff] at h3
      obtain ⟨xs, h4, h5⟩ := h3
      split at h5
      · rename_i hz
        cases h5
        obtain ⟨v0, hv0⟩ := own_val r (by simpa using hown)
        refine ⟨v0, hv0, env, F, y.1, y.2, r, h1, fun kw F1 H1 s1 r1 rk => ?_⟩
        obtain ⟨ow, r1⟩ := r1
        obtain ⟨o, ho, sr⟩ := r1.at e1
        rw [hv0] at ho
        cases ho
        obtain ⟨p, ep, as, ws, eo, hp, dl⟩ := sr
        cases ep
        have nd := r1.on i
        rw [eo] at nd
        obtain ⟨x, us, g1, g2, g3, g4, g5⟩ := dol_get dl h4 (List.nodup_cons.mp nd).2
        refine ⟨p, .ref x, rfl, ?_, .inl ⟨rfl, us, SqL.of g3⟩, ?_⟩
        · rw [asKey_rep rk h2, ← g2]; exact .inl ⟨ws, k, .inl hp, rfl, rfl⟩
        obtain ⟨w, hw, rw1⟩ := r1.val e2
        refine ⟨w, hw, x, us, w, rfl, rfl, g3, by rw [g4.length]; exact hz, ?_⟩
        have xp : x ≠ p := by rintro rfl; rw [g3] at hp; cases hp
        refine q .non F1 _ s1 ⟨ow, R.write1 r1 e1 rfl (p := x) (by rw [eo]; simp [g1]) ?_⟩ .non
        rw [hv0]
        exact ⟨p, rfl, as, ws, eo, by rw [upd_ne (Ne.symm xp)]; exact hp, g5 _ _ (g4.app (.cons rw1 .nil))⟩
      · cases h5
    · cases h3⟩
end
/-! ### such a dict, standing still from now on -/
def mDolNz (n i : Nat) : Mr D := fun env => match env[i]? with
  | some (.stm (.dol kvs)) => if n ≤ i then some (.dic (kvs.map fun q => (q.1, .lst q.2)), env.set i (.val (.dic (kvs.map fun q => (q.1, .lst q.2))))) else none
  | _ => none
section
variable {a : Ax} {env : List Sl} {σ : L2.St} {F H : Hp} {ow : Nat → List Addr}
theorem dol_rep {mg : Str → Option Value} {F F' H : Hp} (s : Same F F') : ∀ {kvs : List (Key × List D)} {ws : List (Key × V)} {as : List Addr}, DolR mg F H kvs ws as → (∀ x ∈ as, F' x = H x) → RepA mg F' ws (kvs.map fun q => (q.1, D.lst q.2))
  | _, _, _, .nil, _ => .nil
  | _, _, _, .cons e q r, h => .cons (.lst ((h _ (by simp)).trans e) (q.mono s)) (dol_rep s r fun x hx => h x (by simp [hx]))
theorem R.stillDol (r : R a env σ F H ow) {i : Nat} {kvs : List (Key × List D)} (e : env[i]? = some (.stm (.dol kvs))) (hn : a.n ≤ i) : ∃ p ws, σ[i]? = some (some (.ref p)) ∧ H p = some (.dK ws) ∧ ∀ od, ∃ F', Same F F' ∧
    RX a (env.set i (.val (.dic (kvs.map fun q => (q.1, .lst q.2))))) σ F' (upd H p (.frz od (.dK ws))) ∧ Rep a.mg F' (.ref p) (.dic (kvs.map fun q => (q.1, .lst q.2))) := by
  have hi : i < env.length := (List.getElem?_eq_some_iff.mp e).1
  obtain ⟨o, ho, p, rfl, as, ws, eo, hp, dl⟩ := r.at e
  refine ⟨p, ws, ho, hp, fun od => ?_⟩
  have hmem : ∀ x ∈ p :: as, x ∈ ow i := fun x hx => by rw [eo]; exact hx
  have hF : ∀ x ∈ p :: as, F x = none ∧ a.G x = none ∧ a.H0 x = none := fun x hx => by obtain ⟨h1, h2, h3⟩ := r.of i x (hmem x hx); exact ⟨h1, h2, h3 hn⟩
  have hB : ∀ x ∈ p :: as, a.bar x = none := fun x hx => r.ob i x (hmem x hx)
  have nd := r.on i
  rw [eo] at nd
  have pas : p ∉ as := (List.nodup_cons.mp nd).1
  let F' : Hp := fun x => if x = p then some (.frz od (.dK ws)) else if x ∈ as then H x else F x
  have Fp : F' p = some (.frz od (.dK ws)) := if_pos rfl
  have Fa : ∀ x ∈ as, F' x = H x := fun x hx => by
    show (if x = p then _ else if x ∈ as then H x else F x) = H x
    rw [if_neg (by rintro rfl; exact pas hx), if_pos hx]
  have Fo : ∀ x, x ∉ p :: as → F' x = F x := fun x hx => by
    simp only [List.mem_cons, not_or] at hx
    show (if x = p then _ else if x ∈ as then H x else F x) = F x
    rw [if_neg hx.1, if_neg hx.2]
  have sF : Same F F' := fun x o ex => by
    rw [Fo x fun hx => by rw [(hF x hx).1] at ex; cases ex]; exact ex
  have rp : Rep a.mg F' (.ref p) (.dic (kvs.map fun q => (q.1, .lst q.2))) := .dic Fp (dol_rep sF dl Fa)
  have h1 : R a (env.set i .none) (σ.set i (some (.ref p))) F H (setOw ow i []) := r.wipe1 hi _
  rw [set_self ho] at h1
  have nopw : ∀ j x, x ∈ setOw ow i [] j → x ∉ p :: as := fun j x hx w => by
    by_cases z : j = i
    · subst z; rw [setOw_same] at hx; simp at hx
    · rw [setOw_ne z] at hx
      exact z (r.oi j i x hx (hmem x w))
  have h2 : R a (env.set i .none) σ F' (upd H p (.frz od (.dK ws))) (setOw ow i []) := by
    refine ⟨h1.ln, h1.nl, fun x o ex => ?_, fun x o ex => ?_, h1.ff.trans sF, fun x o ex => ?_, fun x ex => ?_, fun j s ej => ?_, h1.oz, h1.oi, h1.on, fun j x hx => ?_, fun y o hq => ?_, fun y o hq => ?_, h1.ob, h1.pr⟩
    · by_cases z : x = p
      · subst z; rw [Fp] at ex; rw [upd_same]; exact ex
      · rw [upd_ne z]
        by_cases z2 : x ∈ as
        · rw [Fa x z2] at ex; exact ex
        · rw [Fo x (by simp [z, z2])] at ex; exact h1.fh x o ex
    · have z : x ≠ p := by rintro rfl; rw [(hF _ (by simp)).2.1] at ex; cases ex
      rw [upd_ne z]; exact h1.gh x o ex
    · by_cases z : x ∈ p :: as
      · exact .inr (.inl (hF x z).2.2)
      · rw [Fo x z] at ex; exact h1.nw x o ex
    · have z : x ≠ p := by rintro rfl; rw [upd_same] at ex; cases ex
      rw [upd_ne z] at ex; exact h1.dm x ex
    · exact (h1.sl j s ej).mono sF (Same.refl _) fun x hx => upd_ne fun z => nopw j x hx (by simp [z])
    · rw [Fo x (nopw j x hx)]; exact h1.of j x hx
    · have z : y ≠ p := by rintro rfl; rw [hB _ (by simp)] at hq; cases hq
      rw [upd_ne z]; exact h1.bh y o hq
    · have z : y ∉ p :: as := fun hx => by rw [hB y hx] at hq; cases hq
      rw [Fo y z]; exact h1.bf y o hq
  have h3 := h2.putV (i := i) (d := .dic (kvs.map fun q => (q.1, .lst q.2))) (v := .ref p) (by simp [hi]) rp
  rw [set_self ho, List.set_set] at h3
  exact ⟨F', sF, ⟨_, h3⟩, rp⟩
end
theorem se_dolNz {X : Cx} {n : Nat} (i : Nat) {x : Str} {pos : Pos} (h : PE X (.Name x pos) (tVar i)) : SE X n (.Name x pos) (mDolNz n i) := ⟨fun a ha hn => h.lk.w fun σ H Q ⟨env, F, d, env', r, hm, q⟩ => by
  unfold mDolNz at hm
  split at hm
  · rename_i kvs e
    split at hm
    · rename_i hi
      cases hm
      obtain ⟨ow, r⟩ := r
      obtain ⟨p, ws, h1, h2, h3⟩ := r.stillDol e (by rw [hn]; exact hi)
      refine ⟨.ref p, h1, .inr ⟨p, _, rfl, h2, trivial, fun od => ?_⟩⟩
      obtain ⟨F', s, r', rp⟩ := h3 od
      exact q _ F' _ s r' rp
    · cases hm
  · cases hm⟩
end HU
set_option maxRecDepth 100000
namespace HU
open PySem PySem.Spec L2
/-! ### the draws' stream -/
def stmAt (i : Nat) (env : List Sl) : Option (List Int × Int × Int × Int) := match env[i]? with
  | some (.stm (.s c b n m)) => some (c, b, n, m)
  | _ => none
theorem stmAt_some {i : Nat} {env : List Sl} {c : List Int} {b n m : Int} (h : stmAt i env = some (c, b, n, m)) : env[i]? = some (.stm (.s c b n m)) := by
  unfold stmAt at h
  split at h
  · rename_i e; cases h; exact e
  · cases h
theorem own_stm {a : Ax} {env : List Sl} {σ : L2.St} {F H : Hp} {ow : Nat → List Addr} {i : Nat} {cs : List Int} {b n m : Int} (r : R a env σ F H ow) (e : env[i]? = some (.stm (.s cs b n m))) :
    ∃ p c, σ[i]? = some (some (.ref p)) ∧ ow i = [p, c] ∧ p ≠ c ∧ H p = some (.lst [.ref c, .int b, .int n, .int m]) ∧ H c = some (.lst (cs.map V.int)) := by
  obtain ⟨o, ho, p, e1, c, e2, e3, e4⟩ := r.at e
  have nd := r.on i
  rw [e2] at nd
  exact ⟨p, c, by rw [ho, e1], e2, by simpa using nd, e3, e4⟩
def fld3 (c : Int) (q : List Int × Int × Int × Int) : Option Int := if c = 1 then some q.2.1 else if c = 2 then some q.2.2.1 else if c = 3 then some q.2.2.2 else none
def mStmIx (i : Nat) (c : Int) : Mr D := fun env => (stmAt i env).bind fun q => (fld3 c q).map fun x => (.int x, env)
section
variable {X : Cx} {n i : Nat} {c : Int} {e : Expr} {x name : Str} {pos pos' apos cpos px p1 p2 sp : Pos} {k k2 : Nat} {j j2 : Nat}
theorem se_stmIx (ho : PE X (.Name x px) (tVar i)) (hs : PlainIx (.Constant (.int c) j p1) := by intro _ _; rfl) : SE X n (.Subscript (.Name x px) (.Constant (.int c) j p1) pos) (mStmIx i c) := ⟨fun a ha hn => (pe_ix ix_list ho pe_int hs).w fun σ H Q ⟨env, F, d, env', r, hm, q⟩ => by
  simp only [mStmIx, Option.bind_eq_some_iff, Option.map_eq_some_iff] at hm
  obtain ⟨⟨cs, b, m, w⟩, h1, y, h2, h3⟩ := hm
  cases h3
  have q0 := q
  obtain ⟨ow, r0⟩ := r
  obtain ⟨p, cd, e1, e2, e3, e4, e5⟩ := own_stm r0 (stmAt_some h1)
  refine ⟨.ref p, e1, p, _, c, .int y, rfl, rfl, SqL.of e4, ?_, q _ F H (Same.refl F) ⟨ow, r0⟩ (.int y)⟩
  unfold fld3 at h2
  split at h2
  · rename_i hc; cases h2; subst hc; rfl
  · split at h2
    · rename_i hc; cases h2; subst hc; rfl
    · split at h2
      · rename_i hc; cases h2; subst hc; rfl
      · cases h2⟩
theorem repl_ints {mg : Str → Option Value} {F : Hp} : ∀ cs : List Int, RepL mg F (cs.map V.int) (cs.map D.int)
  | [] => .nil
  | c :: cs => .cons (.int c) (repl_ints cs)
/-- x[0] != [] -/
def mStmMore (i : Nat) : Mr D := fun env => (stmAt i env).map fun q => (.bl (!q.1.isEmpty), env)
theorem dp_ints {K : PySem.W.Frag} {H : Hp} : ∀ cs : List Int, DpAll K H (cs.map V.int) (cs.map PyData.int)
  | [] => .nil
  | c :: cs => .cons (.int c) (dp_ints cs)
theorem se_stmMore {lp : Pos} (hu : X.A.units + 64 < cLine) (ho : PE X (.Name x px) (tVar i)) (hs : PlainIx (.Constant (.int 0) j p1) := by intro _ _; rfl) (hb : behindInMarks .NotEq (.List [] lp) = false := by rfl) :
    SE X n (.Compare (.Subscript (.Name x px) (.Constant (.int 0) j p1) sp) [.NotEq] [.List [] lp] pos) (mStmMore i) := ⟨fun a ha hn => (pe_cmpR (op_neA hu) (pe_ix ix_list ho pe_int hs) (pe_lst pa_nil) hb).w fun σ H Q ⟨env, F, d, env', r, hm, q⟩ => by
  simp only [mStmMore, Option.map_eq_some_iff] at hm
  obtain ⟨⟨cs, b, m, w⟩, h1, h3⟩ := hm
  cases h3
  obtain ⟨ow, r0⟩ := r
  obtain ⟨p, cd, e1, e2, e3, e4, e5⟩ := own_stm r0 (stmAt_some h1)
  refine ⟨.ref p, e1, p, _, 0, .ref cd, rfl, rfl, SqL.of e4, rfl, Nat.zero_le _, fun l hl => ?_⟩
  have g := r0.grow (H' := upd H l (.lst [])) (Same.upd hl)
  have hc : upd H l (.lst []) cd = some (.lst (cs.map V.int)) := by rw [upd_ne (by rintro rfl; rw [e5] at hl; cases hl)]; exact e5
  have e : PyData.eqv (.list (cs.map PyData.int)) (.list []) = cs.isEmpty := by cases cs <;> rfl
  refine .inr ⟨.list (cs.map PyData.int), .list [], .lst (SqL.of hc) (dp_ints cs), .lst (SqL.of upd_same) .nil, ?_, by rfl, ?_⟩
  · have h1 : ∀ cs : List Int, PyData.canLayAll0 (cs.map PyData.int) = true := fun cs => by induction cs with | nil => rfl | cons c cs ih => simpa [PyData.canLayAll0, PyData.canLay0] using ih
    have h2 : ∀ cs : List Int, PyData.depthAll (cs.map PyData.int) ≤ 1 := fun cs => by induction cs with | nil => simp [PyData.depthAll] | cons c cs ih => simp only [List.map_cons, PyData.depthAll, PyData.depth]; omega
    have h3 := h1 cs
    have h4 := h2 cs
    unfold SeqAt.shaped
    rw [Bool.and_eq_true]
    refine ⟨by simpa [PyData.canLay0] using h3, decide_eq_true ?_⟩
    simp only [PyData.depth]
    omega
  · rw [e]; exact q _ F _ (Same.refl F) ⟨ow, g⟩ (.bl _)⟩
/-- x[0].pop(0) -/
def mStmPop (i : Nat) : Mr D := fun env => (stmAt i env).bind fun q => match q.1 with
  | c :: cs => some (.int c, env.set i (.stm (.s cs q.2.1 q.2.2.1 q.2.2.2)))
  | [] => none
theorem se_stmPop (ho : PE X (.Name x px) (tVar i)) (hs : PlainIx (.Constant (.int 0) j p1) := by intro _ _; rfl)
    (hbase : attributeBase (.Subscript (.Name x px) (.Constant (.int 0) j p1) sp) "pop" X.env (eval (.Subscript (.Name x px) (.Constant (.int 0) j p1) sp) X.env) = eval (.Subscript (.Name x px) (.Constant (.int 0) j p1) sp) X.env := by rfl)
    (hfew : ((backTo cpos (starEach [.Constant (.int 0) j2 p2] X.env)).all (fun x => !x.1) && (backToKw cpos (keywordEach [] X.env)).all (fun x => x.1.isSome)
      && decide (([.Constant (.int 0) j2 p2] : List Expr).length + ([] : List Keyword).length + (if ([] : List Keyword).isEmpty then 0 else 1) < 30)) = true := by rfl)
    (hline : (apos.endLine == cpos.line) = true := by rfl) (hst : starEach [.Constant (.int 0) j2 p2] X.env = (false, eval (.Constant (.int 0) j2 p2) X.env) :: starEach [] X.env := by rfl) (hplain : (backTo cpos (starEach [] X.env)).any (·.1) = false := by rfl) :
    SE X n (.Call (.Attribute (.Subscript (.Name x px) (.Constant (.int 0) j p1) sp) "pop" apos) [.Constant (.int 0) j2 p2] [] cpos) (mStmPop i) := ⟨fun a ha hn =>
  (pe_bm PySem.F.plainAttrs_list PySem.F.slot_list_pop PySem.F.type_list_pop mt_popAt (pe_ix ix_list ho pe_int hs) (pa_cons pe_int pa_nil hst) hbase hfew hline hst hplain).w fun σ H Q ⟨env, F, d, env', r, hm, q⟩ => by
  simp only [mStmPop, Option.bind_eq_some_iff] at hm
  obtain ⟨⟨cs, b, m, w⟩, h1, h3⟩ := hm
  cases cs with
  | nil => cases h3
  | cons c cs =>
    cases h3
    obtain ⟨ow, r0⟩ := r
    have e0 := stmAt_some h1
    obtain ⟨p, cd, e1, e2, e3, e4, e5⟩ := own_stm r0 e0
    refine ⟨.ref p, e1, p, _, 0, .ref cd, rfl, rfl, SqL.of e4, rfl, .inl ⟨rfl, _, SqL.of e5⟩, ?_⟩
    refine ⟨cd, _, 0, 0, .int c, rfl, rfl, e5, by decide, by decide, ?_, rfl, ?_⟩
    · unfold seqIndex?
      simp
    · refine q (.int c) F _ (Same.refl F) ⟨ow, R.write1 r0 e0 rfl (p := cd) (by rw [e2]; simp) ?_⟩ (.int c)
      rw [e1]
      exact ⟨p, rfl, cd, e2, by rw [upd_ne e3]; exact e4, upd_same⟩⟩
/-- x[c] = e -/
def sStmSet (i : Nat) (c : Int) (me : Mr D) : Ms := sOf fun env => (me env).bind fun v => match v.1 with
  | .int z => (stmAt i v.2).bind fun q => if c = 1 then some (v.2.set i (.stm (.s q.1 z q.2.2.1 q.2.2.2))) else if c = 2 then some (v.2.set i (.stm (.s q.1 q.2.1 z q.2.2.2))) else if c = 3 then some (v.2.set i (.stm (.s q.1 q.2.1 q.2.2.1 z))) else none
  | _ => none
theorem ss_stmSet {me : Mr D} (he : SE X n e me) (ho : PE X (.Name x px) (tVar i)) (hs : swapsWithSole [.Subscript (.Name x px) (.Constant (.int c) j p1) sp] e pos.line X.env = pure false := by rfl)
    (hw : swappedStores [.Subscript (.Name x px) (.Constant (.int c) j p1) sp] e X.env = pure none := by rfl)
    (h1 : (assignEach [.Subscript (.Name x px) (.Constant (.int c) j p1) sp] X.env).map (·.2) = [assign (.Subscript (.Name x px) (.Constant (.int c) j p1) sp) X.env] := by rfl)
    (ha : ∀ v, assign (.Subscript (.Name x px) (.Constant (.int c) j p1) sp) X.env v = (do
      let ov ← holding [v] (eval (.Name x px) X.env)
      let iv ← holding [v, ov] (eval (.Constant (.int c) j p1) X.env)
      standAt sp
      holding [v, ov, iv] (setItem ov iv v)
      release [v, ov, iv] []) := by intro _; rfl) : SS X n (.Assign [.Subscript (.Name x px) (.Constant (.int c) j p1) sp] e pos) (sStmSet i c me) := ⟨fun a ha' hn =>
  (ps_asg (he.run a ha' hn) (pg_sub ho pe_int set_list ha) hs hw h1).w fun D σ H h => by
  obtain ⟨env, F, env', r, hm, q⟩ := rdS_of h
  simp only [Option.bind_eq_some_iff] at hm
  obtain ⟨v, e1, hm⟩ := hm
  split at hm
  · rename_i z ez
    simp only [Option.bind_eq_some_iff] at hm
    obtain ⟨⟨cs, b, m, w⟩, g1, hm⟩ := hm
    refine ⟨env, F, v.1, v.2, r, e1, fun u F1 H1 s1 r1 ru => ?_⟩
    rw [ez] at ru
    cases ru
    obtain ⟨ow, r1⟩ := r1
    have e0 := stmAt_some g1
    obtain ⟨p, cd, k1, k2, k3, k4, k5⟩ := own_stm r1 e0
    refine ⟨.ref p, k1, ?_⟩
    have go : ∀ (jx : Nat) (b' m' w' : Int), c = (jx : Int) → ([V.ref cd, .int b, .int m, .int w].set jx (.int z)) = [.ref cd, .int b', .int m', .int w'] → ixN 4 c = some jx → env' = v.2.set i (.stm (.s cs b' m' w')) →
        rSetL (.ref p) (.int c) (.int z) H1 (fun H3 => D.nx σ H3) := fun jx b' m' w' hc hl hx he => by
      refine ⟨p, _, c, jx, rfl, rfl, k4, hx, ?_⟩
      rw [hl]
      refine q σ F1 _ s1 ?_
      subst he
      refine ⟨ow, R.write1 r1 e0 rfl (p := p) (by rw [k2]; simp) ?_⟩
      rw [k1]
      exact ⟨p, rfl, cd, k2, upd_same, by rw [upd_ne (Ne.symm k3)]; exact k5⟩
    split at hm
    · rename_i hc; cases hm; subst hc; exact go 1 z m w rfl rfl (by decide) rfl
    · split at hm
      · rename_i hc; cases hm; subst hc; exact go 2 b z w rfl rfl (by decide) rfl
      · split at hm
        · rename_i hc; cases hm; subst hc; exact go 3 b m z rfl rfl (by decide) rfl
        · cases hm
  · cases hm⟩
/-- list(x) of the law's own list -/
def mListScr (i : Nat) : Mr Sl := fun env => match env[i]? with
  | some (.scr ns) => some (.lst (ns.map D.int), env)
  | _ => none
theorem sf_listScr {f : Str} {q : Pos} (ho : PE X (.Name x px) (tVar i)) (hm : X.mg f = none) (hv : bootBuiltins f = some (.type "list")) (hg : Gl X f := by rfl) (he : starEach [.Name x px] X.env = (false, eval (.Name x px) X.env) :: starEach [] X.env := by rfl)
    (hn : f ≠ "__name__" := by decide) (hdb : (f == ("__debug__" : Str)) = false := by decide) (hpl : (backTo pos (starEach [] X.env)).any (·.1) = false := by rfl) : SF X n (.Call (.Name f q) [.Name x px] [] pos) (mListScr i) :=
  ⟨fun a ha hn' => (pe_callTy call_list_of hg hm hv (pa_cons ho pa_nil he) hn hdb he hpl).w fun σ H Q ⟨env, F, d, env', r, hm, q⟩ => by
  unfold mListScr at hm
  split at hm
  · rename_i ns e
    cases hm
    have r0 := r
    obtain ⟨ow, r⟩ := r
    obtain ⟨o, ho', _, p, od, e1, e2⟩ := r.at e
    refine ⟨.ref p, by rw [ho', e1], p, ns.map V.int, rfl, .inl (.inl (.inr ⟨od, r.gh _ _ e2⟩)), fun l hl => ?_⟩
    obtain ⟨F', s', r'⟩ := r0.new (s := .lst (ns.map D.int)) (v := .ref l) ⟨l, _, rfl, hl, rfl, repl_ints ns⟩
    exact q _ F' _ s' r.nl r'
  · cases hm⟩
/-- [list(..), 0, 0, c]: a new stream -/
def mStream (m : Mr Sl) (b n0 w : Int) : Mr Sl := fun env => (m env).bind fun r => match r.1 with
  | .lst xs => (asInts xs).map fun cs => (.stm (.s cs b n0 w), r.2)
  | _ => none
theorem sf_stream {m : Mr Sl} {b n0 w : Int} {q1 q2 q3 : Pos} {j3 : Nat} (h : SF X n e m) (h1 : starEach [e, .Constant (.int b) j q1, .Constant (.int n0) j2 q2, .Constant (.int w) j3 q3] X.env = (false, eval e X.env) :: starEach [.Constant (.int b) j q1, .Constant (.int n0) j2 q2, .Constant (.int w) j3 q3] X.env := by rfl) :
    SF X n (.List [e, .Constant (.int b) j q1, .Constant (.int n0) j2 q2, .Constant (.int w) j3 q3] pos) (mStream m b n0 w) := ⟨fun a ha hn => (pe_lst (pa_cons (h.run a ha hn) (pa_cons pe_int (pa_cons pe_int (pa_cons pe_int pa_nil))) h1)).w fun σ H Q ⟨env, F, d, env', r, hm, q⟩ => by
  simp only [mStream, Option.bind_eq_some_iff] at hm
  obtain ⟨⟨s, env1⟩, g1, g2⟩ := hm
  cases s with
  | lst xs =>
    simp only [Option.map_eq_some_iff] at g2
    obtain ⟨cs, g3, g4⟩ := g2
    cases g4
    refine ⟨env, F, .lst xs, _, r, g1, fun v F1 H1 s1 n1 r1 => ⟨by show 4 ≤ sizeLine; decide, fun p hp => q (.ref p) F1 _ s1 n1 ?_⟩⟩
    obtain ⟨ow, r1⟩ := r1
    have hl : env'.length = σ.length := by have := r1.ln; simpa using this
    have sr := r1.sl env'.length (.lst xs) get_snoc
    rw [hl, get_snoc] at sr
    obtain ⟨c, vs, e1, e2, e3, rp⟩ := sr
    cases e1
    rw [asInts_eq g3] at rp
    rw [rp.ints] at e3
    obtain ⟨f1, f2, f3, f4⟩ := r1.fresh hp
    have hb : a.bar p = none := by
      cases e : a.bar p with
      | none => rfl
      | some o => have := r1.bh p o e; rw [hp] at this; cases this
    have pc : p ≠ c := by rintro rfl; rw [e3] at hp; cases hp
    have g := r1.grow (H' := upd H1 p (.lst [.ref c, .int b, .int n0, .int w])) (Same.upd hp)
    rw [← hl] at e2
    have cm : c ∈ ow env'.length := by rw [e2]; simp
    have r2 := g.put (i := env'.length) (s := .stm (.s cs b n0 w)) (o := some (.ref p)) (ps := [p, c]) (by simp) ⟨p, rfl, c, rfl, upd_same, by rw [upd_ne (Ne.symm pc)]; exact e3⟩ (by simpa using pc) (fun x hx => ?_) (fun x hx jx hj hm => ?_) (fun x hx => ?_) (fun hi => absurd hi (Nat.not_lt.mpr n1))
    · have z1 : (env' ++ [Sl.lst xs]).set env'.length (.stm (.s cs b n0 w)) = env' ++ [.stm (.s cs b n0 w)] := by simp
      have z2 : (σ ++ [some (V.ref c)]).set env'.length (some (.ref p)) = σ ++ [some (.ref p)] := by rw [hl]; simp
      rw [z1, z2] at r2
      exact ⟨_, r2⟩
    · rcases List.mem_cons.mp hx with e | hx
      · rw [e]; exact ⟨f1, f2, fun _ => f3⟩
      · rw [List.mem_singleton.mp hx]
        have := g.of _ c cm
        exact ⟨this.1, this.2.1, fun _ => this.2.2 n1⟩
    · rcases List.mem_cons.mp hx with e | hx
      · rw [e] at hm; exact f4 jx hm
      · rw [List.mem_singleton.mp hx] at hm; exact hj (g.oi jx _ c hm cm)
    · rcases List.mem_cons.mp hx with e | hx
      · rw [e]; exact hb
      · rw [List.mem_singleton.mp hx]; exact g.ob _ c cm
  | _ => cases g2⟩
end
end HU
set_option maxRecDepth 100000
namespace HU
open PySem PySem.Spec L2
/-! ### a < b < c -/
def mChain (g g' : D → D → Option D) (ma mb mc : Mr D) : Mr D := fun env => (ma env).bind fun x => (mb x.2).bind fun y => (g x.1 y.1).bind fun d => match d with
  | .bl true => (mc y.2).bind fun z => (g' y.1 z.1).map fun d => (d, z.2)
  | .bl false => some (.bl false, y.2)
  | _ => none
section
variable {X : Cx} {n : Nat} {e1 e2 e3 : Expr} {pos : Pos} {r r' : R2} {g g' : D → D → Option D} {ma mb mc : Mr D}
theorem se_chain {op op' : CmpOp} (ho : OpR X (compareOp op) r) (fl : FlatOp X.mg r g) (ho' : OpR X (compareOp op') r') (fl' : FlatOp X.mg r' g') (h1 : SE X n e1 ma) (h2 : SE X n e2 mb) (h3 : SE X n e3 mc)
    (hm : lastMarks [op, op'] [e2, e3] = false := by with_unfolding_all rfl) : SE X n (.Compare e1 [op, op'] [e2, e3] pos) (mChain g g' ma mb mc) := ⟨fun a ha hn => (pe_chain ho ho' (h1.run a ha hn) (h2.run a ha hn) (h3.run a ha hn) hm).w fun σ H Q ⟨env, F, d, env', r0, hm, q⟩ => by
  simp only [mChain, Option.bind_eq_some_iff] at hm
  obtain ⟨x, k1, y, k2, b, k3, k4⟩ := hm
  refine ⟨env, F, x.1, x.2, r0, k1, fun v F1 H1 s1 r1 rv => ⟨x.2, F1, y.1, y.2, r1, k2, fun w F2 H2 s2 r2 rw' => ?_⟩⟩
  have fh : Same F2 H2 := by obtain ⟨_, r'⟩ := r2; exact r'.fh
  refine fl F2 H2 v w x.1 y.1 b _ fh (.rep (by rw [← ha]; exact rv.mono s2)) (.rep (by rw [← ha]; exact rw')) k3 fun u hu => ?_
  split at k4
  · simp only [Option.bind_eq_some_iff, Option.map_eq_some_iff] at k4
    obtain ⟨z, k5, d', k6, k7⟩ := k4
    cases k7
    cases hu F2
    refine ⟨true, rfl, ?_⟩
    simp only [if_true]
    refine ⟨y.2, F2, z.1, z.2, r2, k5, fun t F3 H3 s3 r3 rt => ?_⟩
    have fh3 : Same F3 H3 := by obtain ⟨_, r'⟩ := r3; exact r'.fh
    exact fl' F3 H3 w t y.1 z.1 d _ fh3 (.rep (by rw [← ha]; exact rw'.mono s3)) (.rep (by rw [← ha]; exact rt)) k6 fun u' hu' => q u' F3 H3 (s1.trans (s2.trans s3)) r3 (hu' F3 |> fun h => by rw [ha]; exact h)
  · cases k4
    cases hu F2
    refine ⟨false, rfl, ?_⟩
    simp only [Bool.false_eq_true, if_false]
    exact q _ F2 H2 (s1.trans s2) r2 (.bl false)
  · cases k4⟩
end
/-! ### small -/
section
variable {X : Cx} {n : Nat} {e : Expr} {es : List Expr} {sts : List Stmt} {v : V} {vs : List V}
theorem sss_fail : SSs X n sts sFail := ⟨fun a ha hn => ⟨fun pins s σ H D I q => by obtain ⟨env, F, r, q⟩ := q; exact q.elim⟩⟩
theorem pty_nil : PA X [] (fun _ H Q => Q [] H) := pa_nil
theorem pty_cons (h : PE X e (tC v)) (hs : PA X es (fun _ H Q => Q vs H)) (he : starEach (e :: es) X.env = (false, eval e X.env) :: starEach es X.env := by rfl) : PA X (e :: es) (fun _ H Q => Q (v :: vs) H) := pa_cons h hs he
theorem pe_tyb {x : Str} {T : String} {pos : Pos} (hm : X.mg x = none) (hv : bootBuiltins x = some (.type T)) (hg : Gl X x := by rfl) (hn : x ≠ "__name__" := by decide) (hd : (x == ("__debug__" : Str)) = false := by decide) : PE X (.Name x pos) (tC (.ty T)) := pe_bltn hg hm hv rfl hn hd
theorem pe_tyo {x : Str} {C : Addr} {pos : Pos} (hm : X.mg x = some (.ref C)) (hg : Gl X x := by rfl) (hd : (x == ("__debug__" : Str)) = false := by decide) : PE X (.Name x pos) (tC (.ref C)) := pe_glob hg hm rfl hd
end
/-! ### how keywords bind -/
theorem kb0_of {K : PySem.W.Frag} {x qual : Str} {st : Stmt} {f : Addr} {fd : FuncData} {ps ks : List Str} {pm : List Nat} (F : Fun K x qual st f fd)
    (h : ∀ (kV doc pm' : Value) (an : Option Addr) (cdv ct : Value) (ws : List Value), ws.length = ks.length → bindArgs (PySem.W.fnOf x qual (defArgs st) (defBody st) (defScope st) .none kV doc pm' an cdv ct) ⟨[], ks.zip ws⟩ = pure (ps.zip (perm pm ws))) : KB0 K fd ps ks pm := ⟨fun s ws _ hl => by
  obtain ⟨oc, od, kV, doc, pm', an, cdv, ct, osl, rfl, _, _⟩ := F.ex
  exact .of_eq (h kV doc pm' an cdv ct ws hl)⟩
/-! ### room -/
theorem _root_.L2.Room.u1 {k : Nat} {A : Around} (r : Room k A) : A.units + 1 < cLine := by have := r.un; omega
theorem _root_.L2.Room.u65 {k : Nat} {A : Around} (r : Room k A) : A.units + 65 < cLine := by have := r.un; omega
end HU
set_option maxRecDepth 100000
namespace HU
open PySem PySem.Spec L2
/-! ### comparisons as tests -/
section
variable {X : Cx} {n : Nat} {e e1 e2 e3 : Expr} {pos : Pos} {r r' : R2} {g g' : D → D → Option D} {ma mb mc : Mr D}
theorem rdT_of {a : Ax} {m : Mr D} {σ : L2.St} {H : Hp} {Q : Bool → Hp → Prop} (h : rdT a (mTr m) σ H Q) : rdE a m σ H (fun x H' => ∃ k, x = .bl k ∧ Q k H') := by
  obtain ⟨env, F, b, env', r, hm, q⟩ := h
  obtain ⟨d, e1, h1, hm⟩ := mBnd_some hm
  cases d <;> first | cases hm | skip
  exact ⟨env, F, _, _, r, h1, fun v F' H' s r' rp => by cases rp; exact ⟨_, rfl, q F' H' s r'⟩⟩
theorem st_of {m : Mr D} (hp : ∀ a : Ax, a.mg = X.mg → a.n = n → PT X e (tTest (rdE a m))) : ST X n e (mTr m) := ⟨fun a ha hn => (hp a ha hn).w fun σ H Q h => rdT_of h⟩
theorem st_cmp {op : CmpOp} {τ υ : Type} {pa : Mr τ} {qa : τ → List Sl → Option D} {pb : Mr υ} {qb : υ → List Sl → Option D} (ho : OpR X (compareOp op) r) (fl : FlatOp X.mg r g) (h1 : SV X n e1 pa qa) (h2 : SV X n e2 pb qb) (hb : behindInMarks op e2 = false) : ST X n (.Compare e1 [op] [e2] pos) (mTr (mOp2 g pa qa pb qb)) :=
  ⟨fun a ha hn => (pt_cmpR ho (h1.run a ha hn) (h2.run a ha hn) hb).w fun σ H Q q => rd_flat (by rw [ha]; exact fl) (rdT_of q)⟩
theorem rd_chain {a : Ax} (ha : a.mg = X.mg) (fl : FlatOp X.mg r g) (fl' : FlatOp X.mg r' g') {σ : L2.St} {H : Hp} {Q : VK} (h : rdE a (mChain g g' ma mb mc) σ H Q) : tChain r r' (rdE a ma) (rdE a mb) (rdE a mc) σ H Q := by
  obtain ⟨env, F, d, env', r0, hm, q⟩ := h
  simp only [mChain, Option.bind_eq_some_iff] at hm
  obtain ⟨x, k1, y, k2, b, k3, k4⟩ := hm
  refine ⟨env, F, x.1, x.2, r0, k1, fun v F1 H1 s1 r1 rv => ⟨x.2, F1, y.1, y.2, r1, k2, fun w F2 H2 s2 r2 rw' => ?_⟩⟩
  have fh : Same F2 H2 := by obtain ⟨_, r'⟩ := r2; exact r'.fh
  refine fl F2 H2 v w x.1 y.1 b _ fh (.rep (by rw [← ha]; exact rv.mono s2)) (.rep (by rw [← ha]; exact rw')) k3 fun u hu => ?_
  split at k4
  · simp only [Option.bind_eq_some_iff, Option.map_eq_some_iff] at k4
    obtain ⟨z, k5, d', k6, k7⟩ := k4
    cases k7
    cases hu F2
    refine ⟨true, rfl, ?_⟩
    simp only [if_true]
    refine ⟨y.2, F2, z.1, z.2, r2, k5, fun t F3 H3 s3 r3 rt => ?_⟩
    have fh3 : Same F3 H3 := by obtain ⟨_, r'⟩ := r3; exact r'.fh
    exact fl' F3 H3 w t y.1 z.1 d _ fh3 (.rep (by rw [← ha]; exact rw'.mono s3)) (.rep (by rw [← ha]; exact rt)) k6 fun u' hu' => q u' F3 H3 (s1.trans (s2.trans s3)) r3 (hu' F3 |> fun h => by rw [ha]; exact h)
  · cases k4
    cases hu F2
    refine ⟨false, rfl, ?_⟩
    simp only [Bool.false_eq_true, if_false]
    exact q _ F2 H2 (s1.trans s2) r2 (.bl false)
  · cases k4
theorem st_chain {op op' : CmpOp} (ho : OpR X (compareOp op) r) (fl : FlatOp X.mg r g) (ho' : OpR X (compareOp op') r') (fl' : FlatOp X.mg r' g') (h1 : SE X n e1 ma) (h2 : SE X n e2 mb) (h3 : SE X n e3 mc)
    (hm : lastMarks [op, op'] [e2, e3] = false := by with_unfolding_all rfl) : ST X n (.Compare e1 [op, op'] [e2, e3] pos) (mTr (mChain g g' ma mb mc)) := ⟨fun a ha hn =>
  (pt_chain ho ho' (h1.run a ha hn) (h2.run a ha hn) (h3.run a ha hn) hm).w fun σ H Q h => rd_chain ha fl fl' (rdT_of h)⟩
end
section
variable {X : Cx} {n i : Nat} {x : Str} {pos px p1 sp : Pos} {j : Nat}
theorem st_stmMore {lp : Pos} (hu : X.A.units + 64 < cLine) (ho : PE X (.Name x px) (tVar i)) (hs : PlainIx (.Constant (.int 0) j p1) := by intro _ _; rfl) (hb : behindInMarks .NotEq (.List [] lp) = false := by rfl) :
    ST X n (.Compare (.Subscript (.Name x px) (.Constant (.int 0) j p1) sp) [.NotEq] [.List [] lp] pos) (mTr (mStmMore i)) := ⟨fun a ha hn => (pt_cmpR (op_neA hu) (pe_ix ix_list ho pe_int hs) (pe_lst pa_nil) hb).w fun σ H Q h => by
  obtain ⟨env, F, d, env', r, hm, q⟩ := rdT_of h
  simp only [mStmMore, Option.map_eq_some_iff] at hm
  obtain ⟨⟨cs, b, m, w⟩, h1, h3⟩ := hm
  cases h3
  obtain ⟨ow, r0⟩ := r
  obtain ⟨p, cd, e1, e2, e3, e4, e5⟩ := own_stm r0 (stmAt_some h1)
  refine ⟨.ref p, e1, p, _, 0, .ref cd, rfl, rfl, SqL.of e4, rfl, Nat.zero_le _, fun l hl => ?_⟩
  have gr := r0.grow (H' := upd H l (.lst [])) (Same.upd hl)
  have hc : upd H l (.lst []) cd = some (.lst (cs.map V.int)) := by rw [upd_ne (by rintro rfl; rw [e5] at hl; cases hl)]; exact e5
  have e : PyData.eqv (.list (cs.map PyData.int)) (.list []) = cs.isEmpty := by cases cs <;> rfl
  refine .inr ⟨.list (cs.map PyData.int), .list [], .lst (SqL.of hc) (dp_ints cs), .lst (SqL.of upd_same) .nil, ?_, by rfl, ?_⟩
  · have h1 : ∀ cs : List Int, PyData.canLayAll0 (cs.map PyData.int) = true := fun cs => by induction cs with | nil => rfl | cons c cs ih => simpa [PyData.canLayAll0, PyData.canLay0] using ih
    have h2 : ∀ cs : List Int, PyData.depthAll (cs.map PyData.int) ≤ 1 := fun cs => by induction cs with | nil => simp [PyData.depthAll] | cons c cs ih => simp only [List.map_cons, PyData.depthAll, PyData.depth]; omega
    have h3 := h1 cs
    have h4 := h2 cs
    unfold SeqAt.shaped
    rw [Bool.and_eq_true]
    refine ⟨by simpa [PyData.canLay0] using h3, decide_eq_true ?_⟩
    simp only [PyData.depth]
    omega
  · rw [e]; exact q _ F _ (Same.refl F) ⟨ow, gr⟩ (.bl _)⟩
end
end HU
set_option maxRecDepth 100000
namespace HU
open PySem PySem.Spec L2
/-! ### name = a comprehension, on one line -/
theorem rd_lc {X : Cx} {n : Nat} {a : Ax} (ha : a.mg = X.mg) (hn : a.n = n) {own : List (Str × Nat)} {mi : Mr (List D)} {b : Bd} {ts : List Nat} {tt : Mr Bool} {me : Mr D} (hts : ∀ t ∈ ts, t ∈ own.map (·.2)) {σ : L2.St} {H : Hp} {Q : VK} (h : rdF a (mLc mi b (own.map (·.2)) tt me) σ H Q) :
    tLc (rdI a mi) (anyG X.mg n b ts) (anyT X.mg n tt) (anyE X.mg n me) (own.map (·.2)) σ H Q := by
  obtain ⟨env, F, rr, env', r, hm, q⟩ := h
  unfold mLc at hm
  cases h1 : mi env with
  | none => rw [h1] at hm; cases hm
  | some z =>
    obtain ⟨ds, env1⟩ := z
    rw [h1] at hm
    simp only [Option.bind_some] at hm
    cases h2 : lcL b (own.map (·.2)) tt me ds (wipeE env1 (own.map (·.2))) with
    | none => rw [h2] at hm; cases hm
    | some z =>
      obtain ⟨all, env2⟩ := z
      rw [h2] at hm
      simp only [Option.bind_some] at hm
      split at hm
      · rename_i hz
        cases hm
        refine ⟨env, F, ds, env1, r, h1, fun J F1 H1 s1 r1 w D hD => ?_⟩
        -- the turns: the items so far at D, the rest still to come
        refine ⟨fun i m H => m = ds.length - i ∧ i ≤ ds.length ∧ ∃ env F acc vs rest, RX (a.at D (.lst vs)) env (L2.wipe σ (own.map (·.2))) F H ∧ Same F1 F ∧ RepL a.mg F vs acc ∧
            lcL b (own.map (·.2)) tt me (ds.drop i) env = some (rest, env2) ∧ acc ++ rest = all, ⟨ds.length, by simp, Nat.zero_le _, ?_⟩, ?_⟩
        · obtain ⟨ow, r2⟩ := r1.wipe (own.map (·.2))
          exact ⟨_, F1, [], [], all, ⟨ow, r2.bar0 hD (fun _ z => nomatch z)⟩, Same.refl F1, .nil, h2, rfl⟩
        · rintro i m H ⟨rfl, hi, env3, F3, acc, vs, rest, r3, s3, rp, h3, h4⟩
          have sH : Same F1 H := by obtain ⟨_, r⟩ := r3; exact s3.trans r.fh
          have hbD : a.bar D = none := by
            cases e : a.bar D with
            | none => rfl
            | some o => obtain ⟨_, r1⟩ := r1; have := r1.bh D o e; rw [hD] at this; cases this
          by_cases hlt : i < ds.length
          · refine .inr ⟨w.goes i H hlt sH, fun H => ∃ env F acc vs rest, RX (a.at D (.lst vs)) env (L2.wipe σ (own.map (·.2))) F H ∧ Same F1 F ∧ RepL a.mg F vs acc ∧
              lcL b (own.map (·.2)) tt me (ds.drop (i + 1)) env = some (rest, env2) ∧ acc ++ rest = all, fun H' q' => ⟨ds.length - (i + 1), by omega, rfl, hlt, q'⟩, fun x H' y => ?_⟩
            obtain ⟨F4, s4, r4, rx⟩ := r3.yield s3 (w.yields i H x H' ds[i] (by simp [hlt]) sH y)
            rw [List.drop_eq_getElem_cons hlt] at h3
            unfold lcL at h3
            simp only [Option.bind_eq_some_iff] at h3
            obtain ⟨e1, h5, ⟨t, e2⟩, h6, h3⟩ := h3
            refine ⟨a.at D (.lst vs), ha, hn, env3, F4, ds[i], e1, r4, rx, h5, fun σ2 r5 w5' => ?_⟩
            have w5 : L2.wipe σ2 (own.map (·.2)) = L2.wipe σ (own.map (·.2)) := (w5' _ hts).trans (wipe_wipe σ _)
            refine ⟨w5, ?_⟩
            refine ⟨a.at D (.lst vs), ha, hn, e1, F4, t, e2, r5, h6, fun F6 H6 s6 r6 => ?_⟩
            cases t with
            | false =>
              simp only [Bool.false_eq_true, if_false] at h3 ⊢
              have r7 := r6.wipe (own.map (·.2))
              rw [w5] at r7
              exact ⟨_, F6, acc, vs, rest, r7, (s3.trans s4).trans s6, rp.mono (s4.trans s6), h3, h4⟩
            | true =>
              simp only [if_true, Option.bind_eq_some_iff, Option.map_eq_some_iff] at h3 ⊢
              obtain ⟨⟨y, e3⟩, h7, ⟨rest', e4⟩, h8, h9⟩ := h3
              cases h9
              refine ⟨a.at D (.lst vs), ha, hn, e2, F6, y, e3, r6, h7, fun v F7 H7 s7 r7 ry => ?_⟩
              obtain ⟨ow7, r7⟩ := r7
              have hbD7 : H7 D = some (.lst vs) := r7.bh D _ upd_same
              refine ⟨vs, hbD7, ?_, ?_⟩
              · have e : acc.length + 1 ≤ all.length := by rw [← h4]; simp
                rw [rp.length]; omega
              · have r8 : RX (a.at D (.lst vs)) e3 σ2 F7 H7 := ⟨ow7, r7⟩
                have r9 := r8.wipe (own.map (·.2))
                rw [w5] at r9
                obtain ⟨ow9, r9⟩ := r9
                exact ⟨_, F7, acc ++ [y], vs ++ [v], rest', ⟨ow9, r9.barNext (fun _ z => nomatch z)⟩, ((s3.trans s4).trans s6).trans s7, (rp.mono ((s4.trans s6).trans s7)).app (.cons ry .nil), h8, by rw [List.append_assoc]; exact h4⟩
          · have e : i = ds.length := by omega
            subst e
            refine .inl ⟨w.stops H sH, ?_⟩
            rw [List.drop_length] at h3
            cases h3
            rw [List.append_nil] at h4
            subst h4
            obtain ⟨ow5, r5⟩ := RX.restore (a := a.at D (.lst vs)) (a0 := a) rfl r1 s3 _ _ r3
            obtain ⟨r4, hD4, f1, f2, f3⟩ := r5.barEnd hbD
            have hD0 : a.H0 D = none := by obtain ⟨_, r1⟩ := r1; exact r1.dm D hD
            refine q _ F3 H (s1.trans s3) r4.nl (r4.snoc (s := .lst acc) (ps := [D]) ⟨D, vs, rfl, rfl, hD4, rp⟩ (by simp) (fun p hp => ?_) (fun p hp j hj => ?_) fun p hp => ?_)
            · rw [List.mem_singleton.mp hp]; exact ⟨f1, f2, hD0⟩
            · rw [List.mem_singleton.mp hp] at hj; exact f3 j hj
            · rw [List.mem_singleton.mp hp]; exact hbD
      · cases hm
theorem rd_dc {X : Cx} {n : Nat} {a : Ax} (ha : a.mg = X.mg) (hn : a.n = n) {own : List (Str × Nat)} {mi : Mr (List D)} {b : Bd} {ts : List Nat} {tt : Mr Bool} {mk mv : Mr D} (hts : ∀ t ∈ ts, t ∈ own.map (·.2)) {σ : L2.St} {H : Hp} {Q : VK} (h : rdF a (mDc mi b (own.map (·.2)) tt mk mv) σ H Q) :
    tDc (rdI a mi) (anyG X.mg n b ts) (anyT X.mg n tt) (anyE X.mg n mk) (anyE X.mg n mv) (own.map (·.2)) σ H Q := by
  obtain ⟨env, F, rr, env', r, hm, q⟩ := h
  unfold mDc at hm
  cases h1 : mi env with
  | none => rw [h1] at hm; cases hm
  | some z =>
    obtain ⟨ds, env1⟩ := z
    rw [h1] at hm
    simp only [Option.bind_some] at hm
    cases h2 : dcL b (own.map (·.2)) tt mk mv ds [] (wipeE env1 (own.map (·.2))) with
    | none => rw [h2] at hm; cases hm
    | some z =>
      obtain ⟨all, env2⟩ := z
      rw [h2] at hm
      cases hm
      refine ⟨env, F, ds, env1, r, h1, fun J F1 H1 s1 r1 w D hD => ?_⟩
      -- the turns: the pairs so far at D, the rest still to come
      refine ⟨fun i m H => m = ds.length - i ∧ i ≤ ds.length ∧ ∃ env F acc vs, RX (a.at D (.dK vs)) env (L2.wipe σ (own.map (·.2))) F H ∧ Same F1 F ∧ RepA a.mg F vs acc ∧
          dcL b (own.map (·.2)) tt mk mv (ds.drop i) acc env = some (all, env2), ⟨ds.length, by simp, Nat.zero_le _, ?_⟩, ?_⟩
      · obtain ⟨ow, r2⟩ := r1.wipe (own.map (·.2))
        exact ⟨_, F1, [], [], ⟨ow, r2.bar0 hD (fun _ z => nomatch z)⟩, Same.refl F1, .nil, h2⟩
      · rintro i m H ⟨rfl, hi, env3, F3, acc, vs, r3, s3, rp, h3⟩
        have sH : Same F1 H := by obtain ⟨_, r⟩ := r3; exact s3.trans r.fh
        have hbD : a.bar D = none := by
          cases e : a.bar D with
          | none => rfl
          | some o => obtain ⟨_, r1⟩ := r1; have := r1.bh D o e; rw [hD] at this; cases this
        by_cases hlt : i < ds.length
        · refine .inr ⟨w.goes i H hlt sH, fun H => ∃ env F acc vs, RX (a.at D (.dK vs)) env (L2.wipe σ (own.map (·.2))) F H ∧ Same F1 F ∧ RepA a.mg F vs acc ∧
            dcL b (own.map (·.2)) tt mk mv (ds.drop (i + 1)) acc env = some (all, env2), fun H' q' => ⟨ds.length - (i + 1), by omega, rfl, hlt, q'⟩, fun x H' y => ?_⟩
          obtain ⟨F4, s4, r4, rx⟩ := r3.yield s3 (w.yields i H x H' ds[i] (by simp [hlt]) sH y)
          rw [List.drop_eq_getElem_cons hlt] at h3
          unfold dcL at h3
          simp only [Option.bind_eq_some_iff] at h3
          obtain ⟨e1, h5, ⟨t, e2⟩, h6, h3⟩ := h3
          refine ⟨a.at D (.dK vs), ha, hn, env3, F4, ds[i], e1, r4, rx, h5, fun σ2 r5 w5' => ?_⟩
          have w5 : L2.wipe σ2 (own.map (·.2)) = L2.wipe σ (own.map (·.2)) := (w5' _ hts).trans (wipe_wipe σ _)
          refine ⟨w5, ?_⟩
          refine ⟨a.at D (.dK vs), ha, hn, e1, F4, t, e2, r5, h6, fun F6 H6 s6 r6 => ?_⟩
          cases t with
          | false =>
            simp only [Bool.false_eq_true, if_false] at h3 ⊢
            have r7 := r6.wipe (own.map (·.2))
            rw [w5] at r7
            exact ⟨_, F6, acc, vs, r7, (s3.trans s4).trans s6, rp.mono (s4.trans s6), h3⟩
          | true =>
            simp only [if_true, Option.bind_eq_some_iff] at h3 ⊢
            obtain ⟨⟨y, e3⟩, h7, ⟨z, e4⟩, h8, k, h9, h10⟩ := h3
            split at h10
            · rename_i hz
              refine ⟨a.at D (.dK vs), ha, hn, e2, F6, y, e3, r6, h7, fun v F7 H7 s7 r7 ry => ?_⟩
              refine ⟨a.at D (.dK vs), ha, hn, e3, F7, z, e4, r7, h8, fun v2 F8 H8 s8 r8 rz => ?_⟩
              obtain ⟨ow8, r8⟩ := r8
              have hbD8 : H8 D = some (.dK vs) := r8.bh D _ upd_same
              refine ⟨vs, k, asKey_rep ry h9, hbD8, by rw [rp.length]; exact hz, ?_⟩
              have r9 := RX.wipe (⟨ow8, r8⟩ : RX (a.at D (.dK vs)) e4 σ2 F8 H8) (own.map (·.2))
              rw [w5] at r9
              obtain ⟨ow9, r9⟩ := r9
              have sA : Same F3 F8 := ((s4.trans s6).trans s7).trans s8
              exact ⟨_, F8, putA acc k z, putK vs k v2, ⟨ow9, r9.barNext (fun _ z => nomatch z)⟩, s3.trans sA, (rp.mono sA).put k rz, h10⟩
            · cases h10
        · have e : i = ds.length := by omega
          subst e
          refine .inl ⟨w.stops H sH, ?_⟩
          rw [List.drop_length] at h3
          have h3 : some (acc, env3) = some (all, env2) := h3
          cases h3
          obtain ⟨ow5, r5⟩ := RX.restore (a := a.at D (.dK vs)) (a0 := a) rfl r1 s3 _ _ r3
          obtain ⟨r4, hD4, f1, f2, f3⟩ := r5.barEnd hbD
          have hD0 : a.H0 D = none := by obtain ⟨_, r1⟩ := r1; exact r1.dm D hD
          refine q _ F3 H (s1.trans s3) r4.nl (r4.snoc (s := .dic all) (ps := [D]) ⟨D, vs, rfl, rfl, hD4, rp⟩ (by simp) (fun p hp => ?_) (fun p hp j hj => ?_) fun p hp => ?_)
          · rw [List.mem_singleton.mp hp]; exact ⟨f1, f2, hD0⟩
          · rw [List.mem_singleton.mp hp] at hj; exact f3 j hj
          · rw [List.mem_singleton.mp hp]; exact hbD
theorem rd_dol {X : Cx} {n : Nat} {a : Ax} (ha : a.mg = X.mg) (hn : a.n = n) {own : List (Str × Nat)} {mi : Mr (List D)} {b : Bd} {ts : List Nat} {mk : Mr D} (hts : ∀ t ∈ ts, t ∈ own.map (·.2)) {σ : L2.St} {H : Hp} {Q : VK} (h : rdF a (mDol mi b (own.map (·.2)) mk) σ H Q) :
    tDc (rdI a mi) (anyG X.mg n b ts) tYes (anyE X.mg n mk) (tLst tNil) (own.map (·.2)) σ H Q := by
  obtain ⟨env, F, rr, env', r, hm, q⟩ := h
  unfold mDol at hm
  cases h1 : mi env with
  | none => rw [h1] at hm; cases hm
  | some z =>
    obtain ⟨ds, env1⟩ := z
    rw [h1] at hm
    simp only [Option.bind_some] at hm
    cases h2 : dolL b (own.map (·.2)) mk ds [] (wipeE env1 (own.map (·.2))) with
    | none => rw [h2] at hm; cases hm
    | some z =>
      obtain ⟨all, env2⟩ := z
      rw [h2] at hm
      cases hm
      refine ⟨env, F, ds, env1, r, h1, fun J F1 H1 s1 r1 w D hD => ?_⟩
      have new0 : ∀ {F H : Hp} {env : List Sl} {σ : L2.St} {B : Hp} {x : Addr}, RX (a.atF B) env σ F H → H x = none → a.H0 x = none ∧ a.bar x = none ∧ B x = none := fun {F H env σ B x} r hx => by
        obtain ⟨_, r⟩ := r
        have hb : (a.atF B).bar x = none := by
          cases e : (a.atF B).bar x with
          | none => rfl
          | some o => have := r.bh x o e; rw [hx] at this; cases this
        refine ⟨r.dm x hx, ?_, ?_⟩
        · cases e : B x with
          | none => have hb : (match B x with | some o => some o | none => a.bar x) = none := hb; rw [e] at hb; exact hb
          | some o => rw [atF_in e] at hb; cases hb
        · cases e : B x with
          | none => rfl
          | some o => rw [atF_in e] at hb; cases hb
      -- the keys so far, their lists; all this is barred
      refine ⟨fun i m H => m = ds.length - i ∧ i ≤ ds.length ∧ ∃ env F acc as B, RX (a.atF B) env (L2.wipe σ (own.map (·.2))) F H ∧ Same F1 F ∧ B D = some (.dK (acc.zip (as.map V.ref))) ∧ (∀ x ∈ as, B x = some (.lst [])) ∧ (D :: as).Nodup ∧ acc.length = as.length ∧
          (∀ x o, B x = some o → a.H0 x = none ∧ a.bar x = none) ∧ dolL b (own.map (·.2)) mk (ds.drop i) acc env = some (all, env2), ⟨ds.length, by simp, Nat.zero_le _, ?_⟩, ?_⟩
      · have n0 := new0 (B := fun _ => none) (show RX (a.atF fun _ => none) _ _ _ _ from r1) hD
        obtain ⟨ow, r2⟩ := r1.wipe (own.map (·.2))
        refine ⟨_, F1, [], [], upd (fun _ => none) D (.dK []), ⟨ow, (r2.barF0).barFNew hD (fun _ z => nomatch z)⟩, Same.refl F1, by rw [upd_same] <;> rfl, (fun _ h => nomatch h), by simp, rfl, fun x o e => ?_, h2⟩
        by_cases z : x = D
        · rw [z]; exact ⟨n0.1, n0.2.1⟩
        · rw [upd_ne z] at e; cases e
      · rintro i m H ⟨rfl, hi, env3, F3, acc, as, B, r3, s3, hBD, hBa, hnd, hl, hB0, h3⟩
        have sH : Same F1 H := by obtain ⟨_, r⟩ := r3; exact s3.trans r.fh
        by_cases hlt : i < ds.length
        · refine .inr ⟨w.goes i H hlt sH, fun H => ∃ env F acc as B, RX (a.atF B) env (L2.wipe σ (own.map (·.2))) F H ∧ Same F1 F ∧ B D = some (.dK (acc.zip (as.map V.ref))) ∧ (∀ x ∈ as, B x = some (.lst [])) ∧ (D :: as).Nodup ∧ acc.length = as.length ∧
            (∀ x o, B x = some o → a.H0 x = none ∧ a.bar x = none) ∧ dolL b (own.map (·.2)) mk (ds.drop (i + 1)) acc env = some (all, env2), fun H' q1 => ⟨ds.length - (i + 1), by omega, rfl, hlt, q1⟩, fun x H' y => ?_⟩
          obtain ⟨F4, s4, r4, rx⟩ := r3.yield s3 (w.yields i H x H' ds[i] (by simp [hlt]) sH y)
          rw [List.drop_eq_getElem_cons hlt] at h3
          unfold dolL at h3
          simp only [Option.bind_eq_some_iff] at h3
          obtain ⟨e1, h5, ⟨y, e3⟩, h7, k, h9, h10⟩ := h3
          split at h10
          · rename_i hz
            refine ⟨a.atF B, ha, hn, env3, F4, ds[i], e1, r4, rx, h5, fun σ2 r5 w5' => ?_⟩
            have w5 : L2.wipe σ2 (own.map (·.2)) = L2.wipe σ (own.map (·.2)) := (w5' _ hts).trans (wipe_wipe σ _)
            refine ⟨w5, ?_⟩
            unfold tYes
            simp only [if_true]
            refine ⟨a.atF B, ha, hn, e1, F4, y, e3, r5, h7, fun v F7 H7 s7 r7 ry => ⟨Nat.zero_le _, fun x hx => ?_⟩⟩
            obtain ⟨n1, n2, n3⟩ := new0 r7 hx
            obtain ⟨ow7, r7⟩ := r7
            have eD : H7 D = some (.dK (acc.zip (as.map V.ref))) := r7.bh D _ (atF_in hBD)
            have xD : x ≠ D := by rintro rfl; rw [hx] at eD; cases eD
            have xa : x ∉ as := fun hm => by have := r7.bh x _ (atF_in (hBa x hm)); rw [hx] at this; cases this
            have kz : ∀ {acc : List Key} {as : List Addr}, acc.length = as.length → (acc.zip (as.map V.ref)).map (·.1) = acc := fun {acc as} h => List.map_fst_zip (by simp [h])
            refine ⟨acc.zip (as.map V.ref), k, asKey_rep ry h9, by rw [upd_ne (Ne.symm xD)]; exact eD, by rw [List.length_zip, List.length_map, ← hl, Nat.min_self]; exact hz.1, ?_⟩
            have hk : k ∉ (acc.zip (as.map V.ref)).map (·.1) := fun hm => by
              rw [kz hl] at hm
              have h0 := hz.2
              rw [List.any_eq_false] at h0
              exact h0 k hm (decide_eq_true rfl)
            rw [putK_new hk]
            have ez : acc.zip (as.map V.ref) ++ [(k, V.ref x)] = (acc ++ [k]).zip ((as ++ [x]).map V.ref) := by
              rw [List.map_append, List.zip_append (by simp [hl])]; rfl
            rw [ez]
            have r8 : RX (a.atF B) e3 σ2 F7 H7 := ⟨ow7, r7⟩
            have r9 := r8.wipe (own.map (·.2))
            rw [w5] at r9
            obtain ⟨ow9, r9⟩ := r9
            have r10 := r9.barFNew (u := .lst []) hx (fun _ z => nomatch z)
            have r11 := r10.barFSet (x := D) (u := .dK (acc.zip (as.map V.ref))) (u' := .dK ((acc ++ [k]).zip ((as ++ [x]).map V.ref))) (by rw [upd_ne (Ne.symm xD)]; exact hBD) (fun _ z => nomatch z)
            have hnd' := List.nodup_cons.mp hnd
            refine ⟨_, F7, acc ++ [k], as ++ [x], _, ⟨ow9, r11⟩, s3.trans (s4.trans s7), upd_same, fun z hz => ?_, ?_, by simp [hl], fun z o e => ?_, h10⟩
            · have zD : z ≠ D := by
                rintro rfl
                rcases List.mem_append.mp hz with h | h
                · exact hnd'.1 h
                · exact xD (List.mem_singleton.mp h).symm
              rw [upd_ne zD]
              rcases List.mem_append.mp hz with h | h
              · rw [upd_ne (by rintro rfl; exact xa h)]; exact hBa z h
              · rw [List.mem_singleton.mp h, upd_same]
            · refine List.nodup_cons.mpr ⟨fun h => ?_, ?_⟩
              · rcases List.mem_append.mp h with h | h
                · exact hnd'.1 h
                · exact xD (List.mem_singleton.mp h).symm
              · rw [List.nodup_append]
                refine ⟨hnd'.2, by simp, fun p hp q hq => ?_⟩
                rintro rfl
                rw [List.mem_singleton.mp hq] at hp
                exact xa hp
            · by_cases zD : z = D
              · rw [zD]; exact hB0 D _ hBD
              · rw [upd_ne zD] at e
                by_cases zx : z = x
                · rw [zx]; exact ⟨n1, n2⟩
                · rw [upd_ne zx] at e; exact hB0 z o e
          · cases h10
        · have e : i = ds.length := by omega
          subst e
          refine .inl ⟨w.stops H sH, ?_⟩
          rw [List.drop_length] at h3
          have h3 : some (acc, env3) = some (all, env2) := h3
          cases h3
          obtain ⟨ow5, r5⟩ := RX.restore (a := a.atF B) (a0 := a) rfl r1 s3 _ _ r3
          obtain ⟨r4, hBs⟩ := r5.barFEnd fun x o e => (hB0 x o e).2
          have mem : ∀ p ∈ D :: as, ∃ o, B p = some o := fun p hp => by
            rcases List.mem_cons.mp hp with e | hp
            · rw [e]; exact ⟨_, hBD⟩
            · exact ⟨_, hBa p hp⟩
          refine q _ F3 H (s1.trans s3) r4.nl (r4.snoc (s := .stm (.dol (all.map fun k => (k, [])))) (ps := D :: as) ⟨D, rfl, as, _, rfl, (hBs D _ hBD).1, dol_empty hl fun x hx => (hBs x _ (hBa x hx)).1⟩ hnd (fun p hp => ?_) (fun p hp j hj => ?_) fun p hp => ?_)
          · obtain ⟨o, e⟩ := mem p hp; exact ⟨(hBs p o e).2.1, (hBs p o e).2.2.1, (hB0 p o e).1⟩
          · obtain ⟨o, e⟩ := mem p hp; exact (hBs p o e).2.2.2 j hj
          · obtain ⟨o, e⟩ := mem p hp; exact (hB0 p o e).2

section
variable {X : Cx} {n : Nat} {pos spos py : Pos}
/-- name = {.. for ..}, the name a local -/
theorem ps_setDc {i : Nat} {y : Str} {kx vx tg iter : Expr} {ifs : List Expr} {scope : Scope} {own : List (Str × Nat)} {wi : TI} {g : TG} {tt : TT} {tk tv : TE} (hc : X.calm = true) (hN : X.N.Nodup) (hy : X.N[i]? = some y) (hyl : X.env.scope.names.lookup y = some .local)
    (hsw : swapsWith (.DictComp kx vx [⟨tg, iter, ifs, 0⟩] scope pos) (some (.Name y py)) spos.line X.env = pure true) (hi : PI X tg iter wi) (ok : BlkOk X.N X.env.scope scope own)
    (hg : ∀ (s : Shared) (H : Hp) (C : Addr) (cl : List (Str × Addr)) (fp : List Addr), PG (X.blk s H scope (compEnvC scope cl C X.env) fp) tg g) (ht : ∀ (s : Shared) (H : Hp) (C : Addr) (cl : List (Str × Addr)) (fp : List Addr), PTs (X.blk s H scope (compEnvC scope cl C X.env) fp) ifs tt)
    (hk : ∀ (s : Shared) (H : Hp) (C : Addr) (cl : List (Str × Addr)) (fp : List Addr), PE (X.blk s H scope (compEnvC scope cl C X.env) fp) kx tk)
    (he : ∀ (s : Shared) (H : Hp) (C : Addr) (cl : List (Str × Addr)) (fp : List Addr), PE (X.blk s H scope (compEnvC scope cl C X.env) fp) vx tv) (hs : ∀ x, foldedSetIterable iter X.env x = pure x := by intro _; rfl) :
    PS X (.Assign [.Name y py] (.DictComp kx vx [⟨tg, iter, ifs, 0⟩] scope pos) spos) (tAsg (tDc wi g tt tk tv (own.map (·.2))) (gName i)) := ⟨fun pins s σ H D I h => by
  rw [exec_Assign_Name_used _ _ _ _ hsw]
  have core := dc_core (pos := pos) (use := some (assign (.Name y py) X.env)) (Qf := fun _ s' => SP X pins D .next s') (pos' := firstIterPos [⟨tg, iter, ifs, 0⟩] pos) hc hN I hi ok hg ht hk he hs (show tDc wi g tt tk tv (own.map (·.2)) σ H (fun x H1 => gName i x σ H1 D.nx) from h) fun L C s' m H' I' q hn f => by
    show wpAny _ _ (assign (.Name y py) X.env (.ref L)) _ _ _
    obtain ⟨f0, f1, f2, f3, f4, f5⟩ := f
    refine wpAny_assign_Name (store_ok2 (v := V.ref L) I' hN hy (.inl hyl) rfl (fun s2 I2 ⟨a, sb, ha⟩ => ⟨m, hn.sameBut sb ?_, fun h3 sb3 => ⟨_, H', I2.turned (t' := s2.toks) (fun b o hb e => (sb3.2 b hb).trans e) f0 f1 f3 f4 f5, q⟩⟩) (.inr hyl))
    rcases ha with z | z
    · rw [z]; exact f1
    · exact fun e => f4 y a z e.symm
  refine wpAny_bind (wpAny_standAt (wpAny_bind (wpAny_bind (thn core fun _ s' hq => ?_))))
  exact wpAny_pure (wpAny_pure hq)⟩
theorem sw_trueD {kx vx : Expr} {gs : List Comprehension} {scope : Scope} {y : Str} {l : Nat} {env : Env} (hk : env.scope.kind = .function) (hy : env.scope.names.lookup y = some .local) (hl : (py.line == pos.line) = true)
    (ha : (scope.names.any fun (n, k) => n == y && (k == .local || k == .cell)) = false) : swapsWith (.DictComp kx vx gs scope pos) (some (.Name y py)) l env = pure true := by
  have ky : env.kindOf y = some .local := hy
  have hb : env.blockKind = .function := by unfold Env.blockKind; rw [hk]; rfl
  unfold swapsWith
  simp only [hb, ky, ha, Expr.pos, hl]
  rfl
theorem rd_asg {a : Ax} {i : Nat} {m : Mr Sl} {D : Ends} {σ : L2.St} {H : Hp} (h : rdS a (sAsg a.n i m) D σ H) : rdF a m σ H (fun x H1 => gName i x σ H1 D.nx) := by
  obtain ⟨env, F, r, q⟩ := h
  unfold sAsg at q
  cases h1 : m env with
  | none => rw [h1] at q; exact q.elim
  | some z =>
    obtain ⟨s, e1⟩ := z
    rw [h1] at q
    simp only [Option.bind_some] at q
    cases h2 : setSl a.n i s e1 with
    | none => rw [h2] at q; exact q.elim
    | some e2 =>
      rw [h2] at q
      exact ⟨env, F, s, e1, r, h1, fun v F' H' s' hn' r' => q _ F' H' s' (r'.store hn' h2)⟩
theorem ss_setLc {i : Nat} {y : Str} {elt tg iter : Expr} {ifs : List Expr} {scope : Scope} {own : List (Str × Nat)} {mi : Mr (List D)} {b : Bd} {ts : List Nat} {tt : Mr Bool} {me : Mr D} (hc : X.calm = true) (hN : X.N.Nodup) (hy : X.N[i]? = some y) (hyl : X.env.scope.names.lookup y = some .local)
    (hk : X.env.scope.kind = .function) (hl : (py.line == pos.line) = true) (hz : (scope.names.any fun (n, k) => n == y && (k == .local || k == .cell)) = false) (hi : SI X n tg iter mi) (ok : blkC X.N X.env.scope scope own = true) (hts : ∀ t ∈ ts, t ∈ own.map (·.2))
    (hg : ∀ (s : Shared) (H : Hp) (C : Addr) (cl : List (Str × Addr)) (fp : List Addr), SG (X.blk s H scope (compEnvC scope cl C X.env) fp) n tg b ts) (ht : ∀ (s : Shared) (H : Hp) (C : Addr) (cl : List (Str × Addr)) (fp : List Addr), STs (X.blk s H scope (compEnvC scope cl C X.env) fp) n ifs tt)
    (he : ∀ (s : Shared) (H : Hp) (C : Addr) (cl : List (Str × Addr)) (fp : List Addr), SE (X.blk s H scope (compEnvC scope cl C X.env) fp) n elt me) (hs : ∀ x, foldedSetIterable iter X.env x = pure x := by intro _; rfl) :
    SS X n (.Assign [.Name y py] (.ListComp elt [⟨tg, iter, ifs, 0⟩] scope pos) spos) (sAsg n i (mLc mi b (own.map (·.2)) tt me)) := ⟨fun a ha hn =>
  (ps_setLc (te := anyE X.mg n me) (g := anyG X.mg n b ts) (tt := anyT X.mg n tt) hc hN hy hyl (sw_true hk hyl hl hz) (hi.run a ha hn) (blkOk_by ok) (fun s H C cl fp => (hg s H C cl fp).any) (fun s H C cl fp => (ht s H C cl fp).any) (fun s H C cl fp => (he s H C cl fp).any) hs).w fun D σ H h => by
  rw [← hn] at h
  have z := rd_lc (X := X) ha hn hts (rd_asg h)
  exact z⟩
theorem ss_setDc {i : Nat} {y : Str} {kx vx tg iter : Expr} {ifs : List Expr} {scope : Scope} {own : List (Str × Nat)} {mi : Mr (List D)} {b : Bd} {ts : List Nat} {tt : Mr Bool} {mk mv : Mr D} (hc : X.calm = true) (hN : X.N.Nodup) (hy : X.N[i]? = some y) (hyl : X.env.scope.names.lookup y = some .local)
    (hkd : X.env.scope.kind = .function) (hl : (py.line == pos.line) = true) (hz : (scope.names.any fun (n, k) => n == y && (k == .local || k == .cell)) = false) (hi : SI X n tg iter mi) (ok : blkC X.N X.env.scope scope own = true) (hts : ∀ t ∈ ts, t ∈ own.map (·.2))
    (hg : ∀ (s : Shared) (H : Hp) (C : Addr) (cl : List (Str × Addr)) (fp : List Addr), SG (X.blk s H scope (compEnvC scope cl C X.env) fp) n tg b ts) (ht : ∀ (s : Shared) (H : Hp) (C : Addr) (cl : List (Str × Addr)) (fp : List Addr), STs (X.blk s H scope (compEnvC scope cl C X.env) fp) n ifs tt)
    (hk : ∀ (s : Shared) (H : Hp) (C : Addr) (cl : List (Str × Addr)) (fp : List Addr), SE (X.blk s H scope (compEnvC scope cl C X.env) fp) n kx mk)
    (he : ∀ (s : Shared) (H : Hp) (C : Addr) (cl : List (Str × Addr)) (fp : List Addr), SE (X.blk s H scope (compEnvC scope cl C X.env) fp) n vx mv) (hs : ∀ x, foldedSetIterable iter X.env x = pure x := by intro _; rfl) :
    SS X n (.Assign [.Name y py] (.DictComp kx vx [⟨tg, iter, ifs, 0⟩] scope pos) spos) (sAsg n i (mDc mi b (own.map (·.2)) tt mk mv)) := ⟨fun a ha hn =>
  (ps_setDc (tk := anyE X.mg n mk) (tv := anyE X.mg n mv) (g := anyG X.mg n b ts) (tt := anyT X.mg n tt) hc hN hy hyl (sw_trueD hkd hyl hl hz) (hi.run a ha hn) (blkOk_by ok) (fun s H C cl fp => (hg s H C cl fp).any) (fun s H C cl fp => (ht s H C cl fp).any) (fun s H C cl fp => (hk s H C cl fp).any) (fun s H C cl fp => (he s H C cl fp).any) hs).w fun D σ H h => by
  rw [← hn] at h
  have z := rd_dc (X := X) ha hn hts (rd_asg h)
  exact z⟩
theorem ss_setDol {i : Nat} {y : Str} {kx tg iter : Expr} {lp : Pos} {scope : Scope} {own : List (Str × Nat)} {mi : Mr (List D)} {b : Bd} {ts : List Nat} {mk : Mr D} (hc : X.calm = true) (hN : X.N.Nodup) (hy : X.N[i]? = some y) (hyl : X.env.scope.names.lookup y = some .local)
    (hkd : X.env.scope.kind = .function) (hl : (py.line == pos.line) = true) (hz : (scope.names.any fun (n, k) => n == y && (k == .local || k == .cell)) = false) (hi : SI X n tg iter mi) (ok : blkC X.N X.env.scope scope own = true) (hts : ∀ t ∈ ts, t ∈ own.map (·.2))
    (hg : ∀ (s : Shared) (H : Hp) (C : Addr) (cl : List (Str × Addr)) (fp : List Addr), SG (X.blk s H scope (compEnvC scope cl C X.env) fp) n tg b ts)
    (hk : ∀ (s : Shared) (H : Hp) (C : Addr) (cl : List (Str × Addr)) (fp : List Addr), SE (X.blk s H scope (compEnvC scope cl C X.env) fp) n kx mk) (hs : ∀ x, foldedSetIterable iter X.env x = pure x := by intro _; rfl) :
    SS X n (.Assign [.Name y py] (.DictComp kx (.List [] lp) [⟨tg, iter, [], 0⟩] scope pos) spos) (sAsg n i (mDol mi b (own.map (·.2)) mk)) := ⟨fun a ha hn =>
  (ps_setDc (vx := .List [] lp) (tk := anyE X.mg n mk) (tv := tLst tNil) (g := anyG X.mg n b ts) (tt := tYes) hc hN hy hyl (sw_trueD hkd hyl hl hz) (hi.run a ha hn) (blkOk_by ok) (fun s H C cl fp => (hg s H C cl fp).any) (fun s H C cl fp => pts_nil) (fun s H C cl fp => (hk s H C cl fp).any) (fun s H C cl fp => pe_lst pa_nil) hs).w fun D σ H h => by
  rw [← hn] at h
  have z := rd_dol (X := X) ha hn hts (rd_asg h)
  exact z⟩
end
end HU
set_option maxRecDepth 100000
namespace HU
open PySem PySem.Spec L2
/-! ### the law's first statement -/
def spStream (K : PySem.W.Frag) : Sp := fun vs H Q _ => ∃ (a : Addr) (ys : List V), vs = [.ref a] ∧ SqL K H a ys ∧ ∀ c, H c = none → ∀ p, upd H c (.lst ys) p = none → Q (.ref p) (upd (upd H c (.lst ys)) p (.lst [.ref c, .int 0, .int 0, .int 19]))
theorem ok_streamG {P : Program} {w : World} {K : PySem.W.Frag} {mg : Str → Option Value} {base : Heap} {x qual : Str} {st : Stmt} {f : Addr} {fd : FuncData} (F : Fun K x qual st f fd) (S : FnScope ["script"] ["script"] (defScope st))
    (h : ∀ (cdv : Value) (A : Around) (outer : List Env) (s : Shared) (H : Hp) (E : XK), PSs (cxOf CX0 P w K mg base ["script"] qual (defScope st) f cdv A outer s H E).nox (defBody st)
      (fun D σ H => ∃ (a : Addr) (ys : List V), σ[0]? = some (some (.ref a)) ∧ SqL K H a ys ∧ ∀ c, H c = none → ∀ p, upd H c (.lst ys) p = none → D.rt (.ref p) (upd (upd H c (.lst ys)) p (.lst [.ref c, .int 0, .int 0, .int 19])))) :
    FnOk P w K mg base CX0 1 f fd ["script"] (spStream K) := by
  refine F.ok S (fun vs H Q E h => ?_) (fun cdv A outer s H vs Q E hr hsp => ⟨_, h cdv A outer s H E, ?_⟩)
  · obtain ⟨a, ys, rfl, _⟩ := h; rfl
  · obtain ⟨a, ys, rfl, hs, q⟩ := hsp
    exact ⟨a, ys, rfl, hs, q⟩
section
variable {X : Cx} {e : Expr} {x : Str} {pos p q1 q2 q3 q4 : Pos} {j1 j2 j3 : Nat}
theorem ps_stream {pos2 : Pos} (ho : PE X e (tVar 0)) (hm : X.mg x = none) (hv : bootBuiltins x = some (.type "list")) (hg : Gl X x := by rfl) (he : starEach [e] X.env = (false, eval e X.env) :: starEach [] X.env := by rfl)
    (hn : x ≠ "__name__" := by decide) (hdb : (x == ("__debug__" : Str)) = false := by decide) (hpl : (backTo q1 (starEach [] X.env)).any (·.1) = false := by rfl)
    (h1 : starEach [.Call (.Name x p) [e] [] q1, .Constant (.int 0) j1 q2, .Constant (.int 0) j2 q3, .Constant (.int 19) j3 q4] X.env = (false, eval (.Call (.Name x p) [e] [] q1) X.env) :: starEach [.Constant (.int 0) j1 q2, .Constant (.int 0) j2 q3, .Constant (.int 19) j3 q4] X.env := by rfl) :
    PS X (.Return (some (.List [.Call (.Name x p) [e] [] q1, .Constant (.int 0) j1 q2, .Constant (.int 0) j2 q3, .Constant (.int 19) j3 q4] pos)) pos2)
      (fun D σ H => ∃ (a : Addr) (ys : List V), σ[0]? = some (some (.ref a)) ∧ SqL X.K H a ys ∧ ∀ c, H c = none → ∀ p, upd H c (.lst ys) p = none → D.rt (.ref p) (upd (upd H c (.lst ys)) p (.lst [.ref c, .int 0, .int 0, .int 19]))) :=
  (ps_ret (pe_lst (pa_cons (pe_callTy call_list_of hg hm hv (pa_cons ho pa_nil he) hn hdb he hpl) (pa_cons pe_int (pa_cons pe_int (pa_cons pe_int pa_nil))) h1))).w fun D σ H ⟨a, ys, e1, hs, q⟩ =>
    ⟨_, e1, a, ys, rfl, .inl hs, fun c hc => ⟨by show 4 ≤ sizeLine; decide, fun p hp => q c hc p hp⟩⟩
end
def spLawG (K : PySem.W.Frag) (i k : Nat) (m : Ms) : Sp := fun vs H Q _ => ∃ (a : Addr) (ns : List Int) (e' : List Sl), vs = [.ref a] ∧ SqL K H a (ns.map V.int) ∧ m ((List.replicate k Sl.none).set i (.stm (.s ns 0 0 19))) = some (.ret (.val (.bl true)) e') ∧ ∀ H', Q (.bl true) H'
theorem ok_lawG {P : Program} {w : World} {K : PySem.W.Frag} {mg : Str → Option Value} {base : Heap} {x qual : Str} {st : Stmt} {f : Addr} {fd : FuncData} {N : List Str} {k i : Nat} {s1 : Stmt} {rest : List Stmt} {m : Ms} (F : Fun K x qual st f fd) (S : FnScope N ["script"] (defScope st))
    (hb : defBody st = s1 :: rest) (hi : 1 ≤ i) (hi2 : i < N.length)
    (h : ∀ (cdv : Value) (A : Around) (outer : List Env) (s : Shared) (H : Hp) (E : XK), Room k (A.deeper (PyProof.Rows.envOfC qual (defScope st) s.heap.objs.size f cdv)) →
      PS (cxOf CX0 P w K mg base N qual (defScope st) f cdv A outer s H E).nox s1 (tAsg (tCall (spStream K) [] E0 (tCons (tVar 0) tNil)) (gName i)) ∧ SSs (cxOf CX0 P w K mg base N qual (defScope st) f cdv A outer s H E).nox 1 rest m) :
    FnOk P w K mg base CX0 (k + 1) f fd ["script"] (spLawG K i N.length m) := by
  refine F.ok S (fun vs H Q E h => ?_) (fun cdv A outer s H vs Q E hr hsp => ?_)
  · obtain ⟨a, ns, e', rfl, _⟩ := h; rfl
  · obtain ⟨a, ns, e', rfl, hs, hm, q⟩ := hsp
    obtain ⟨h1, h2⟩ := h cdv A outer s H E hr
    have h3 := h2.run ⟨mg, 1, fun _ => none, fun _ => none, H, [.ref a], fun _ => none⟩ rfl rfl
    refine ⟨_, by rw [hb]; exact pss_cons h1 h3, ?_⟩
    have e0 : L2.start N [.ref a] = some (.ref a) :: List.replicate (N.length - 1) none := rfl
    rw [e0]
    refine ⟨.ref a, rfl, a, ns.map V.int, rfl, hs, fun c hc p hp => ?_⟩
    have pc : p ≠ c := by rintro rfl; rw [upd_same] at hp; cases hp
    rw [upd_ne pc] at hp
    refine ⟨(List.replicate N.length Sl.none).set i (.stm (.s ns 0 0 19)), fun _ => none, ⟨fun j => if j = i then [p, c] else [], ⟨by simp; omega, by simp; omega, (fun _ _ z => nomatch z), (fun _ _ z => nomatch z), (fun _ _ z => nomatch z), (fun _ _ z => nomatch z), fun y hy => ?_, fun j t ej => ?_, fun j hj => ?_, fun j l y hj hl => ?_, fun j => ?_, fun j y hy => ?_, (fun _ _ z => nomatch z), (fun _ _ z => nomatch z), (fun _ _ _ => rfl), fun j t v hj ej ow ev => ?_⟩⟩, ?_⟩
    · by_cases z : y = p
      · rw [z]; exact hp
      · by_cases z2 : y = c
        · rw [z2]; exact hc
        · rw [upd_ne z, upd_ne z2] at hy; exact hy
    · by_cases z : j = i
      · subst z
        rw [List.getElem?_set_self (by simp; exact hi2)] at ej
        cases ej
        simp only [if_true]
        refine ⟨p, ?_, c, rfl, upd_same, by rw [upd_ne (Ne.symm pc)]; exact upd_same⟩
        rw [List.getElem?_set_self (by simp; omega)]; rfl
      · rw [List.getElem?_set_ne (Ne.symm z), List.getElem?_replicate] at ej
        split at ej
        · cases ej; simp only [z, if_false]; rfl
        · cases ej
    · simp at hj
      have : j ≠ i := by omega
      simp [this]
    · by_cases z : j = i
      · by_cases z2 : l = i
        · rw [z, z2]
        · simp [z2] at hl
      · simp [z] at hj
    · by_cases z : j = i
      · simp [z, pc]
      · simp [z]
    · by_cases z : j = i
      · simp only [z, if_true, List.mem_cons, List.not_mem_nil, or_false] at hy
        refine ⟨rfl, rfl, fun _ => ?_⟩
        rcases hy with rfl | rfl
        · exact hp
        · exact hc
      · simp [z] at hy
    · have z : j ≠ i := by have : j < 1 := hj; omega
      rw [List.getElem?_set_ne (Ne.symm z), List.getElem?_replicate] at ej
      split at ej
      · cases ej; cases ow
      · cases ej
    · rw [hm]
      intro v σ' F' H' s' hn r'
      obtain ⟨ow, r'⟩ := r'
      have hl : e'.length = σ'.length := by have := r'.ln; simpa using this
      have q2 := r'.sl e'.length (.val (.bl true)) get_snoc
      rw [hl, get_snoc] at q2
      obtain ⟨_, v', e1, rp⟩ := q2
      cases e1; cases rp
      exact q H'
end HU
set_option maxRecDepth 100000
namespace HU
open PySem PySem.Spec L2
/-! ### the head's facts, those that isinstance asks among them -/
def insB (K : PySem.W.Frag) (c : Str) : Bool :=
  (He.Fa.cls c).ok K && (He.eqO (PySem.W.findIn K (.ref (He.ga K c)) "__class__") (some (some (.builtin "object.__class__"))) && (decide (PySem.W.specialIn K (.builtin "object.__class__") "__get__" = some (some (.builtin "getset_descriptor.__get__"))) &&
    (decide (PySem.W.takesIn K (.builtin "object.__class__") = some true) && (decide (PySem.W.mroIn K (He.ga K c) (.type "object") = some true) && ((knownT.all fun x => decide (PySem.W.kitOne K (.ref (He.ga K c)) (.type x) = some false)) &&
      (("NoneType" :: knownT).all fun x => decide (PySem.W.kitOne K (.type x) (.ref (He.ga K c)) = some false)))))))
theorem insB_ok {K : PySem.W.Frag} {mg : Str → Option Value} (h : insB K "Web" = true) (g : mg "Web" = some (.ref (He.ga K "Web"))) : InsF K mg := by
  unfold insB at h
  obtain ⟨h1, h⟩ := He.ba h
  obtain ⟨h2, h⟩ := He.ba h
  obtain ⟨h3, h⟩ := He.ba h
  obtain ⟨h4, h⟩ := He.ba h
  obtain ⟨h5, h⟩ := He.ba h
  obtain ⟨h6, h7⟩ := He.ba h
  have at_ : ∀ c C, mg c = some (.ref C) → c = "Web" → C = He.ga K "Web" := fun c C e e2 => by subst e2; rw [g] at e; cases e; rfl
  refine ⟨fun c C e e2 => ?_, fun c C e e2 x hx => ?_, fun c C e e2 x hx => ?_⟩
  · rw [at_ c C e e2]
    exact ⟨He.cls_ok h1, He.eqO_ok h2, of_decide_eq_true h3, of_decide_eq_true h4, of_decide_eq_true h5⟩
  · rw [at_ c C e e2]; exact of_decide_eq_true (List.all_eq_true.mp h6 x hx)
  · rw [at_ c C e e2]; exact of_decide_eq_true (List.all_eq_true.mp h7 x hx)
/-- what is observed: the defs, the named facts, the facts of these classes -/
def obsI (fa : List He.Fa) (fn : List He.DefD) (cs : List Str) (K : PySem.W.Frag) : He.AlD × Bool := (He.obsD fa fn K, cs.all (insB K))
def obsIG (n : Nat) (fa : List He.Fa) (fn : List He.DefD) (cs : List Str) (g : Addr → Option Obj) : He.AlD × Bool := obsI fa fn cs (He.frG g (He.asD g n))
def hookI (n : Nat) (fa : List He.Fa) (fn : List He.DefD) (cs : List Str) : PySem.W.Hook where
  α := He.AlD × Bool
  obs := fun s => obsIG n fa fn cs s.heap.get?
  val := fun _ => (He.valD fn, true)
  says := fun _ h => ∃ K : PySem.W.Frag, K.In h ∧ He.SaysD fa fn K ∧ cs.all (insB K) = true
  of := fun _ _ e => ⟨_, He.frG_in, congrArg Prod.fst e, congrArg Prod.snd e⟩
  keeps := fun _ _ _ ⟨K, hK, c⟩ k => ⟨K, PySem.W.Frag.In.keeps hK k, c⟩
theorem obsIG_eq {n : Nat} {fa : List He.Fa} {fn : List He.DefD} {cs : List Str} {g : Addr → Option Obj} {s : Shared} (h : ∀ a, g a = s.heap.get? a) : obsIG n fa fn cs g = (hookI n fa fn cs).obs s := by
  have e : g = s.heap.get? := funext h
  rw [e] <;> rfl
/-- how it binds, at every heap -/
theorem fun_bindsA {K : PySem.W.Frag} {x qual : Str} {st : Stmt} {f : Addr} {fd : FuncData} {ps : List Str} (F : Fun K x qual st f fd)
    (h : ∀ (kV doc pm : Value) (an : Option Addr) (cdv ct : Value) (us : List Value), us.length = ps.length → bindArgs (PySem.W.fnOf x qual (defArgs st) (defBody st) (defScope st) .none kV doc pm an cdv ct) ⟨us, []⟩ = pure (ps.zip us)) (s : Shared) (us : List Value) (hl : us.length = ps.length) : BindsTo s fd ⟨us, []⟩ (ps.zip us) := by
  obtain ⟨oc, od, kV, doc, pm, an, cdv, ct, osl, rfl, _, _⟩ := F.ex
  exact .of_eq (h kV doc pm an cdv ct us hl)
/-- no defaults: a def as the engine takes it -/
theorem fun_of {K : PySem.W.Frag} {x qual : Str} {st : Stmt} {kws : List (Str × V)} {f : Addr} {fd : FuncData} (F : FunD K x qual (defArgs st) (defBody st) (defScope st) [] kws f fd) : Fun K x qual st f fd := by
  obtain ⟨oc, od, dV, kV, doc, pm, an, cdv, ct, osl, e, lk, hc, hD, _⟩ := F.ex
  rcases hD with ⟨_, rfl⟩ | ⟨e2, _⟩
  · exact ⟨⟨oc, od, kV, doc, pm, an, cdv, ct, osl, e, lk, hc⟩, F.kp⟩
  · exact absurd rfl e2
end HU
set_option maxRecDepth 100000
namespace HU
open PySem PySem.Spec L2
/-! ### the draws in plain -/
def mDraw : Fn := runB 3
    (sSeq (sStmSet 0 2 (mFz (mOp2 addD (mStmIx 0 2) vE (mRet (.int 1)) vE)))
    (sSeq (whileL (mAnd (mTr (mOp2 eqD (mStmIx 0 1) vE (mRet (.int 0)) vE)) (mTr (mStmMore 0)) false) (sSeq (sAsg 2 3 (mVal (mOp1 absD (mStmPop 0) vE)))
    (sSeq (sStmSet 0 3 (mOp2 modD (mOp1 intD (mFz (mOp2 addD (mFz (mOp2 addD (mFz (mOp2 mulD (mStmIx 0 3) vE (mRet (.int 6151)) vE)) vE (pN 3) (vN 3))) vE (mRet (.int 7)) vE)) vE) vE (mRet (.int 2147483629)) vE))
    (sSeq (sStmSet 0 1 (mIf (mTr (mOp2 geD (pN 3) (vN 3) (mOp2 powD (mRet (.int 10)) vE (mRet (.int 18)) vE) vE)) (mNm 3) (mRet (.int 0))))
    sNext))) fuel)
    (sSeq (sIf (mTr (mOp2 gtD (mStmIx 0 1) vE (mRet (.int 0)) vE)) (sSeq (sAsg 2 4 (mVal (mOp2 modD (mOp1 intD (mStmIx 0 1) vE) vE (pN 1) (vN 1))))
    (sSeq (sStmSet 0 1 (mOp2 fdivD (mStmIx 0 1) vE (pN 1) (vN 1)))
    (sSeq (sRet (mVal (mNm 4)))
    sNext))) sNext)
    (sSeq (sAsg 2 2 (mVal (mOp2 modD (mOp1 intD (mOp2 powD (mFz (mOp2 addD (mFz (mOp2 addD (mStmIx 0 3) vE (mFz (mOp2 mulD (mRet (.int 8191)) vE (mStmIx 0 2) vE)) vE)) vE (mRet (.int 50021)) vE)) vE (mRet (.int 5)) vE) vE) vE (mRet (.int 2147483587)) vE)))
    (sSeq (sRet (mVal (mOp2 modD (mOp2 modD (mOp1 intD (mOp2 powD (mFz (mOp2 addD (mFz (mOp2 addD (mFz (mOp2 mulD (pN 2) (vN 2) (mRet (.int 40009)) vE)) vE (mFz (mOp2 mulD (mRet (.int 20011)) vE (mStmIx 0 2) vE)) vE)) vE (mRet (.int 31)) vE)) vE (mRet (.int 3)) vE) vE) vE (mRet (.int 1000000009)) vE) vE (pN 1) (vN 1))))
    sNext)))))

def absI (c : Int) : Int := if c < 0 then -c else c
/-- the loop's parts -/
def drawC : Mr Bool := mAnd (mTr (mOp2 eqD (mStmIx 0 1) vE (mRet (.int 0)) vE)) (mTr (mStmMore 0)) false
def drawB : Ms := sSeq (sAsg 2 3 (mVal (mOp1 absD (mStmPop 0) vE)))
    (sSeq (sStmSet 0 3 (mOp2 modD (mOp1 intD (mFz (mOp2 addD (mFz (mOp2 addD (mFz (mOp2 mulD (mStmIx 0 3) vE (mRet (.int 6151)) vE)) vE (pN 3) (vN 3))) vE (mRet (.int 7)) vE)) vE) vE (mRet (.int 2147483629)) vE))
    (sSeq (sStmSet 0 1 (mIf (mTr (mOp2 geD (pN 3) (vN 3) (mOp2 powD (mRet (.int 10)) vE (mRet (.int 18)) vE) vE)) (mNm 3) (mRet (.int 0))))
    sNext))
theorem log2_lt {i : Int} {k : Nat} (h : i.natAbs < 2 ^ k) (hk : 0 < k) : i.natAbs.log2 < k := by
  by_cases z : i.natAbs = 0
  · rw [z]; simpa using hk
  · exact (Nat.log2_lt z).mpr h
theorem mul_ok {i j : Int} (h1 : i.natAbs < 2 ^ 100) (h2 : j.natAbs < 2 ^ 100) : mulD (.int i) (.int j) = some (.val (.int (i * j))) := by
  have a := log2_lt h1 (by decide)
  have b := log2_lt h2 (by decide)
  show (if i.natAbs.log2 + j.natAbs.log2 < 1000000 then some (Sl.val (.int (i * j))) else none) = _
  rw [if_pos (by omega)]
theorem drawB_ok {c : Int} {cs : List Int} {b n m many : Int} {X : Sl} (hm : 0 ≤ m ∧ m < 2147483629) (hX : X.own = false) :
    drawB [.stm (.s (c :: cs) b n m), .val (.int many), .none, X, .none] = some (.next [.stm (.s cs (if 1000000000000000000 ≤ absI c then absI c else 0) n ((m * 6151 + absI c + 7).fmod 2147483629)), .val (.int many), .none, .val (.int (absI c)), .none]) := by
  have hmul : mulD (.int m) (.int 6151) = some (.val (.int (m * 6151))) := mul_ok (by omega) (by decide)
  have habs : absD (.int c) = some (.int (absI c)) := rfl
  have hmod : modD (.int (m * 6151 + absI c + 7)) (.int 2147483629) = some (.int ((m * 6151 + absI c + 7).fmod 2147483629)) := rfl
  have hpow : powD (.int 10) (.int 18) = some (.int 1000000000000000000) := rfl
  have hge : geD (.int (absI c)) (.int 1000000000000000000) = some (.bl (decide ((1000000000000000000 : Int) ≤ absI c))) := rfl
  have hadd : ∀ i j : Int, addD (.int i) (.int j) = some (.val (.int (i + j))) := fun _ _ => rfl
  have hint : ∀ i : Int, intD (.int i) = some (.int i) := fun _ => rfl
  by_cases hc : 1000000000000000000 ≤ absI c
  · have hg : (decide ((1000000000000000000 : Int) ≤ absI c)) = true := decide_eq_true hc
    rw [hg] at hge
    rw [if_pos hc]
    simp [drawB, sSeq, sAsg, sStmSet, sOf, stmAt, mStmIx, mStmPop, fld3, mFz, mVal, mRet, mBnd, mTr, mIf, mOp1, mOp2, vE, pN, vN, Sl.see, Sl.data, mNm, setSl, sNext, habs, hmul, hmod, hpow, hge, hadd, hint, hX, Sl.own]
  · have hg : (decide ((1000000000000000000 : Int) ≤ absI c)) = false := decide_eq_false hc
    rw [hg] at hge
    rw [if_neg hc]
    simp [drawB, sSeq, sAsg, sStmSet, sOf, stmAt, mStmIx, mStmPop, fld3, mFz, mVal, mRet, mBnd, mTr, mIf, mOp1, mOp2, vE, pN, vN, Sl.see, Sl.data, mNm, setSl, sNext, habs, hmul, hmod, hpow, hge, hadd, hint, hX, Sl.own]
theorem drawC_ok {cs : List Int} {b n m : Int} {e1 e2 e3 e4 : Sl} : drawC [.stm (.s cs b n m), e1, e2, e3, e4] = some (decide (b = 0) && !cs.isEmpty, [.stm (.s cs b n m), e1, e2, e3, e4]) := by
  have heq : eqD (.int b) (.int 0) = some (.bl (decide (b = 0))) := rfl
  by_cases hb : b = 0
  · subst hb
    have heq : eqD (.int 0) (.int 0) = some (.bl true) := rfl
    simp [drawC, mAnd, mTr, mOp2, mStmIx, stmAt, fld3, vE, mRet, mStmMore, mBnd, heq]
  · have : decide (b = 0) = false := decide_eq_false hb
    rw [this] at heq
    simp [drawC, mAnd, mTr, mOp2, mStmIx, stmAt, fld3, vE, mRet, mStmMore, mBnd, heq, hb]
/-- the stream in order, with room for k draws more -/
structure GS (cs : List Int) (b n m : Int) (k : Nat) : Prop where
  len : cs.length < 1000
  b0 : 0 ≤ b
  n0 : 0 ≤ n
  nk : n + k ≤ 1000000000000
  m0 : 0 ≤ m
  m1 : m < 2147483629
theorem absI_nn (c : Int) : 0 ≤ absI c := by unfold absI; split <;> omega
theorem drawL_ok {many n : Int} : ∀ (cs : List Int) (b m : Int) (X : Sl) (f : Nat), X.own = false → 0 ≤ b → 0 ≤ m → m < 2147483629 → cs.length < f →
    ∃ cs' b' m' X', whileL drawC drawB f [.stm (.s cs b n m), .val (.int many), .none, X, .none] = some (.next [.stm (.s cs' b' n m'), .val (.int many), .none, X', .none]) ∧ cs'.length ≤ cs.length ∧ 0 ≤ b' ∧ 0 ≤ m' ∧ m' < 2147483629 ∧ X'.own = false
  | cs, b, m, X, 0, _, _, _, _, h => absurd h (Nat.not_lt_zero _)
  | [], b, m, X, f + 1, hX, hb, h0, h1, _ => by
    refine ⟨[], b, m, X, ?_, Nat.le_refl _, hb, h0, h1, hX⟩
    unfold whileL
    rw [drawC_ok]
    simp
  | c :: cs, b, m, X, f + 1, hX, hb, h0, h1, hl => by
    unfold whileL
    rw [drawC_ok]
    by_cases z : b = 0
    · have e : (decide (b = 0) && !(c :: cs).isEmpty) = true := by simp [z]
      rw [e]
      simp only [Option.bind_some, if_true]
      rw [drawB_ok ⟨h0, h1⟩ hX]
      have nn := absI_nn c
      have f1 : 0 ≤ (m * 6151 + absI c + 7).fmod 2147483629 := Int.fmod_nonneg_of_pos _ (by decide)
      have f2 : (m * 6151 + absI c + 7).fmod 2147483629 < 2147483629 := Int.fmod_lt_of_pos _ (by decide)
      obtain ⟨cs', b', m', X', g1, g2, g3, g4, g5, g6⟩ := drawL_ok (many := many) (n := n) cs (if 1000000000000000000 ≤ absI c then absI c else 0) ((m * 6151 + absI c + 7).fmod 2147483629) (.val (.int (absI c))) f rfl (by split <;> omega) f1 f2 (by simpa using hl)
      exact ⟨cs', b', m', X', g1, by simp; omega, g3, g4, g5, g6⟩
    · have e : (decide (b = 0) && !(c :: cs).isEmpty) = false := by simp [z]
      rw [e]
      exact ⟨c :: cs, b, m, X, by simp, Nat.le_refl _, hb, h0, h1, hX⟩
/-- behind the loop -/
def drawE : Ms := sSeq (sIf (mTr (mOp2 gtD (mStmIx 0 1) vE (mRet (.int 0)) vE)) (sSeq (sAsg 2 4 (mVal (mOp2 modD (mOp1 intD (mStmIx 0 1) vE) vE (pN 1) (vN 1))))
    (sSeq (sStmSet 0 1 (mOp2 fdivD (mStmIx 0 1) vE (pN 1) (vN 1)))
    (sSeq (sRet (mVal (mNm 4)))
    sNext))) sNext)
    (sSeq (sAsg 2 2 (mVal (mOp2 modD (mOp1 intD (mOp2 powD (mFz (mOp2 addD (mFz (mOp2 addD (mStmIx 0 3) vE (mFz (mOp2 mulD (mRet (.int 8191)) vE (mStmIx 0 2) vE)) vE)) vE (mRet (.int 50021)) vE)) vE (mRet (.int 5)) vE) vE) vE (mRet (.int 2147483587)) vE)))
    (sSeq (sRet (mVal (mOp2 modD (mOp2 modD (mOp1 intD (mOp2 powD (mFz (mOp2 addD (mFz (mOp2 addD (mFz (mOp2 mulD (pN 2) (vN 2) (mRet (.int 40009)) vE)) vE (mFz (mOp2 mulD (mRet (.int 20011)) vE (mStmIx 0 2) vE)) vE)) vE (mRet (.int 31)) vE)) vE (mRet (.int 3)) vE) vE) vE (mRet (.int 1000000009)) vE) vE (pN 1) (vN 1))))
    sNext))
theorem drawE_ok {cs : List Int} {b n m many : Int} {X : Sl} (hX : X.own = false) (hb : 0 ≤ b) (hn : 0 ≤ n) (hn1 : n ≤ 1000000000000) (h0 : 0 ≤ m) (h1 : m < 2147483629) (hm : 0 < many) (hm1 : many < 1000000) :
    ∃ d b' e2 e4, drawE [.stm (.s cs b n m), .val (.int many), .none, X, .none] = some (.ret (.val (.int d)) [.stm (.s cs b' n m), .val (.int many), e2, X, e4]) ∧ 0 ≤ d ∧ d < many ∧ 0 ≤ b' := by
  have hadd : ∀ i j : Int, addD (.int i) (.int j) = some (.val (.int (i + j))) := fun _ _ => rfl
  have hint : ∀ i : Int, intD (.int i) = some (.int i) := fun _ => rfl
  have hmodm : ∀ i : Int, modD (.int i) (.int many) = some (.int (i.fmod many)) := fun i => by
    show (if (decide (many ≠ 0)) = true then some (D.int (i.fmod many)) else none) = _
    rw [if_pos (by simp; omega)]
  have hdivm : ∀ i : Int, fdivD (.int i) (.int many) = some (.int (i.fdiv many)) := fun i => by
    show (if (decide (many ≠ 0 ∧ many.natAbs < 1073741824)) = true then some (D.int (i.fdiv many)) else none) = _
    rw [if_pos (by simp; omega)]
  have hgt : gtD (.int b) (.int 0) = some (.bl (decide (0 < b))) := rfl
  by_cases z : 0 < b
  · have e : decide (0 < b) = true := decide_eq_true z
    rw [e] at hgt
    refine ⟨b.fmod many, b.fdiv many, .none, .val (.int (b.fmod many)), ?_, Int.fmod_nonneg_of_pos _ hm, Int.fmod_lt_of_pos _ hm, Int.fdiv_nonneg hb (Int.le_of_lt hm)⟩
    simp [drawE, sSeq, sIf, sAsg, sRet, sStmSet, sOf, stmAt, mStmIx, fld3, mFz, mVal, mRet, mBnd, mTr, mIf, mOp1, mOp2, vE, pN, vN, Sl.see, Sl.data, mNm, setSl, sNext, hadd, hint, hmodm, hdivm, hgt, Sl.own]
  · have e : decide (0 < b) = false := decide_eq_false z
    rw [e] at hgt
    have k1 : mulD (.int 8191) (.int n) = some (.val (.int (8191 * n))) := mul_ok (by decide) (by omega)
    have k2 : powD (.int (m + 8191 * n + 50021)) (.int 5) = some (.int ((m + 8191 * n + 50021) ^ 5)) := by
      show (if decide ((0:Int) ≤ 5 ∧ (5:Int) ≤ 1000000 ∧ (m + 8191 * n + 50021).natAbs < 2 ^ 64) = true then some (D.int ((m + 8191 * n + 50021) ^ (5:Int).toNat)) else none) = _
      rw [if_pos (decide_eq_true ⟨by decide, by decide, by omega⟩)]; rfl
    have k3 : modD (.int ((m + 8191 * n + 50021) ^ 5)) (.int 2147483587) = some (.int (((m + 8191 * n + 50021) ^ 5).fmod 2147483587)) := rfl
    generalize hw : ((m + 8191 * n + 50021) ^ 5).fmod 2147483587 = w at k3
    have w0 : 0 ≤ w := by rw [← hw]; exact Int.fmod_nonneg_of_pos _ (by decide)
    have w1 : w < 2147483587 := by rw [← hw]; exact Int.fmod_lt_of_pos _ (by decide)
    have k4 : mulD (.int w) (.int 40009) = some (.val (.int (w * 40009))) := mul_ok (by omega) (by decide)
    have k5 : mulD (.int 20011) (.int n) = some (.val (.int (20011 * n))) := mul_ok (by decide) (by omega)
    have k6 : powD (.int (w * 40009 + 20011 * n + 31)) (.int 3) = some (.int ((w * 40009 + 20011 * n + 31) ^ 3)) := by
      show (if decide ((0:Int) ≤ 3 ∧ (3:Int) ≤ 1000000 ∧ (w * 40009 + 20011 * n + 31).natAbs < 2 ^ 64) = true then some (D.int ((w * 40009 + 20011 * n + 31) ^ (3:Int).toNat)) else none) = _
      rw [if_pos (decide_eq_true ⟨by decide, by decide, by omega⟩)]; rfl
    have k7 : ∀ i : Int, modD (.int i) (.int 1000000009) = some (.int (i.fmod 1000000009)) := fun _ => rfl
    refine ⟨((((w * 40009 + 20011 * n + 31) ^ 3).fmod 1000000009).fmod many), b, .val (.int w), .none, ?_, Int.fmod_nonneg_of_pos _ hm, Int.fmod_lt_of_pos _ hm, hb⟩
    simp [drawE, sSeq, sIf, sAsg, sRet, sStmSet, sOf, stmAt, mStmIx, fld3, mFz, mVal, mRet, mBnd, mTr, mIf, mOp1, mOp2, vE, pN, vN, Sl.see, Sl.data, mNm, setSl, sNext, hadd, hint, hmodm, hgt, k1, k2, k3, k4, k5, k6, k7, Sl.own]
/-- one draw: a number below many; the stream has room for one less -/
theorem mDraw_ok {cs : List Int} {b n m many : Int} {k : Nat} (g : GS cs b n m (k + 1)) (hm : 0 < many) (hm1 : many < 1000000) :
    ∃ d cs' b' n' m', mDraw [.stm (.s cs b n m), .val (.int many)] = some (.val (.int d), [.stm (.s cs' b' n' m'), .none]) ∧ 0 ≤ d ∧ d < many ∧ GS cs' b' n' m' k := by
  have e0 : sStmSet 0 2 (mFz (mOp2 addD (mStmIx 0 2) vE (mRet (.int 1)) vE)) [.stm (.s cs b n m), .val (.int many), .none, .none, .none] = some (.next [.stm (.s cs b (n + 1) m), .val (.int many), .none, .none, .none]) := rfl
  have gk := g.nk
  obtain ⟨cs', b', m', X', l1, l2, l3, l4, l5, l6⟩ := drawL_ok (many := many) (n := n + 1) cs b m .none fuel rfl g.b0 g.m0 g.m1 (Nat.lt_of_lt_of_le g.len (by decide))
  obtain ⟨d, b2, e2, e4, d1, d2, d3, d4⟩ := drawE_ok (cs := cs') (b := b') (n := n + 1) (m := m') (many := many) (X := X') l6 l3 (by have := g.n0; omega) (by omega) l4 l5 hm hm1
  refine ⟨d, cs', b2, n + 1, m', ?_, d2, d3, ⟨Nat.lt_of_le_of_lt l2 g.len, d4, by have := g.n0; omega, by omega, l4, l5⟩⟩
  show runB 3 (sSeq (sStmSet 0 2 (mFz (mOp2 addD (mStmIx 0 2) vE (mRet (.int 1)) vE))) (sSeq (whileL drawC drawB fuel) drawE)) [.stm (.s cs b n m), .val (.int many)] = _
  unfold runB
  have e1 : ([.stm (.s cs b n m), .val (.int many)] : List Sl) ++ List.replicate 3 Sl.none = [.stm (.s cs b n m), .val (.int many), .none, .none, .none] := rfl
  rw [e1]
  have e5 : sSeq (sStmSet 0 2 (mFz (mOp2 addD (mStmIx 0 2) vE (mRet (.int 1)) vE))) (sSeq (whileL drawC drawB fuel) drawE) [.stm (.s cs b n m), .val (.int many), .none, .none, .none] = some (.ret (.val (.int d)) [.stm (.s cs' b2 (n + 1) m'), .val (.int many), e2, X', e4]) := by
    unfold sSeq
    rw [e0]
    show (match whileL drawC drawB fuel _ with | some (.next e) => drawE e | o => o) = _
    rw [l1]
    exact d1
  rw [e5]
  rfl
end HU
set_option maxRecDepth 100000
namespace HU
open PySem PySem.Spec L2
/-! ### draws within a def -/
def GSt : Stm → Nat → Prop
  | .s cs b n m, k => GS cs b n m k
  | .dol _, _ => False
theorem GS.le {cs : List Int} {b n m : Int} {k j : Nat} (g : GS cs b n m k) (h : j ≤ k) : GS cs b n m j := ⟨g.len, g.b0, g.n0, by have := g.nk; omega, g.m0, g.m1⟩
theorem GSt.le {S : Stm} {k j : Nat} (g : GSt S k) (h : j ≤ k) : GSt S j := by
  cases S with
  | s cs b n m => exact GS.le g h
  | dol kvs => exact g.elim
/-- f(stream, v): the stream handed on, it comes back otherwise -/
theorem call2 {f : Fn} {env : List Sl} {i : Nat} {S S' : Stm} {mm : Mr D} {d : D} {r s2 : Sl} (h0 : env[i]? = some (.stm S)) (h1 : mm env = some (d, env)) (hf : f [.stm S, .val d] = some (r, [.stm S', s2])) (hr : r.res = true) :
    mCallN 2 f (aCons (aRf i) (aCons (aVal mm) aNil)) env = some (r, env.set i (.stm S')) := by
  have a1 : aCons (aRf i) (aCons (aVal mm) aNil) env = some ([.rf i, .v d], env) := by
    simp [aCons, aRf, aVal, aNil, mBnd, mRet, h0, h1, Sl.own]
  unfold mCallN
  rw [a1]
  simp [callOf, agOk, rfs, slsOf, Ag.sl, h0, hf, hr, back, Sl.own, Sl.keep]
theorem call2_draw {env : List Sl} {i : Nat} {S : Stm} {k : Nat} {mm : Mr D} {many : Int} (h0 : env[i]? = some (.stm S)) (g : GSt S (k + 1)) (h1 : mm env = some (.int many, env)) (hm : 0 < many) (hm1 : many < 1000000) :
    ∃ d S', mFz (mCallN 2 mDraw (aCons (aRf i) (aCons (aVal mm) aNil))) env = some (.int d, env.set i (.stm S')) ∧ 0 ≤ d ∧ d < many ∧ GSt S' k := by
  cases S with
  | dol kvs => exact g.elim
  | s cs b n m =>
    obtain ⟨d, cs', b', n', m', e1, e2, e3, e4⟩ := mDraw_ok g hm hm1
    refine ⟨d, .s cs' b' n' m', ?_, e2, e3, e4⟩
    unfold mFz
    rw [call2 h0 h1 e1 rfl]
    rfl
theorem atI_get {α : Type} {xs : List α} {i : Int} (h0 : 0 ≤ i) (h1 : i < xs.length) : ∃ x ∈ xs, atI xs i = some x := by
  have hj : i.toNat < xs.length := by omega
  refine ⟨xs[i.toNat], List.getElem_mem hj, ?_⟩
  unfold atI ixN
  rw [if_pos h0, if_pos h1]
  simp [hj]
/-- one of some things -/
def mPick : Fn := runB 0
    (sSeq (sRet (mVal (mOp2 itemD (pN 1) (vN 1) (mFz (mCallN 2 mDraw (aCons (aRf 0) (aCons (aVal (mOp1 lenD (pN 1) (vN 1))) aNil)))) vE)))
    sNext)
theorem mPick_gen {S : Stm} {k : Nat} {d : D} {many : Int} (g : GSt S (k + 1)) (hl : lenD d = some (.int many)) (hm : 0 < many) (hm1 : many < 1000000) (P : D → Prop) (hi : ∀ i, 0 ≤ i → i < many → ∃ x, itemD d (.int i) = some x ∧ P x) :
    ∃ x S', mPick [.stm S, .val d] = some (.val x, [.stm S', .none]) ∧ P x ∧ GSt S' k := by
  have h1 : mOp1 lenD (pN 1) (vN 1) [.stm S, .val d] = some (.int many, [.stm S, .val d]) := by simp [mOp1, pN, vN, Sl.see, hl]
  obtain ⟨i, S', e1, e2, e3, e4⟩ := call2_draw (env := [.stm S, .val d]) (i := 0) rfl g h1 hm hm1
  obtain ⟨x, e5, e6⟩ := hi i e2 e3
  refine ⟨x, S', ?_, e6, e4⟩
  have e7 : ([.stm S, .val d] : List Sl).set 0 (.stm S') = [.stm S', .val d] := rfl
  rw [e7] at e1
  have e8 : mOp2 itemD (pN 1) (vN 1) (mFz (mCallN 2 mDraw (aCons (aRf 0) (aCons (aVal (mOp1 lenD (pN 1) (vN 1))) aNil)))) vE [.stm S, .val d] = some (x, [.stm S', .val d]) := by
    unfold mOp2
    show ((some ((), [.stm S, .val d]) : Option (Unit × List Sl)).bind _) = _
    simp only [Option.bind_some]
    rw [e1]
    simp [vN, vE, Sl.see, e5]
  unfold mPick runB
  simp only [List.replicate_zero, List.append_nil]
  simp [sSeq, sRet, mVal, e8, Sl.keep, Sl.own]
theorem mPick_lst {S : Stm} {k : Nat} {xs : List D} (g : GSt S (k + 1)) (h0 : xs ≠ []) (h1 : xs.length < 1000000) : ∃ x S', mPick [.stm S, .val (.lst xs)] = some (.val x, [.stm S', .none]) ∧ x ∈ xs ∧ GSt S' k := by
  have hp : 0 < xs.length := List.length_pos_iff.mpr h0
  refine mPick_gen (many := xs.length) g rfl (by omega) (by omega) (· ∈ xs) fun i i0 i1 => ?_
  obtain ⟨x, hx, e⟩ := atI_get i0 i1
  exact ⟨x, e, hx⟩
/-- a sign of a text -/
theorem mPick_str {S : Stm} {k : Nat} {z : Str} (g : GSt S (k + 1)) (h0 : 0 < z.length) (h1 : z.length < 1000000) : ∃ c S', mPick [.stm S, .val (.str z)] = some (.val (.str ⟨#[c]⟩), [.stm S', .none]) ∧ c ∈ z.cps.toList ∧ GSt S' k := by
  have hz : z.length ≤ sizeLine := by rw [sizeLine_eq]; omega
  have hlen : z.cps.toList.length = z.length := by simp [Str.length]
  obtain ⟨x, S', e1, ⟨c, rfl, hc⟩, e3⟩ := mPick_gen (d := .str z) (many := z.length) g (by show (if z.length ≤ sizeLine then some (D.int z.length) else none) = _; rw [if_pos hz]) (by omega) (by omega) (fun x => ∃ c, x = .str ⟨#[c]⟩ ∧ c ∈ z.cps.toList) fun i i0 i1 => by
    obtain ⟨c, hc, e⟩ := atI_get (xs := z.cps.toList) i0 (by rw [hlen]; exact i1)
    refine ⟨.str ⟨#[c]⟩, ?_, c, rfl, hc⟩
    show (if z.length ≤ sizeLine then (atI z.cps.toList i).map fun c => D.str ⟨#[c]⟩ else none) = _
    rw [if_pos hz, e]; rfl
  exact ⟨c, S', e1, hc, e3⟩
end HU
set_option maxRecDepth 100000
namespace HU
open PySem PySem.Spec L2
theorem log2_small {n : Nat} (h : n < 1000000000) : n.log2 < 62 := by
  by_cases z : n = 0
  · rw [z]; decide
  · exact (Nat.log2_lt z).mpr (Nat.lt_trans h (by decide))
/-! ### things in a drawn order -/
def mixB : Ms := sSeq (sDrop (mLM 3 appG (mCons (mLM 2 popAtG (mCons (mFz (mCallN 2 mDraw (aCons (aRf 0) (aCons (aVal (mOp1 lenD (pN 2) (vN 2))) aNil)))) mNil)) mNil))) sNext
def mMixed : Fn := runB 3
    (sSeq (sPar 2 [2, 3] (fCons (mOp1 listTD (pN 1) (vN 1)) (fCons (mLst mNil) fNil)))
    (sSeq (sFor (mOpt rng1D (mOp1 lenD (pN 2) (vN 2))) (bNm 2 4) mixB)
    (sSeq (sRet (mMv 2 3))
    sNext)))
theorem mixB_ok {S : Stm} {k : Nat} {d : D} {left found : List D} {X : Sl} (g : GSt S (k + 1)) (h0 : left ≠ []) (h1 : left.length < 1000000) (h2 : found.length < 1000000) :
    ∃ x S' left', mixB [.stm S, .val d, .lst left, .lst found, X] = some (.next [.stm S', .val d, .lst left', .lst (found ++ [x]), X]) ∧ (x :: left').Perm left ∧ GSt S' k := by
  have hp : 0 < left.length := List.length_pos_iff.mpr h0
  have l1 : mOp1 lenD (pN 2) (vN 2) [.stm S, .val d, .lst left, .lst found, X] = some (.int left.length, [.stm S, .val d, .lst left, .lst found, X]) := rfl
  obtain ⟨i, S', e1, e2, e3, e4⟩ := call2_draw (env := [.stm S, .val d, .lst left, .lst found, X]) (i := 0) rfl g l1 (by omega) (by omega)
  have e5 : ([.stm S, .val d, .lst left, .lst found, X] : List Sl).set 0 (.stm S') = [.stm S', .val d, .lst left, .lst found, X] := rfl
  rw [e5] at e1
  have hj : i.toNat < left.length := by omega
  have hs : seqIndex? i left.length = some i.toNat := by
    unfold seqIndex?
    simp
    omega
  have e6 : popAtG left [.int i] = some (left[i.toNat], left.eraseIdx i.toNat) := by
    have hl : i.natAbs.log2 < 63 := Nat.lt_trans (log2_small (by omega)) (by decide)
    show (if i.natAbs.log2 < 63 then (seqIndex? i left.length).bind fun k => (left[k]?).map fun d => (d, left.eraseIdx k) else none) = _
    rw [if_pos hl, hs]
    simp [hj]
  have e7 : mLM 2 popAtG (mCons (mFz (mCallN 2 mDraw (aCons (aRf 0) (aCons (aVal (mOp1 lenD (pN 2) (vN 2))) aNil)))) mNil) [.stm S, .val d, .lst left, .lst found, X] = some (left[i.toNat], [.stm S', .val d, .lst (left.eraseIdx i.toNat), .lst found, X]) := by
    have q : mCons (mFz (mCallN 2 mDraw (aCons (aRf 0) (aCons (aVal (mOp1 lenD (pN 2) (vN 2))) aNil)))) mNil [.stm S, .val d, .lst left, .lst found, X] = some ([.int i], [.stm S', .val d, .lst left, .lst found, X]) := by
      unfold mCons mBnd
      rw [e1]; rfl
    unfold mLM
    rw [q]
    simp [isLst, e6]
  have hz : found.length < sizeLine := by rw [sizeLine_eq]; omega
  have e8 : appG found [left[i.toNat]] = some (.non, found ++ [left[i.toNat]]) := by
    show (if found.length < sizeLine then some (D.non, found ++ [left[i.toNat]]) else none) = _
    rw [if_pos hz]
  have e9 : mLM 3 appG (mCons (mLM 2 popAtG (mCons (mFz (mCallN 2 mDraw (aCons (aRf 0) (aCons (aVal (mOp1 lenD (pN 2) (vN 2))) aNil)))) mNil)) mNil) [.stm S, .val d, .lst left, .lst found, X] = some (.non, [.stm S', .val d, .lst (left.eraseIdx i.toNat), .lst (found ++ [left[i.toNat]]), X]) := by
    have q : mCons (mLM 2 popAtG (mCons (mFz (mCallN 2 mDraw (aCons (aRf 0) (aCons (aVal (mOp1 lenD (pN 2) (vN 2))) aNil)))) mNil)) mNil [.stm S, .val d, .lst left, .lst found, X] = some ([left[i.toNat]], [.stm S', .val d, .lst (left.eraseIdx i.toNat), .lst found, X]) := by
      unfold mCons mBnd
      unfold mCons mBnd at e7
      rw [e7]; rfl
    unfold mLM
    unfold mLM at q
    rw [q]
    simp [isLst, e8]
  refine ⟨left[i.toNat], S', left.eraseIdx i.toNat, ?_, ?_, e4⟩
  · unfold mixB sSeq sDrop
    rw [e9]; rfl
  · have := List.perm_middle (a := left[i.toNat]) (l₁ := left.take i.toNat) (l₂ := left.drop (i.toNat + 1))
    rw [List.eraseIdx_eq_take_drop_succ]
    refine this.symm.trans ?_
    rw [← List.drop_eq_getElem_cons hj, List.take_append_drop]
theorem mixL_ok {d : D} {k : Nat} : ∀ (ds : List D) (S : Stm) (left found : List D) (X : Sl), GSt S (k + left.length) → ds.length = left.length → left.length < 1000000 → found.length + left.length < 1000000 → (∀ x ∈ ds, ∃ i, x = .int i) →  X.own = false →
    ∃ S' found' X', forL (bNm 2 4) mixB ds [.stm S, .val d, .lst left, .lst found, X] = some (.next [.stm S', .val d, .lst [], .lst found', X']) ∧ found'.Perm (found ++ left) ∧ GSt S' k
  | [], S, left, found, X, g, hl, _, _, _, hX => by
    have : left = [] := List.length_eq_zero_iff.mp (by simpa using hl.symm)
    subst this
    exact ⟨S, found, X, rfl, by simp, g⟩
  | x :: ds, S, left, found, X, g, hl, h1, h2, hd, hX => by
    have hne : left ≠ [] := by rintro rfl; simp at hl
    have hlen : left.length = ds.length + 1 := by simpa using hl.symm
    rw [hlen, ← Nat.add_assoc] at g
    obtain ⟨y, S', left', e1, e2, e3⟩ := mixB_ok (d := d) (found := found) (X := .val x) g hne h1 (by omega)
    have hl' : ds.length = left'.length := by have := e2.length_eq; simp at this; omega
    obtain ⟨S2, found2, X2, e4, e5, e6⟩ := mixL_ok (d := d) (k := k) ds S' left' (found ++ [y]) (.val x) (by rw [← hl']; exact e3) hl' (by omega) (by simp; omega) (fun z hz => hd z (List.mem_cons_of_mem _ hz)) rfl
    refine ⟨S2, found2, X2, ?_, ?_, e6⟩
    · unfold forL
      have b : bNm 2 4 x [.stm S, .val d, .lst left, .lst found, X] = some [.stm S, .val d, .lst left, .lst found, .val x] := by
        simp [bNm, setSl]
      rw [b]
      simp only [Option.bind_some]
      rw [e1]
      exact e4
    · refine e5.trans ?_
      rw [List.append_assoc]
      exact List.Perm.append_left _ e2
theorem rng1_nat {n : Nat} (h : n < 1000000000) : rng1D (.int n) = some ((List.range n).map fun i : Nat => D.int (0 + (i : Int))) := by
  unfold rng1D
  simp only [Int.natAbs_natCast, Int.toNat_natCast]
  rw [if_pos (log2_small h)]
theorem mMixed_ok {S : Stm} {k : Nat} {d : D} {xs : List D} (hs : srcD d = some xs) (g : GSt S (k + xs.length)) (hl : xs.length < 100000) :
    ∃ ys S', mMixed [.stm S, .val d] = some (.lst ys, [.stm S', .none]) ∧ ys.Perm xs ∧ GSt S' k := by
  have e1 : sPar 2 [2, 3] (fCons (mOp1 listTD (pN 1) (vN 1)) (fCons (mLst mNil) fNil)) [.stm S, .val d, .none, .none, .none] = some (.next [.stm S, .val d, .lst xs, .lst [], .none]) := by
    have q : listTD d = some (.lst xs) := by unfold listTD; rw [hs]; rfl
    simp [sPar, fCons, mOp1, pN, vN, Sl.see, q, mBnd, mLst, mNil, mRet, fNil, Sl.one, storeL, setSl, Sl.own]
  have hr := rng1_nat (n := xs.length) (by omega)
  generalize hds : (List.range xs.length).map (fun i : Nat => D.int (0 + (i : Int))) = ds at hr
  have hdl : ds.length = xs.length := by rw [← hds]; simp
  have hdi : ∀ x ∈ ds, ∃ i, x = D.int i := fun x hx => by rw [← hds] at hx; obtain ⟨i, _, rfl⟩ := List.mem_map.mp hx; exact ⟨_, rfl⟩
  have e2 : (mOpt rng1D (mOp1 lenD (pN 2) (vN 2))) [.stm S, .val d, .lst xs, .lst [], .none] = some (ds, [.stm S, .val d, .lst xs, .lst [], .none]) := by
    have l : mOp1 lenD (pN 2) (vN 2) [.stm S, .val d, .lst xs, .lst [], .none] = some (.int xs.length, [.stm S, .val d, .lst xs, .lst [], .none]) := rfl
    unfold mOpt
    rw [l]
    simp only [Option.bind_some]
    rw [hr]
    rfl
  obtain ⟨S', ys, X', e3, e4, e5⟩ := mixL_ok (d := d) (k := k) ds S xs [] .none g hdl (by omega) (by simp; omega) hdi rfl
  refine ⟨ys, S', ?_, by simpa using e4, e5⟩
  unfold mMixed runB
  have e6 : ([.stm S, .val d] : List Sl) ++ List.replicate 3 Sl.none = [.stm S, .val d, .none, .none, .none] := rfl
  rw [e6]
  have e7 : sSeq (sPar 2 [2, 3] (fCons (mOp1 listTD (pN 1) (vN 1)) (fCons (mLst mNil) fNil))) (sSeq (sFor (mOpt rng1D (mOp1 lenD (pN 2) (vN 2))) (bNm 2 4) mixB) (sSeq (sRet (mMv 2 3)) sNext)) [.stm S, .val d, .none, .none, .none] = some (.ret (.lst ys) [.stm S', .val d, .lst [], .none, X']) := by
    unfold sSeq
    rw [e1]
    simp only [sFor]
    rw [e2]
    simp only [Option.bind_some]
    rw [e3]
    rfl
  rw [e7]
  rfl
end HU
set_option maxRecDepth 100000
namespace HU
open PySem PySem.Spec L2
/-! ### the same with lists for tuples, or tuples for lists -/
def mLoose : Nat → Fn
  | 0 => runB 2 sFail
  | c + 1 => runB 2
    (sSeq (sIf (mTr (mOp1 (isiD' [.b "list", .b "tuple"]) (pN 1) (vN 1))) (sSeq (sAsg 2 2 (mLc (mOpt itD (mNm 1)) (bNm 2 3) [3] (mRet true) (mFz (mCallN 2 (mLoose c) (aCons (aRf 0) (aCons (aVal (mNm 3)) aNil))))))
    (sSeq (sRet (mVal (mIf (mTr (mOp2 eqD (mFz (mCallN 2 mDraw (aCons (aRf 0) (aCons (aVal (mRet (.int 2))) aNil)))) vE (mRet (.int 0)) vE)) (mNz 2 2) (mFz (mOp1 tupleD (pN 2) (vN 2))))))
    sNext)) sNext)
    (sSeq (sRet (mVal (mNm 1)))
    sNext))
mutual
/-- how many lists and tuples -/
def nodes : D → Nat
  | .lst xs => nodesL xs + 1
  | .tup xs => nodesL xs + 1
  | _ => 0
def nodesL : List D → Nat
  | [] => 0
  | d :: ds => nodes d + nodesL ds
end
mutual
def depthD : D → Nat
  | .lst xs => depthL xs + 1
  | .tup xs => depthL xs + 1
  | _ => 0
def depthL : List D → Nat
  | [] => 0
  | d :: ds => max (depthD d) (depthL ds)
end
/-! of texts, numbers, None, lists and tuples alone -/
mutual
def plainD : D → Bool
  | .lst xs => plainL xs
  | .tup xs => plainL xs
  | .str _ => true
  | .int _ => true
  | .non => true
  | .bl _ => true
  | _ => false
def plainL : List D → Bool
  | [] => true
  | d :: ds => plainD d && plainL ds
end
mutual
inductive Lo : D → D → Prop
  | same {d : D} : Lo d d
  | l {x y : D} {xs ys : List D} : (x = .lst xs ∨ x = .tup xs) → (y = .lst ys ∨ y = .tup ys) → LoL xs ys → Lo x y
inductive LoL : List D → List D → Prop
  | nil : LoL [] []
  | cons {d e : D} {ds es : List D} : Lo d e → LoL ds es → LoL (d :: ds) (e :: es)
end
def itemB (c : Nat) : Mr D := mFz (mCallN 2 (mLoose c) (aCons (aRf 0) (aCons (aVal (mNm 3)) aNil)))
theorem itemsLoose {c k : Nat} {t : D} (ih : ∀ (d : D) (S : Stm) (k : Nat), plainD d = true → depthD d < c → GSt S (k + nodes d) → ∃ e S', mLoose c [.stm S, .val d] = some (.val e, [.stm S', .none]) ∧ Lo d e ∧ GSt S' k) :
    ∀ (ds : List D) (S : Stm), plainL ds = true → depthL ds < c → GSt S (k + nodesL ds) → ∃ es S', lcL (bNm 2 3) [3] (mRet true) (itemB c) ds [.stm S, .val t, .none, .none] = some (es, [.stm S', .val t, .none, .none]) ∧ LoL ds es ∧ GSt S' k
  | [], S, _, _, g => ⟨[], S, rfl, .nil, g⟩
  | d :: ds, S, hp, hd, g => by
    simp only [plainL, Bool.and_eq_true] at hp
    simp only [depthL] at hd
    have g1 : GSt S ((k + nodesL ds) + nodes d) := by simp only [nodesL] at g; rwa [Nat.add_assoc, Nat.add_comm (nodesL ds)]
    obtain ⟨e, S1, e1, e2, e3⟩ := ih d S (k + nodesL ds) hp.1 (by omega) g1
    obtain ⟨es, S2, e4, e5, e6⟩ := itemsLoose (k := k) (t := t) ih ds S1 hp.2 (by omega) e3
    refine ⟨e :: es, S2, ?_, .cons e2 e5, e6⟩
    unfold lcL
    have b : bNm 2 3 d [.stm S, .val t, .none, .none] = some [.stm S, .val t, .none, .val d] := by simp [bNm, setSl]
    have q : itemB c [.stm S, .val t, .none, .val d] = some (e, [.stm S1, .val t, .none, .val d]) := by
      unfold itemB mFz
      rw [call2 (S := S) (S' := S1) (d := d) (r := .val e) (s2 := .none) rfl rfl e1 rfl]
      rfl
    have w : wipeE [.stm S1, .val t, .none, .val d] [3] = [.stm S1, .val t, .none, .none] := rfl
    rw [b]
    simp only [Option.bind_some, mRet, if_true]
    rw [q]
    simp only [Option.bind_some]
    rw [w, e4]
    rfl
end HU
set_option maxRecDepth 100000
namespace HU
open PySem PySem.Spec L2
theorem isi_lt_lst (xs : List D) : isiD' [.b "list", .b "tuple"] (.lst xs) = some (.bl true) := by rfl
theorem isi_lt_tup (xs : List D) : isiD' [.b "list", .b "tuple"] (.tup xs) = some (.bl true) := by rfl
theorem isi_lt_str (x : Str) : isiD' [.b "list", .b "tuple"] (.str x) = some (.bl false) := by rfl
theorem isi_lt_int (x : Int) : isiD' [.b "list", .b "tuple"] (.int x) = some (.bl false) := by rfl
theorem isi_lt_bl (x : Bool) : isiD' [.b "list", .b "tuple"] (.bl x) = some (.bl false) := by rfl
theorem isi_lt_non : isiD' [.b "list", .b "tuple"] .non = some (.bl false) := by rfl
theorem isi_lt_dic (x : List (Key × D)) : isiD' [.b "list", .b "tuple"] (.dic x) = some (.bl false) := by rfl
theorem LoL.len : ∀ {ds es : List D}, LoL ds es → ds.length = es.length
  | _, _, .nil => rfl
  | _, _, .cons _ r => by simp [LoL.len r]
theorem loose_leaf {c : Nat} {S : Stm} {d : D} (h : isiD' [.b "list", .b "tuple"] d = some (.bl false)) : mLoose (c + 1) [.stm S, .val d] = some (.val d, [.stm S, .none]) := by
  have e1 : mTr (mOp1 (isiD' [.b "list", .b "tuple"]) (pN 1) (vN 1)) [.stm S, .val d, .none, .none] = some (false, [.stm S, .val d, .none, .none]) := by
    simp [mTr, mBnd, mOp1, pN, vN, Sl.see, h, mRet]
  show runB 2 _ [.stm S, .val d] = _
  unfold runB
  have e6 : ([.stm S, .val d] : List Sl) ++ List.replicate 2 Sl.none = [.stm S, .val d, .none, .none] := rfl
  rw [e6]
  simp [sSeq, sIf, e1, sNext, sRet, mVal, mNm, Sl.keep, Sl.own]
theorem loose_seq {c k : Nat} {S : Stm} {t : D} {ds : List D} (ht : t = .lst ds ∨ t = .tup ds) (hl : ds.length < 100000)
    (h : ∀ S, GSt S ((k + 1) + nodesL ds) → ∃ es S', lcL (bNm 2 3) [3] (mRet true) (itemB c) ds [.stm S, .val t, .none, .none] = some (es, [.stm S', .val t, .none, .none]) ∧ LoL ds es ∧ GSt S' (k + 1)) (g : GSt S ((k + 1) + nodesL ds)) :
    ∃ e S', mLoose (c + 1) [.stm S, .val t] = some (.val e, [.stm S', .none]) ∧ Lo t e ∧ GSt S' k := by
  obtain ⟨es, S1, l1, l2, l3⟩ := h S g
  have hi : isiD' [.b "list", .b "tuple"] t = some (.bl true) := by rcases ht with rfl | rfl; exact isi_lt_lst _; exact isi_lt_tup _
  have hit : itD t = some ds := by rcases ht with rfl | rfl <;> rfl
  have e1 : mTr (mOp1 (isiD' [.b "list", .b "tuple"]) (pN 1) (vN 1)) [.stm S, .val t, .none, .none] = some (true, [.stm S, .val t, .none, .none]) := by
    simp [mTr, mBnd, mOp1, pN, vN, Sl.see, hi, mRet]
  have e2 : mLc (mOpt itD (mNm 1)) (bNm 2 3) [3] (mRet true) (itemB c) [.stm S, .val t, .none, .none] = some (.lst es, [.stm S1, .val t, .none, .none]) := by
    have q : mOpt itD (mNm 1) [.stm S, .val t, .none, .none] = some (ds, [.stm S, .val t, .none, .none]) := by simp [mOpt, mNm, hit]
    have w : wipeE [.stm S, .val t, .none, .none] [3] = [.stm S, .val t, .none, .none] := rfl
    have hz : es.length ≤ sizeLine := by rw [← l2.len, sizeLine_eq]; omega
    unfold mLc
    rw [q]
    simp only [Option.bind_some]
    rw [w, l1]
    simp only [Option.bind_some]
    rw [if_pos hz]
    rfl
  have e3 : sAsg 2 2 (mLc (mOpt itD (mNm 1)) (bNm 2 3) [3] (mRet true) (itemB c)) [.stm S, .val t, .none, .none] = some (.next [.stm S1, .val t, .lst es, .none]) := by
    unfold sAsg
    rw [e2]
    simp [setSl]
  obtain ⟨d, S2, d1, d2, d3, d4⟩ := call2_draw (env := [.stm S1, .val t, .lst es, .none]) (i := 0) (mm := mRet (.int 2)) (many := 2) rfl l3 rfl (by decide) (by decide)
  have d5 : ([.stm S1, .val t, .lst es, .none] : List Sl).set 0 (.stm S2) = [.stm S2, .val t, .lst es, .none] := rfl
  rw [d5] at d1
  have heq : eqD (.int d) (.int 0) = some (.bl (decide (d = 0))) := rfl
  have e4 : mTr (mOp2 eqD (mFz (mCallN 2 mDraw (aCons (aRf 0) (aCons (aVal (mRet (.int 2))) aNil)))) vE (mRet (.int 0)) vE) [.stm S1, .val t, .lst es, .none] = some (decide (d = 0), [.stm S2, .val t, .lst es, .none]) := by
    unfold mTr mBnd mOp2
    rw [d1]
    simp [vE, mRet, heq]
  by_cases z : d = 0
  · refine ⟨.lst es, S2, ?_, .l ht (.inl rfl) l2, d4⟩
    have e5 : sRet (mVal (mIf (mTr (mOp2 eqD (mFz (mCallN 2 mDraw (aCons (aRf 0) (aCons (aVal (mRet (.int 2))) aNil)))) vE (mRet (.int 0)) vE)) (mNz 2 2) (mFz (mOp1 tupleD (pN 2) (vN 2))))) [.stm S1, .val t, .lst es, .none] = some (.ret (.val (.lst es)) [.stm S2, .val t, .val (.lst es), .none]) := by
      unfold sRet mVal mIf mBnd
      rw [e4]
      simp [z, mNz, Sl.data, Sl.own]
    show runB 2 _ [.stm S, .val t] = _
    unfold runB
    have e6 : ([.stm S, .val t] : List Sl) ++ List.replicate 2 Sl.none = [.stm S, .val t, .none, .none] := rfl
    rw [e6]
    unfold itemB at e3
    simp [sSeq, sIf, e1, e3, e5, Sl.keep, Sl.own]
  · refine ⟨.tup es, S2, ?_, .l ht (.inr rfl) l2, d4⟩
    have e5 : sRet (mVal (mIf (mTr (mOp2 eqD (mFz (mCallN 2 mDraw (aCons (aRf 0) (aCons (aVal (mRet (.int 2))) aNil)))) vE (mRet (.int 0)) vE)) (mNz 2 2) (mFz (mOp1 tupleD (pN 2) (vN 2))))) [.stm S1, .val t, .lst es, .none] = some (.ret (.val (.tup es)) [.stm S2, .val t, .lst es, .none]) := by
      unfold sRet mVal mIf mBnd
      rw [e4]
      simp [z, mFz, mOp1, pN, vN, Sl.see, tupleD, Sl.data]
    show runB 2 _ [.stm S, .val t] = _
    unfold runB
    have e6 : ([.stm S, .val t] : List Sl) ++ List.replicate 2 Sl.none = [.stm S, .val t, .none, .none] := rfl
    rw [e6]
    unfold itemB at e3
    simp [sSeq, sIf, e1, e3, e5, Sl.keep, Sl.own]
end HU
set_option maxRecDepth 100000
namespace HU
open PySem PySem.Spec L2
mutual
/-- every list and tuple within is short -/
def shortD : D → Bool
  | .lst xs => decide (xs.length < 100000) && shortL xs
  | .tup xs => decide (xs.length < 100000) && shortL xs
  | _ => true
def shortL : List D → Bool
  | [] => true
  | d :: ds => shortD d && shortL ds
end
theorem itemsLoose' {c k : Nat} {t : D} (ih : ∀ (d : D) (S : Stm) (k : Nat), plainD d = true → shortD d = true → depthD d < c → GSt S (k + nodes d) → ∃ e S', mLoose c [.stm S, .val d] = some (.val e, [.stm S', .none]) ∧ Lo d e ∧ GSt S' k) :
    ∀ (ds : List D) (S : Stm), plainL ds = true → shortL ds = true → depthL ds < c → GSt S (k + nodesL ds) → ∃ es S', lcL (bNm 2 3) [3] (mRet true) (itemB c) ds [.stm S, .val t, .none, .none] = some (es, [.stm S', .val t, .none, .none]) ∧ LoL ds es ∧ GSt S' k
  | [], S, _, _, _, g => ⟨[], S, rfl, .nil, g⟩
  | d :: ds, S, hp, hs, hd, g => by
    simp only [plainL, Bool.and_eq_true] at hp
    simp only [shortL, Bool.and_eq_true] at hs
    simp only [depthL] at hd
    have g1 : GSt S ((k + nodesL ds) + nodes d) := by simp only [nodesL] at g; rwa [Nat.add_assoc, Nat.add_comm (nodesL ds)]
    obtain ⟨e, S1, e1, e2, e3⟩ := ih d S (k + nodesL ds) hp.1 hs.1 (by omega) g1
    obtain ⟨es, S2, e4, e5, e6⟩ := itemsLoose' (k := k) (t := t) ih ds S1 hp.2 hs.2 (by omega) e3
    refine ⟨e :: es, S2, ?_, .cons e2 e5, e6⟩
    unfold lcL
    have b : bNm 2 3 d [.stm S, .val t, .none, .none] = some [.stm S, .val t, .none, .val d] := by simp [bNm, setSl]
    have q : itemB c [.stm S, .val t, .none, .val d] = some (e, [.stm S1, .val t, .none, .val d]) := by
      unfold itemB mFz
      rw [call2 (S := S) (S' := S1) (d := d) (r := .val e) (s2 := .none) rfl rfl e1 rfl]
      rfl
    have w : wipeE [.stm S1, .val t, .none, .val d] [3] = [.stm S1, .val t, .none, .none] := rfl
    rw [b]
    simp only [Option.bind_some, mRet, if_true]
    rw [q]
    simp only [Option.bind_some]
    rw [w, e4]
    rfl
/-- the same data, lists for tuples or tuples for lists -/
theorem mLoose_ok : ∀ (c : Nat) (d : D) (S : Stm) (k : Nat), plainD d = true → shortD d = true → depthD d < c → GSt S (k + nodes d) → ∃ e S', mLoose c [.stm S, .val d] = some (.val e, [.stm S', .none]) ∧ Lo d e ∧ GSt S' k
  | 0, d, S, k, _, _, h, _ => absurd h (Nat.not_lt_zero _)
  | c + 1, d, S, k, hp, hs, hd, g => by
    have seq : ∀ ds, (d = .lst ds ∨ d = .tup ds) → ∃ e S', mLoose (c + 1) [.stm S, .val d] = some (.val e, [.stm S', .none]) ∧ Lo d e ∧ GSt S' k := fun ds ht => by
      have hp' : plainL ds = true := by rcases ht with rfl | rfl <;> exact hp
      have hs' : ds.length < 100000 ∧ shortL ds = true := by rcases ht with rfl | rfl <;> (simp only [shortD, Bool.and_eq_true, decide_eq_true_eq] at hs; exact hs)
      have hd' : depthL ds < c := by rcases ht with rfl | rfl <;> (simp only [depthD] at hd; omega)
      have g' : GSt S ((k + 1) + nodesL ds) := by
        rcases ht with rfl | rfl <;> (simp only [nodes] at g; rwa [Nat.add_assoc, Nat.add_comm 1])
      exact loose_seq ht hs'.1 (fun S2 g2 => itemsLoose' (k := k + 1) (fun d S k h1 h2 h3 h4 => mLoose_ok c d S k h1 h2 h3 h4) ds S2 hp' hs'.2 hd' g2) g'
    have leaf : isiD' [.b "list", .b "tuple"] d = some (.bl false) → nodes d = 0 → ∃ e S', mLoose (c + 1) [.stm S, .val d] = some (.val e, [.stm S', .none]) ∧ Lo d e ∧ GSt S' k := fun h h0 =>
      ⟨d, S, loose_leaf h, .same, by rw [h0] at g; exact g⟩
    cases d with
    | lst ds => exact seq ds (.inl rfl)
    | tup ds => exact seq ds (.inr rfl)
    | str x => exact leaf (isi_lt_str x) rfl
    | int x => exact leaf (isi_lt_int x) rfl
    | bl x => exact leaf (isi_lt_bl x) rfl
    | non => exact leaf isi_lt_non rfl
    | dic x => cases hp
    | dit x => cases hp
    | ins c x => cases hp
end HU
set_option maxRecDepth 100000
namespace HU
open PySem PySem.Spec L2
/-! ### a copy -/
def mCopied : Nat → Fn
  | 0 => runB 3 sFail
  | c + 1 => runB 3
    (sSeq (sIf (mTr (mOp1 (isiD' [.b "list", .b "tuple"]) (pN 0) (vN 0))) (sSeq (sAsg 1 1 (mLc (mOpt itD (mNm 0)) (bNm 1 2) [2] (mRet true) (mFz (mCallN 1 (mCopied c) (aCons (aVal (mNm 2)) aNil)))))
    (sSeq (sRet (mVal (mIf (mTr (mOp1 (isiD' [.b "list"]) (pN 0) (vN 0))) (mNz 1 1) (mFz (mOp1 tupleD (pN 1) (vN 1))))))
    sNext)) sNext)
    (sSeq (sIf (mTr (mOp1 (isiD' [.b "dict"]) (pN 0) (vN 0))) (sSeq (sRet (mOp1 dictD (mFz (mLc (mOpt itD (mNm 0)) (bNm 1 3) [3] (mRet true) (mTup (mCons (mNm 3) (mCons (mFz (mCallN 1 (mCopied c) (aCons (aVal (mOp2 itemD (pN 0) (vN 0) (pN 3) (vN 3))) aNil))) mNil))))) vE))
    sNext) sNext)
    (sSeq (sRet (mVal (mNm 0)))
    sNext)))
/-- f(v) of a value alone -/
theorem call1 {f : Fn} {env : List Sl} {mm : Mr D} {d : D} {r s2 : Sl} (h1 : mm env = some (d, env)) (hf : f [.val d] = some (r, [s2])) (hr : r.res = true) : mCallN 1 f (aCons (aVal mm) aNil) env = some (r, env) := by
  have a1 : aCons (aVal mm) aNil env = some ([.v d], env) := by simp [aCons, aVal, aNil, mBnd, mRet, h1]
  unfold mCallN
  rw [a1]
  simp [callOf, agOk, rfs, slsOf, Ag.sl, hf, hr, back]
theorem isi_d_str (x : Str) : isiD' [.b "dict"] (.str x) = some (.bl false) := by rfl
theorem isi_d_int (x : Int) : isiD' [.b "dict"] (.int x) = some (.bl false) := by rfl
theorem isi_d_bl (x : Bool) : isiD' [.b "dict"] (.bl x) = some (.bl false) := by rfl
theorem isi_d_non : isiD' [.b "dict"] .non = some (.bl false) := by rfl
theorem isi_l_lst (xs : List D) : isiD' [.b "list"] (.lst xs) = some (.bl true) := by rfl
theorem isi_l_tup (xs : List D) : isiD' [.b "list"] (.tup xs) = some (.bl false) := by rfl
theorem copied_leaf {c : Nat} {d : D} (h : isiD' [.b "list", .b "tuple"] d = some (.bl false)) (h2 : isiD' [.b "dict"] d = some (.bl false)) : mCopied (c + 1) [.val d] = some (.val d, [.none]) := by
  have e1 : mTr (mOp1 (isiD' [.b "list", .b "tuple"]) (pN 0) (vN 0)) [.val d, .none, .none, .none] = some (false, [.val d, .none, .none, .none]) := by simp [mTr, mBnd, mOp1, pN, vN, Sl.see, h, mRet]
  have e2 : mTr (mOp1 (isiD' [.b "dict"]) (pN 0) (vN 0)) [.val d, .none, .none, .none] = some (false, [.val d, .none, .none, .none]) := by simp [mTr, mBnd, mOp1, pN, vN, Sl.see, h2, mRet]
  show runB 3 _ [.val d] = _
  unfold runB
  have e6 : ([.val d] : List Sl) ++ List.replicate 3 Sl.none = [.val d, .none, .none, .none] := rfl
  rw [e6]
  simp [sSeq, sIf, e1, e2, sNext, sRet, mVal, mNm, Sl.keep, Sl.own]
def copB (c : Nat) : Mr D := mFz (mCallN 1 (mCopied c) (aCons (aVal (mNm 2)) aNil))
/-- what is copied to itself: short lists and tuples of such, texts, numbers, None, the empty dict -/
def Cp (c : Nat) (d : D) : Prop := ∃ r s, mCopied c [.val d] = some (r, [s]) ∧ r.res = true ∧ r.data = some d
theorem itemsCopied {c : Nat} {t : D} : ∀ (ds : List D), (∀ d ∈ ds, Cp c d) → lcL (bNm 1 2) [2] (mRet true) (copB c) ds [.val t, .none, .none, .none] = some (ds, [.val t, .none, .none, .none])
  | [], _ => rfl
  | d :: ds, h => by
    obtain ⟨r, s2, e1, e2, e3⟩ := h d List.mem_cons_self
    have ih := itemsCopied (c := c) (t := t) ds fun x hx => h x (List.mem_cons_of_mem _ hx)
    unfold lcL
    have b : bNm 1 2 d [.val t, .none, .none, .none] = some [.val t, .none, .val d, .none] := by simp [bNm, setSl]
    have q : copB c [.val t, .none, .val d, .none] = some (d, [.val t, .none, .val d, .none]) := by
      unfold copB mFz
      rw [call1 (d := d) rfl e1 e2]
      simp [e3]
    have w : wipeE [.val t, .none, .val d, .none] [2] = [.val t, .none, .none, .none] := rfl
    rw [b]
    simp only [Option.bind_some, mRet, if_true]
    rw [q]
    simp only [Option.bind_some]
    rw [w, ih]
    rfl
theorem copied_seq {c : Nat} {t : D} {ds : List D} (ht : t = .lst ds ∨ t = .tup ds) (hl : ds.length < 100000) (h : ∀ d ∈ ds, Cp c d) : mCopied (c + 1) [.val t] = some (.val t, [.none]) := by
  have l1 := itemsCopied (c := c) (t := t) ds h
  have hi : isiD' [.b "list", .b "tuple"] t = some (.bl true) := by rcases ht with rfl | rfl; exact isi_lt_lst _; exact isi_lt_tup _
  have hit : itD t = some ds := by rcases ht with rfl | rfl <;> rfl
  have e1 : mTr (mOp1 (isiD' [.b "list", .b "tuple"]) (pN 0) (vN 0)) [.val t, .none, .none, .none] = some (true, [.val t, .none, .none, .none]) := by simp [mTr, mBnd, mOp1, pN, vN, Sl.see, hi, mRet]
  have e2 : mLc (mOpt itD (mNm 0)) (bNm 1 2) [2] (mRet true) (copB c) [.val t, .none, .none, .none] = some (.lst ds, [.val t, .none, .none, .none]) := by
    have q : mOpt itD (mNm 0) [.val t, .none, .none, .none] = some (ds, [.val t, .none, .none, .none]) := by simp [mOpt, mNm, hit]
    have w : wipeE [.val t, .none, .none, .none] [2] = [.val t, .none, .none, .none] := rfl
    have hz : ds.length ≤ sizeLine := by rw [sizeLine_eq]; omega
    unfold mLc
    rw [q]
    simp only [Option.bind_some]
    rw [w, l1]
    simp only [Option.bind_some]
    rw [if_pos hz]
    rfl
  have e3 : sAsg 1 1 (mLc (mOpt itD (mNm 0)) (bNm 1 2) [2] (mRet true) (copB c)) [.val t, .none, .none, .none] = some (.next [.val t, .lst ds, .none, .none]) := by
    unfold sAsg
    rw [e2]
    simp [setSl]
  show runB 3 _ [.val t] = _
  unfold runB
  have e6 : ([.val t] : List Sl) ++ List.replicate 3 Sl.none = [.val t, .none, .none, .none] := rfl
  rw [e6]
  unfold copB at e3
  rcases ht with rfl | rfl
  · have e4 : mTr (mOp1 (isiD' [.b "list"]) (pN 0) (vN 0)) [.val (.lst ds), .lst ds, .none, .none] = some (true, [.val (.lst ds), .lst ds, .none, .none]) := by simp [mTr, mBnd, mOp1, pN, vN, Sl.see, isi_l_lst, mRet]
    simp [sSeq, sIf, e1, e3, sRet, mVal, mIf, mBnd, e4, mNz, Sl.data, Sl.own, Sl.keep]
  · have e4 : mTr (mOp1 (isiD' [.b "list"]) (pN 0) (vN 0)) [.val (.tup ds), .lst ds, .none, .none] = some (false, [.val (.tup ds), .lst ds, .none, .none]) := by simp [mTr, mBnd, mOp1, pN, vN, Sl.see, isi_l_tup, mRet]
    simp [sSeq, sIf, e1, e3, sRet, mVal, mIf, mBnd, e4, mFz, mOp1, pN, vN, Sl.see, tupleD, Sl.data, Sl.keep, Sl.own]
theorem copied_dic0 {c : Nat} : mCopied (c + 1) [.val (.dic [])] = some (.dic [], [.none]) := by
  have e1 : mTr (mOp1 (isiD' [.b "list", .b "tuple"]) (pN 0) (vN 0)) [.val (.dic []), .none, .none, .none] = some (false, [.val (.dic []), .none, .none, .none]) := by simp [mTr, mBnd, mOp1, pN, vN, Sl.see, isi_lt_dic, mRet]
  have hd : isiD' [.b "dict"] (.dic []) = some (.bl true) := by rfl
  have e2 : mTr (mOp1 (isiD' [.b "dict"]) (pN 0) (vN 0)) [.val (.dic []), .none, .none, .none] = some (true, [.val (.dic []), .none, .none, .none]) := by simp [mTr, mBnd, mOp1, pN, vN, Sl.see, hd, mRet]
  show runB 3 _ [.val (.dic [])] = _
  unfold runB
  have e6 : ([.val (.dic [])] : List Sl) ++ List.replicate 3 Sl.none = [.val (.dic []), .none, .none, .none] := rfl
  rw [e6]
  simp [sSeq, sIf, e1, e2, sNext, sRet, mOp1, mFz, mLc, mOpt, mNm, itD, lcL, mRet, wipeE, restore, Sl.data, vE, dictD, asPairs, putAll, Sl.keep, Sl.own]
/-- a copy is the same data -/
theorem cp_plain : ∀ (c : Nat) (d : D), plainD d = true → shortD d = true → depthD d < c → Cp c d
  | 0, d, _, _, h => absurd h (Nat.not_lt_zero _)
  | c + 1, d, hp, hs, hd => by
    have mem : ∀ (ds : List D), plainL ds = true → shortL ds = true → depthL ds < c → ∀ x ∈ ds, Cp c x := fun ds => by
      induction ds with
      | nil => intro _ _ _ x hx; cases hx
      | cons y ds ih =>
        intro h1 h2 h3 x hx
        simp only [plainL, Bool.and_eq_true] at h1
        simp only [shortL, Bool.and_eq_true] at h2
        simp only [depthL] at h3
        rcases List.mem_cons.mp hx with e | hx
        · subst e; exact cp_plain c x h1.1 h2.1 (by omega)
        · exact ih h1.2 h2.2 (by omega) x hx
    have leaf : isiD' [.b "list", .b "tuple"] d = some (.bl false) → isiD' [.b "dict"] d = some (.bl false) → Cp (c + 1) d := fun h1 h2 => ⟨_, _, copied_leaf h1 h2, rfl, rfl⟩
    cases d with
    | lst ds =>
      simp only [shortD, Bool.and_eq_true, decide_eq_true_eq] at hs
      simp only [depthD] at hd
      exact ⟨_, _, copied_seq (.inl rfl) hs.1 (mem ds hp hs.2 (by omega)), rfl, rfl⟩
    | tup ds =>
      simp only [shortD, Bool.and_eq_true, decide_eq_true_eq] at hs
      simp only [depthD] at hd
      exact ⟨_, _, copied_seq (.inr rfl) hs.1 (mem ds hp hs.2 (by omega)), rfl, rfl⟩
    | str x => exact leaf (isi_lt_str x) (isi_d_str x)
    | int x => exact leaf (isi_lt_int x) (isi_d_int x)
    | bl x => exact leaf (isi_lt_bl x) (isi_d_bl x)
    | non => exact leaf isi_lt_non isi_d_non
    | dic x => cases hp
    | dit x => cases hp
    | ins c x => cases hp
end HU
set_option maxRecDepth 100000
namespace HU
open PySem PySem.Spec L2
/-! ### equal and of the same kinds -/
def mSame : Nat → Fn
  | 0 => runB 2 sFail
  | c + 1 => runB 2
    (sSeq (sIf (mTr (mOp1 (isiD' [.b "list", .b "tuple"]) (pN 1) (vN 1))) (sSeq (sIf (mOr (mTr (mOp2 neD (mOp1 (isiD' [.b "list"]) (pN 0) (vN 0)) vE (mOp1 (isiD' [.b "list"]) (pN 1) (vN 1)) vE)) (mTr (mOp2 neD (mOp1 (isiD' [.b "tuple"]) (pN 0) (vN 0)) vE (mOp1 (isiD' [.b "tuple"]) (pN 1) (vN 1)) vE)) true) (sSeq (sRet (mVal (mRet (.bl false))))
    sNext) sNext)
    (sSeq (sRet (mVal (mAnd (mTr (mOp2 eqD (mOp1 lenD (pN 0) (vN 0)) vE (mOp1 lenD (pN 1) (vN 1)) vE)) (mOp1 allD (mFz (mLc (mBnd (mNm 0) fun x => mOpt (zpD x) (mNm 1)) (bTup 2 (bsCons (bNm 2 2) (bsCons (bNm 2 3) bsNil))) [2, 3] (mRet true) (mFz (mCallN 2 (mSame c) (aCons (aVal (mNm 2)) (aCons (aVal (mNm 3)) aNil)))))) vE) (.bl false))))
    sNext)) sNext)
    (sSeq (sIf (mTr (mOp1 (isiD' [.b "dict"]) (pN 1) (vN 1))) (sSeq (sRet (mVal (mAnd (mTr (mOp1 (isiD' [.b "dict"]) (pN 0) (vN 0))) (mFz (mCallN 2 (mSame c) (aCons (aVal (mFz (mOp1 itemsLD (pN 0) (vN 0)))) (aCons (aVal (mFz (mOp1 itemsLD (pN 1) (vN 1)))) aNil)))) (.bl false))))
    sNext) sNext)
    (sSeq (sIf (mOr (mTr (mOp1 (isiD' [.b "bool"]) (pN 1) (vN 1))) (mTr (mOp1 (isiD' [.b "bool"]) (pN 0) (vN 0))) true) (sSeq (sRet (mVal (mAnd (mTr (mOp1 (isiD' [.b "bool"]) (pN 1) (vN 1))) (mAnd (mTr (mOp1 (isiD' [.b "bool"]) (pN 0) (vN 0))) (mOp2 eqD (pN 0) (vN 0) (pN 1) (vN 1)) (.bl false)) (.bl false))))
    sNext) sNext)
    (sSeq (sIf (mOr (mTr (mOp2 isND (pN 1) (vN 1) (mRet .non) vE)) (mTr (mOp2 isND (pN 0) (vN 0) (mRet .non) vE)) true) (sSeq (sRet (mVal (mAnd (mTr (mOp2 isND (pN 1) (vN 1) (mRet .non) vE)) (mOp2 isND (pN 0) (vN 0) (mRet .non) vE) (.bl false))))
    sNext) sNext)
    (sSeq (sIf (mOr (mTr (mOp2 neD (mOp1 (isiD' [.b "int"]) (pN 1) (vN 1)) vE (mOp1 (isiD' [.b "int"]) (pN 0) (vN 0)) vE)) (mTr (mOp2 neD (mOp1 (isiD' [.b "str"]) (pN 1) (vN 1)) vE (mOp1 (isiD' [.b "str"]) (pN 0) (vN 0)) vE)) true) (sSeq (sRet (mVal (mRet (.bl false))))
    sNext) sNext)
    (sSeq (sRet (mVal (mAnd (mTr (mBnd (mTr (mOp1 (isiD' [.b "list", .b "tuple", .b "dict"]) (pN 0) (vN 0))) fun b => mRet (.bl (!b)))) (mOp2 eqD (pN 0) (vN 0) (pN 1) (vN 1)) (.bl false))))
    sNext))))))
theorem call2v {f : Fn} {env : List Sl} {ma mb : Mr D} {d e : D} {r s1 s2 : Sl} (h1 : ma env = some (d, env)) (h2 : mb env = some (e, env)) (hf : f [.val d, .val e] = some (r, [s1, s2])) (hr : r.res = true) : mCallN 2 f (aCons (aVal ma) (aCons (aVal mb) aNil)) env = some (r, env) := by
  have a1 : aCons (aVal ma) (aCons (aVal mb) aNil) env = some ([.v d, .v e], env) := by simp [aCons, aVal, aNil, mBnd, mRet, h1, h2]
  unfold mCallN
  rw [a1]
  simp [callOf, agOk, rfs, slsOf, Ag.sl, hf, hr, back]
/-- the same data: True -/
def Sm (c : Nat) (d : D) : Prop := ∃ s1 s2, mSame c [.val d, .val d] = some (.val (.bl true), [s1, s2])
theorem isi_1 : (∀ x, isiD' [.b "bool"] (.str x) = some (.bl false)) ∧ (∀ x, isiD' [.b "bool"] (.int x) = some (.bl false)) ∧ isiD' [.b "bool"] .non = some (.bl false) ∧ (∀ x, isiD' [.b "int"] (.str x) = some (.bl false)) ∧ (∀ x, isiD' [.b "int"] (.int x) = some (.bl true)) ∧
    (∀ x, isiD' [.b "str"] (.str x) = some (.bl true)) ∧ (∀ x, isiD' [.b "str"] (.int x) = some (.bl false)) ∧ (∀ x, isiD' [.b "list", .b "tuple", .b "dict"] (.str x) = some (.bl false)) ∧ (∀ x, isiD' [.b "list", .b "tuple", .b "dict"] (.int x) = some (.bl false)) :=
  ⟨fun _ => rfl, fun _ => rfl, rfl, fun _ => rfl, fun _ => rfl, fun _ => rfl, fun _ => rfl, fun _ => rfl, fun _ => rfl⟩
theorem same_str {c : Nat} (x : Str) : Sm (c + 1) (.str x) := by
  obtain ⟨i1, i2, i3, i4, i5, i6, i7, i8, i9⟩ := isi_1
  have ne : neD (.bl false) (.bl false) = some (.bl false) := by rfl
  have ne2 : neD (.bl true) (.bl true) = some (.bl false) := by rfl
  have nn : isND (.str x) .non = some (.bl false) := by rfl
  have eq : eqD (.str x) (.str x) = some (.bl true) := by show some (D.bl (decide (x = x))) = _; simp
  refine ⟨.none, .none, ?_⟩
  show runB 2 _ [.val (.str x), .val (.str x)] = _
  unfold runB
  simp [sSeq, sIf, mTr, mBnd, mOr, mAnd, mOp1, mOp2, pN, vN, vE, Sl.see, isi_lt_str, isi_d_str, i1, i4, i6, i8, nn, ne, ne2, eq, mRet, sNext, sRet, mVal, Sl.keep, Sl.own]
theorem same_int {c : Nat} (x : Int) : Sm (c + 1) (.int x) := by
  obtain ⟨i1, i2, i3, i4, i5, i6, i7, i8, i9⟩ := isi_1
  have ne : neD (.bl false) (.bl false) = some (.bl false) := by rfl
  have ne2 : neD (.bl true) (.bl true) = some (.bl false) := by rfl
  have nn : isND (.int x) .non = some (.bl false) := by rfl
  have eq : eqD (.int x) (.int x) = some (.bl true) := by show some (D.bl (decide (x = x))) = _; simp
  refine ⟨.none, .none, ?_⟩
  show runB 2 _ [.val (.int x), .val (.int x)] = _
  unfold runB
  simp [sSeq, sIf, mTr, mBnd, mOr, mAnd, mOp1, mOp2, pN, vN, vE, Sl.see, isi_lt_int, isi_d_int, i2, i5, i7, i9, nn, ne, ne2, eq, mRet, sNext, sRet, mVal, Sl.keep, Sl.own]
theorem same_non {c : Nat} : Sm (c + 1) .non := by
  obtain ⟨i1, i2, i3, i4, i5, i6, i7, i8, i9⟩ := isi_1
  have nn : isND .non .non = some (.bl true) := by rfl
  refine ⟨.none, .none, ?_⟩
  show runB 2 _ [.val .non, .val .non] = _
  unfold runB
  simp [sSeq, sIf, mTr, mBnd, mOr, mAnd, mOp1, mOp2, pN, vN, vE, Sl.see, isi_lt_non, isi_d_non, i3, nn, mRet, sNext, sRet, mVal, Sl.keep, Sl.own]
def samB (c : Nat) : Mr D := mFz (mCallN 2 (mSame c) (aCons (aVal (mNm 2)) (aCons (aVal (mNm 3)) aNil)))
theorem itemsSame {c : Nat} {t : D} : ∀ (ds : List D), (∀ d ∈ ds, Sm c d) → lcL (bTup 2 (bsCons (bNm 2 2) (bsCons (bNm 2 3) bsNil))) [2, 3] (mRet true) (samB c) (ds.map fun d => .tup [d, d]) [.val t, .val t, .none, .none] = some (ds.map fun _ => .bl true, [.val t, .val t, .none, .none])
  | [], _ => rfl
  | d :: ds, h => by
    obtain ⟨s1, s2, e1⟩ := h d List.mem_cons_self
    have ih := itemsSame (c := c) (t := t) ds fun x hx => h x (List.mem_cons_of_mem _ hx)
    rw [List.map_cons]
    unfold lcL
    have b : bTup 2 (bsCons (bNm 2 2) (bsCons (bNm 2 3) bsNil)) (.tup [d, d]) [.val t, .val t, .none, .none] = some [.val t, .val t, .val d, .val d] := by simp [bTup, bsCons, bsNil, bNm, setSl]
    have q : samB c [.val t, .val t, .val d, .val d] = some (.bl true, [.val t, .val t, .val d, .val d]) := by
      unfold samB mFz
      rw [call2v (d := d) (e := d) rfl rfl e1 rfl]
      rfl
    have w : wipeE [.val t, .val t, .val d, .val d] [2, 3] = [.val t, .val t, .none, .none] := rfl
    rw [b]
    simp only [Option.bind_some, mRet, if_true]
    rw [q]
    simp only [Option.bind_some]
    rw [w, ih]
    rfl
theorem zip_self (ds : List D) : (ds.zip ds).map (fun d => D.tup [d.1, d.2]) = ds.map fun d => .tup [d, d] := by
  induction ds with
  | nil => rfl
  | cons d ds ih => simp only [List.zip_cons_cons, List.map_cons, ih]
theorem isi_t_lst (xs : List D) : isiD' [.b "tuple"] (.lst xs) = some (.bl false) := by rfl
theorem isi_t_tup (xs : List D) : isiD' [.b "tuple"] (.tup xs) = some (.bl true) := by rfl
theorem same_seq {c : Nat} {t : D} {ds : List D} (ht : t = .lst ds ∨ t = .tup ds) (hl : ds.length < 100000) (h : ∀ d ∈ ds, Sm c d) : Sm (c + 1) t := by
  have l1 := itemsSame (c := c) (t := t) ds h
  have hi : isiD' [.b "list", .b "tuple"] t = some (.bl true) := by rcases ht with rfl | rfl; exact isi_lt_lst _; exact isi_lt_tup _
  have hz : zpD t t = some (ds.map fun d => .tup [d, d]) := by rcases ht with rfl | rfl <;> exact congrArg some (zip_self ds)
  have hlen : lenD t = some (.int ds.length) := by rcases ht with rfl | rfl <;> rfl
  have ne : neD (.bl false) (.bl false) = some (.bl false) := by rfl
  have ne2 : neD (.bl true) (.bl true) = some (.bl false) := by rfl
  have eq : eqD (.int ds.length) (.int ds.length) = some (.bl true) := by show some (D.bl (decide ((ds.length : Int) = ds.length))) = _; simp
  have e2 : mLc (mBnd (mNm 0) fun x => mOpt (zpD x) (mNm 1)) (bTup 2 (bsCons (bNm 2 2) (bsCons (bNm 2 3) bsNil))) [2, 3] (mRet true) (samB c) [.val t, .val t, .none, .none] = some (.lst (ds.map fun _ => .bl true), [.val t, .val t, .none, .none]) := by
    have q : (mBnd (mNm 0) fun x => mOpt (zpD x) (mNm 1)) [.val t, .val t, .none, .none] = some (ds.map fun d => .tup [d, d], [.val t, .val t, .none, .none]) := by simp [mBnd, mOpt, mNm, hz]
    have w : wipeE [.val t, .val t, .none, .none] [2, 3] = [.val t, .val t, .none, .none] := rfl
    have hs : (ds.map fun _ : D => D.bl true).length ≤ sizeLine := by rw [List.length_map, sizeLine_eq]; omega
    unfold mLc
    rw [q]
    simp only [Option.bind_some]
    rw [w, l1]
    simp only [Option.bind_some]
    rw [if_pos hs]
    rfl
  have hall : allD (.lst (ds.map fun _ => .bl true)) = some (.bl true) := by
    have : ds.map (fun _ : D => D.bl true) = (ds.map fun _ => true).map D.bl := by simp
    show Option.map (fun bs => D.bl (bs.all id)) (asBls (ds.map fun _ => .bl true)) = _
    rw [this, asBls_map]
    simp
  refine ⟨.none, .none, ?_⟩
  show runB 2 _ [.val t, .val t] = _
  unfold runB
  have e6 : ([.val t, .val t] : List Sl) ++ List.replicate 2 Sl.none = [.val t, .val t, .none, .none] := rfl
  rw [e6]
  unfold samB at e2
  rcases ht with rfl | rfl
  · simp [sSeq, sIf, mTr, mBnd, mOr, mAnd, mOp1, mOp2, pN, vN, vE, Sl.see, hi, isi_l_lst, isi_t_lst, ne, ne2, eq, hlen, e2, mFz, Sl.data, hall, mRet, sNext, sRet, mVal, Sl.keep, Sl.own]
  · simp [sSeq, sIf, mTr, mBnd, mOr, mAnd, mOp1, mOp2, pN, vN, vE, Sl.see, hi, isi_l_tup, isi_t_tup, ne, ne2, eq, hlen, e2, mFz, Sl.data, hall, mRet, sNext, sRet, mVal, Sl.keep, Sl.own]
theorem same_dic0 {c : Nat} : Sm (c + 2) (.dic []) := by
  obtain ⟨s1, s2, e1⟩ := same_seq (c := c) (t := .lst []) (.inl rfl) (by decide) (fun d h => by cases h)
  have hd : isiD' [.b "dict"] (.dic []) = some (.bl true) := by rfl
  have q : mCallN 2 (mSame (c + 1)) (aCons (aVal (mFz (mOp1 itemsLD (pN 0) (vN 0)))) (aCons (aVal (mFz (mOp1 itemsLD (pN 1) (vN 1)))) aNil)) [.val (.dic []), .val (.dic []), .none, .none] = some (.val (.bl true), [.val (.dic []), .val (.dic []), .none, .none]) := call2v (d := .lst []) (e := .lst []) rfl rfl e1 rfl
  refine ⟨.none, .none, ?_⟩
  show runB 2 _ [.val (.dic []), .val (.dic [])] = _
  unfold runB
  have e6 : ([.val (.dic []), .val (.dic [])] : List Sl) ++ List.replicate 2 Sl.none = [.val (.dic []), .val (.dic []), .none, .none] := rfl
  rw [e6]
  have hf : mFz (mCallN 2 (mSame (c + 1)) (aCons (aVal (mFz (mOp1 itemsLD (pN 0) (vN 0)))) (aCons (aVal (mFz (mOp1 itemsLD (pN 1) (vN 1)))) aNil))) [.val (.dic []), .val (.dic []), .none, .none] = some (.bl true, [.val (.dic []), .val (.dic []), .none, .none]) := by
    unfold mFz
    unfold mFz at q
    rw [q]; rfl
  have e1 : mTr (mOp1 (isiD' [.b "list", .b "tuple"]) (pN 1) (vN 1)) [.val (.dic []), .val (.dic []), .none, .none] = some (false, [.val (.dic []), .val (.dic []), .none, .none]) := by simp [mTr, mBnd, mOp1, pN, vN, Sl.see, isi_lt_dic, mRet]
  have e2 : mTr (mOp1 (isiD' [.b "dict"]) (pN 1) (vN 1)) [.val (.dic []), .val (.dic []), .none, .none] = some (true, [.val (.dic []), .val (.dic []), .none, .none]) := by simp [mTr, mBnd, mOp1, pN, vN, Sl.see, hd, mRet]
  have e3 : mTr (mOp1 (isiD' [.b "dict"]) (pN 0) (vN 0)) [.val (.dic []), .val (.dic []), .none, .none] = some (true, [.val (.dic []), .val (.dic []), .none, .none]) := by simp [mTr, mBnd, mOp1, pN, vN, Sl.see, hd, mRet]
  simp [sSeq, sIf, e1, e2, sNext, sRet, mVal, mAnd, mBnd, e3, hf, Sl.keep, Sl.own]
end HU
set_option maxRecDepth 100000
namespace HU
open PySem PySem.Spec L2
/-! ### what holds behind a mirror -/
/-- what a later part of a term hangs on is not looked into -/
inductive Tag {α : Sort u} (x : α) : Type
  | t
/-- o gives something of which Q holds; Q stays as it was written until o is reckoned out -/
def Op {α : Type} (o : Option α) (Q : α → Prop) (_ : Tag Q := .t) : Prop := ∃ x, o = some x ∧ Q x
@[simp] theorem op_some {α : Type} {x : α} {Q : α → Prop} {t : Tag Q} : Op (some x) Q t = Q x := by simp [Op]
@[simp] theorem op_none {α : Type} {Q : α → Prop} {t : Tag Q} : Op (none : Option α) Q t = False := by simp [Op]
@[simp] theorem op_bind {α β : Type} {o : Option α} {f : α → Option β} {Q : β → Prop} {t : Tag Q} : Op (o.bind f) Q t = Op o fun x => Op (f x) Q := by
  cases o <;> simp [Op]
@[simp] theorem op_map {α β : Type} {o : Option α} {f : α → β} {Q : β → Prop} {t : Tag Q} : Op (o.map f) Q t = Op o fun x => Q (f x) := by
  cases o <;> simp [Op]
@[simp] theorem op_ite {α : Type} {c : Prop} [Decidable c] {a b : Option α} {Q : α → Prop} {t : Tag Q} : Op (if c then a else b) Q t = if c then Op a Q else Op b Q := by
  split <;> rfl
theorem Op.imp {α : Type} {o : Option α} {Q Q' : α → Prop} (h : Op o Q) (w : ∀ x, Q x → Q' x) : Op o Q' := by
  obtain ⟨x, e, q⟩ := h; exact ⟨x, e, w x q⟩
theorem Op.eq {α : Type} {o : Option α} {x : α} (h : Op o fun y => y = x) : o = some x := by
  obtain ⟨y, e, rfl⟩ := h; exact e
theorem Op.of {α : Type} {o : Option α} {x : α} {Q : α → Prop} (e : o = some x) (h : Q x) : Op o Q := ⟨x, e, h⟩
/-- behind a statement: on, or out -/
def _root_.HU.Out.thn (o : Out) (K : List Sl → Prop) (Q : Out → Prop) (_ : Tag (K, Q) := .t) : Prop := match o with
  | .next e => K e
  | o => Q o
@[simp] theorem thn_next {e : List Sl} {K : List Sl → Prop} {Q : Out → Prop} {t : Tag (K, Q)} : (Out.next e).thn K Q t = K e := rfl
@[simp] theorem thn_ret {r : Sl} {e : List Sl} {K : List Sl → Prop} {Q : Out → Prop} {t : Tag (K, Q)} : (Out.ret r e).thn K Q t = Q (.ret r e) := rfl
@[simp] theorem thn_brk {e : List Sl} {K : List Sl → Prop} {Q : Out → Prop} {t : Tag (K, Q)} : (Out.brk e).thn K Q t = Q (.brk e) := rfl
@[simp] theorem thn_cnt {e : List Sl} {K : List Sl → Prop} {Q : Out → Prop} {t : Tag (K, Q)} : (Out.cnt e).thn K Q t = Q (.cnt e) := rfl
/-- at a def's end -/
def _root_.HU.Out.fin (o : Out) (Q : Sl → List Sl → Prop) (_ : Tag Q := .t) : Prop := match o with
  | .next e => Q (.val .non) e
  | .ret r e => Q r e
  | _ => False
@[simp] theorem fin_next {e : List Sl} {Q : Sl → List Sl → Prop} {t : Tag Q} : (Out.next e).fin Q t = Q (.val .non) e := rfl
@[simp] theorem fin_ret {r : Sl} {e : List Sl} {Q : Sl → List Sl → Prop} {t : Tag Q} : (Out.ret r e).fin Q t = Q r e := rfl
section
variable {α β τ υ : Type} {e : List Sl}
@[simp] theorem mRet_e {x : α} : mRet x e = some (x, e) := rfl
@[simp] theorem mBnd_e {m : Mr α} {f : α → Mr β} : mBnd m f e = (m e).bind fun r => f r.1 r.2 := rfl
def _root_.HU.Sl.vl : Sl → Option D
  | .val d => some d
  | _ => none
@[simp] theorem vl_val {d : D} : (Sl.val d).vl = some d := rfl
@[simp] theorem mNm_e {i : Nat} : mNm i e = ((e[i]?).bind Sl.vl).map fun d => (d, e) := by
  unfold mNm Sl.vl
  cases e[i]? with
  | none => rfl
  | some s => cases s <;> rfl
@[simp] theorem mNz_e {n i : Nat} : mNz n i e = (e[i]?).bind fun s => if n ≤ i ∨ s.own = false then s.data.bind fun d => some (d, e.set i (.val d)) else none := rfl
@[simp] theorem pN_e {i : Nat} : pN i e = ((e[i]?).bind Sl.see).map fun _ => ((), e) := by
  unfold pN
  cases (e[i]?).bind Sl.see <;> rfl
@[simp] theorem vN_e {i : Nat} {u : Unit} : vN i u e = (e[i]?).bind Sl.see := rfl
@[simp] theorem vE_e {d : D} : vE d e = some d := rfl
@[simp] theorem mMv_e {n i : Nat} : mMv n i e = (e[i]?).bind fun s => if n ≤ i ∧ s.own = true then some (s, e.set i .none) else none := rfl
@[simp] theorem mNil_e : mNil e = some ([], e) := rfl
@[simp] theorem mCons_e {m : Mr D} {r : Mr (List D)} : mCons m r e = (m e).bind fun d => (r d.2).bind fun ds => some (d.1 :: ds.1, ds.2) := rfl
@[simp] theorem mOp2_e {g : D → D → Option α} {pa : Mr τ} {qa : τ → List Sl → Option D} {pb : Mr υ} {qb : υ → List Sl → Option D} : mOp2 g pa qa pb qb e = (pa e).bind fun t => (pb t.2).bind fun u => (qa t.1 u.2).bind fun x => (qb u.1 u.2).bind fun y => (g x y).bind fun z => some (z, u.2) := rfl
@[simp] theorem mOp1_e {g : D → Option α} {pa : Mr τ} {qa : τ → List Sl → Option D} : mOp1 g pa qa e = (pa e).bind fun t => (qa t.1 t.2).bind fun x => (g x).bind fun z => some (z, t.2) := rfl
@[simp] theorem mOpt_e {g : α → Option β} {m : Mr α} : mOpt g m e = (m e).bind fun r => (g r.1).bind fun y => some (y, r.2) := rfl
@[simp] theorem mM1_e {g : D → D → Option D} {ma mb : Mr D} : mM1 g ma mb e = (ma e).bind fun x => (mb x.2).bind fun y => (g x.1 y.1).map fun z => (z, y.2) := rfl
@[simp] theorem mTup_e {ms : Mr (List D)} : mTup ms e = (ms e).bind fun r => if r.1.length ≤ sizeLine then some (.tup r.1, r.2) else none := by
  unfold mTup mBnd
  cases ms e with
  | none => rfl
  | some r => simp only [Option.bind_some]; split <;> rfl
@[simp] theorem mLst_e {ms : Mr (List D)} : mLst ms e = (ms e).bind fun r => if r.1.length ≤ sizeLine then some (.lst r.1, r.2) else none := by
  unfold mLst mBnd
  cases ms e with
  | none => rfl
  | some r => simp only [Option.bind_some]; split <;> rfl
def _root_.HU.D.tr : D → Option Bool
  | .bl b => some b
  | _ => none
@[simp] theorem tr_bl {b : Bool} : (D.bl b).tr = some b := rfl
@[simp] theorem mTr_e {m : Mr D} : mTr m e = (m e).bind fun r => r.1.tr.map fun b => (b, r.2) := by
  unfold mTr mBnd
  cases m e with
  | none => rfl
  | some r => simp only [Option.bind_some]; obtain ⟨d, e⟩ := r; cases d <;> rfl
@[simp] theorem mAnd_e {m : Mr Bool} {k : Mr α} {f : α} : mAnd m k f e = (m e).bind fun r => if r.1 = true then k r.2 else some (f, r.2) := by
  unfold mAnd mBnd
  cases m e with
  | none => rfl
  | some r => simp only [Option.bind_some]; split <;> rfl
@[simp] theorem mOr_e {m : Mr Bool} {k : Mr α} {t : α} : mOr m k t e = (m e).bind fun r => if r.1 = true then some (t, r.2) else k r.2 := by
  unfold mOr mBnd
  cases m e with
  | none => rfl
  | some r => simp only [Option.bind_some]; split <;> rfl
@[simp] theorem mIf_e {c : Mr Bool} {t u : Mr α} : mIf c t u e = (c e).bind fun r => if r.1 = true then t r.2 else u r.2 := by
  unfold mIf mBnd
  cases c e with
  | none => rfl
  | some r => simp only [Option.bind_some]; split <;> rfl
@[simp] theorem mIfF_e {c : Mr Bool} {t u : Mr Sl} : mIfF c t u e = (c e).bind fun r => if r.1 = true then t r.2 else u r.2 := rfl
@[simp] theorem mFz_e {m : Mr Sl} : mFz m e = (m e).bind fun r => (r.1.data).bind fun d => some (d, r.2) := rfl
@[simp] theorem mVal_e {m : Mr D} : mVal m e = (m e).bind fun r => some (.val r.1, r.2) := rfl
@[simp] theorem data_val {d : D} : (Sl.val d).data = some d := rfl
@[simp] theorem data_lst {d : List D} : (Sl.lst d).data = some (.lst d) := rfl
@[simp] theorem data_dic {d : List (Key × D)} : (Sl.dic d).data = some (.dic d) := rfl
@[simp] theorem data_dit {d : List (List Key × D)} : (Sl.dit d).data = some (.dit d) := rfl
@[simp] theorem data_ins {c : Str} {d : List (Str × D)} : (Sl.ins c d).data = some (.ins c d) := rfl
@[simp] theorem see_val {d : D} : (Sl.val d).see = some d := rfl
@[simp] theorem see_lst {d : List D} : (Sl.lst d).see = some (.lst d) := rfl
@[simp] theorem see_dic {d : List (Key × D)} : (Sl.dic d).see = some (.dic d) := rfl
@[simp] theorem see_dit {d : List (List Key × D)} : (Sl.dit d).see = some (.dit d) := rfl
@[simp] theorem see_ins {c : Str} {d : List (Str × D)} : (Sl.ins c d).see = some (.ins c d) := rfl
@[simp] theorem see_pkl {d : List D} : (Sl.pkl d).see = some (.lst d) := rfl
@[simp] theorem see_pkd {d : List (Key × D)} : (Sl.pkd d).see = some (.dic d) := rfl
@[simp] theorem see_pkt {d : List (List Key × D)} : (Sl.pkt d).see = some (.dit d) := rfl
@[simp] theorem see_pki {c : Str} {d : List (Str × D)} : (Sl.pki c d).see = some (.ins c d) := rfl
@[simp] theorem qown_val {d : D} : (Sl.val d).own = false := rfl
@[simp] theorem qown_none : Sl.none.own = false := rfl
@[simp] theorem qown_lst {d : List D} : (Sl.lst d).own = true := rfl
@[simp] theorem qown_dic {d : List (Key × D)} : (Sl.dic d).own = true := rfl
@[simp] theorem qown_dit {d : List (List Key × D)} : (Sl.dit d).own = true := rfl
@[simp] theorem qown_ins {c : Str} {d : List (Str × D)} : (Sl.ins c d).own = true := rfl
@[simp] theorem qown_stm {s : Stm} : (Sl.stm s).own = true := rfl
@[simp] theorem qown_pkl {d : List D} : (Sl.pkl d).own = false := rfl
@[simp] theorem qown_pkd {d : List (Key × D)} : (Sl.pkd d).own = false := rfl
@[simp] theorem qown_pkt {d : List (List Key × D)} : (Sl.pkt d).own = false := rfl
@[simp] theorem qown_pki {c : Str} {d : List (Str × D)} : (Sl.pki c d).own = false := rfl
@[simp] theorem res_val {d : D} : (Sl.val d).res = true := rfl
@[simp] theorem res_lst {d : List D} : (Sl.lst d).res = true := rfl
@[simp] theorem res_dic {d : List (Key × D)} : (Sl.dic d).res = true := rfl
@[simp] theorem res_dit {d : List (List Key × D)} : (Sl.dit d).res = true := rfl
@[simp] theorem res_ins {c : Str} {d : List (Str × D)} : (Sl.ins c d).res = true := rfl
@[simp] theorem res_stm {s : Stm} : (Sl.stm s).res = true := rfl
@[simp] theorem one_val {d : D} : (Sl.val d).one = true := rfl
@[simp] theorem one_lst {d : List D} : (Sl.lst d).one = true := rfl
@[simp] theorem one_dic {d : List (Key × D)} : (Sl.dic d).one = true := rfl
@[simp] theorem one_dit {d : List (List Key × D)} : (Sl.dit d).one = true := rfl
@[simp] theorem one_ins {c : Str} {d : List (Str × D)} : (Sl.ins c d).one = true := rfl
@[simp] theorem qkeep_val {d : D} : (Sl.val d).keep = .none := rfl
@[simp] theorem qkeep_none : Sl.none.keep = .none := rfl
@[simp] theorem qkeep_lst {d : List D} : (Sl.lst d).keep = .lst d := rfl
@[simp] theorem qkeep_dic {d : List (Key × D)} : (Sl.dic d).keep = .dic d := rfl
@[simp] theorem qkeep_dit {d : List (List Key × D)} : (Sl.dit d).keep = .dit d := rfl
@[simp] theorem qkeep_ins {c : Str} {d : List (Str × D)} : (Sl.ins c d).keep = .ins c d := rfl
@[simp] theorem qkeep_stm {s : Stm} : (Sl.stm s).keep = .stm s := rfl
@[simp] theorem qkeep_pkl {d : List D} : (Sl.pkl d).keep = .none := rfl
@[simp] theorem qkeep_pkd {d : List (Key × D)} : (Sl.pkd d).keep = .none := rfl
@[simp] theorem qkeep_pkt {d : List (List Key × D)} : (Sl.pkt d).keep = .none := rfl
@[simp] theorem qkeep_pki {c : Str} {d : List (Str × D)} : (Sl.pki c d).keep = .none := rfl
/-! statements -/
variable {Q : Out → Prop} {n i : Nat}
@[simp] theorem sNext_e : sNext e = some (.next e) := rfl
@[simp] theorem sSeq_e {m k : Ms} {t : Tag Q} : Op (sSeq m k e) Q t = Op (m e) fun o => o.thn (fun e' => Op (k e') Q) Q := by
  unfold sSeq
  cases m e with
  | none => simp
  | some o => cases o <;> simp
@[simp] theorem setSl_e {s : Sl} : setSl n i s e = if i < e.length ∧ (i < n → s.own = false ∧ (e[i]?.any Sl.own) = false) then some (e.set i s) else none := rfl
@[simp] theorem sAsg_e {m : Mr Sl} : sAsg n i m e = (m e).bind fun r => (setSl n i r.1 r.2).map .next := rfl
@[simp] theorem sRet_e {m : Mr Sl} : sRet m e = (m e).map fun r => .ret r.1 r.2 := rfl
@[simp] theorem sIf_e {c : Mr Bool} {t u : Ms} : sIf c t u e = (c e).bind fun r => if r.1 = true then t r.2 else u r.2 := rfl
@[simp] theorem sDrop_e {m : Mr α} : sDrop m e = (m e).map fun r => .next r.2 := rfl
@[simp] theorem sFail_e : sFail e = none := rfl
@[simp] theorem sFor_e {mi : Mr (List D)} {b : Bd} {body : Ms} : sFor mi b body e = (mi e).bind fun r => forL b body r.1 r.2 := rfl
@[simp] theorem sAsgG_e {m : Mr D} {b : Bd} : sAsgG m b e = (m e).bind fun r => (b r.1 r.2).map .next := rfl
@[simp] theorem bNm_e {d : D} : bNm n i d e = setSl n i (.val d) e := rfl
@[simp] theorem bsNil_e : bsNil [] e = some e := rfl
@[simp] theorem bsCons_e {b : Bd} {bs : Bds} {d : D} {r : List D} : bsCons b bs (d :: r) e = (b d e).bind fun e => bs r e := rfl
@[simp] theorem bTup_e {k : Nat} {bs : Bds} {ds : List D} : bTup k bs (.tup ds) e = if ds.length = k then bs ds e else none := rfl
@[simp] theorem fNil_e : fNil e = some ([], e) := rfl
@[simp] theorem fCons_e {m : Mr Sl} {r : Mr (List Sl)} : fCons m r e = (m e).bind fun s => (r s.2).bind fun ss => if s.1.one = true then some (s.1 :: ss.1, ss.2) else none := rfl
@[simp] theorem storeL_nil : storeL n [] [] e = some e := rfl
@[simp] theorem storeL_cons {is : List Nat} {s : Sl} {ss : List Sl} : storeL n (i :: is) (s :: ss) e = (setSl n i s e).bind fun e => storeL n is ss e := rfl
@[simp] theorem sPar_e {is : List Nat} {m : Mr (List Sl)} : sPar n is m e = (m e).bind fun r => (storeL n is r.1 r.2).map .next := rfl
@[simp] theorem sOf_e {m : List Sl → Option (List Sl)} : sOf m e = (m e).map .next := rfl
@[simp] theorem runB_e {k : Nat} {m : Ms} {sls : List Sl} {Q : Sl × List Sl → Prop} {t : Tag Q} : Op (runB k m sls) Q t = Op (m (sls ++ List.replicate k .none)) fun o => o.fin fun r e => Q (r, (e.take sls.length).map Sl.keep) := by
  unfold runB
  cases m (sls ++ List.replicate k .none) with
  | none => simp
  | some o => cases o <;> simp [Out.fin]
/-! calls -/
@[simp] theorem aVal_e {m : Mr D} : aVal m e = (m e).map fun r => (.v r.1, r.2) := rfl
@[simp] theorem aRf_e : aRf i e = if (e[i]?).any Sl.own = true then some (.rf i, e) else none := rfl
@[simp] theorem aPk_e : aPk i e = if ((e[i]?).bind Sl.peek).isSome = true then some (.pk i, e) else none := rfl
@[simp] theorem aNil_e : aNil e = some ([], e) := rfl
@[simp] theorem aCons_e {m : Mr Ag} {r : Mr (List Ag)} : aCons m r e = (m e).bind fun g => (r g.2).bind fun gs => some (g.1 :: gs.1, gs.2) := rfl
@[simp] theorem mCallN_e {f : Fn} {ms : Mr (List Ag)} : mCallN n f ms e = (ms e).bind fun g => callOf n f g.1 g.2 := rfl
@[simp] theorem slsOf_nil : slsOf e [] = some [] := rfl
@[simp] theorem slsOf_cons {g : Ag} {gs : List Ag} : slsOf e (g :: gs) = (g.sl e).bind fun s => (slsOf e gs).map (s :: ·) := rfl
@[simp] theorem agsl_v {d : D} : (Ag.v d).sl e = some (.val d) := rfl
@[simp] theorem agsl_rf : (Ag.rf i).sl e = (e[i]?).bind fun s => if s.own = true then some s else none := rfl
@[simp] theorem agsl_pk : (Ag.pk i).sl e = (e[i]?).bind Sl.peek := rfl
@[simp] theorem qpeek_val {d : D} : (Sl.val d).peek = some (.val d) := rfl
@[simp] theorem qpeek_lst {d : List D} : (Sl.lst d).peek = some (.pkl d) := rfl
@[simp] theorem qpeek_dic {d : List (Key × D)} : (Sl.dic d).peek = some (.pkd d) := rfl
@[simp] theorem qpeek_dit {d : List (List Key × D)} : (Sl.dit d).peek = some (.pkt d) := rfl
@[simp] theorem qpeek_ins {c : Str} {d : List (Str × D)} : (Sl.ins c d).peek = some (.pki c d) := rfl
@[simp] theorem qpeek_pki {c : Str} {d : List (Str × D)} : (Sl.pki c d).peek = some (.pki c d) := rfl
@[simp] theorem qrfs_nil : rfs n [] = [] := rfl
@[simp] theorem qrfs_rf {gs : List Ag} : rfs n (.rf i :: gs) = (n, i) :: rfs (n + 1) gs := rfl
@[simp] theorem qrfs_v {d : D} {gs : List Ag} : rfs n (.v d :: gs) = rfs (n + 1) gs := rfl
@[simp] theorem qrfs_pk {gs : List Ag} : rfs n (.pk i :: gs) = rfs (n + 1) gs := rfl
@[simp] theorem callOf_e {f : Fn} {gs : List Ag} {Q : Sl × List Sl → Prop} {t : Tag Q} : Op (callOf n f gs e) Q t = ((gs.length = n ∧ agOk gs = true) ∧ Op (slsOf e gs) fun sls => Op (f sls) fun r => (r.1.res = true ∧ r.2.length = n) ∧ Q (r.1, back gs r.2 e)) := by
  unfold callOf Op
  by_cases h : gs.length = n ∧ agOk gs = true
  · rw [if_pos h]
    cases slsOf e gs with
    | none => simp
    | some sls =>
      simp only [Option.bind_some, Option.some.injEq, exists_eq_left', h, and_self, true_and]
      cases f sls with
      | none => simp
      | some r =>
        simp only [Option.bind_some, Option.some.injEq, exists_eq_left']
        by_cases h2 : r.1.res = true ∧ r.2.length = n
        · rw [if_pos h2]; simp [h2]
        · rw [if_neg h2]; simp only [reduceCtorEq, false_and, exists_false]
          exact propext ⟨False.elim, fun w => h2 w.1⟩
  · rw [if_neg h]; simp [h]
def backR (l : List (Nat × Nat)) (sls' : List Sl) (env : List Sl) : List Sl := match l with
  | [(k, i)] => env.set i (sls'.getD k .none).keep
  | _ => env
@[simp] theorem back_e {sls : List Sl} {gs : List Ag} : back gs sls e = backR (rfs 0 gs) sls e := rfl
@[simp] theorem backR_nil {sls : List Sl} : backR [] sls e = e := rfl
@[simp] theorem backR_one {sls : List Sl} {k : Nat} : backR [(k, i)] sls e = e.set i (sls.getD k .none).keep := rfl
end
end HU
set_option maxRecDepth 100000
namespace HU
open PySem PySem.Spec L2
/-! ### draws, behind -/
theorem op_draw {S : Stm} {k : Nat} {n : Int} {Q : Sl × List Sl → Prop} (g : GSt S (k + 1)) (h0 : 0 < n) (h1 : n < 1000000) (q : ∀ i S', 0 ≤ i → i < n → GSt S' k → Q (.val (.int i), [.stm S', .none])) : Op (mDraw [.stm S, .val (.int n)]) Q := by
  cases S with
  | dol kvs => exact g.elim
  | s cs b c m =>
    obtain ⟨d, cs', b', n', m', e1, e2, e3, e4⟩ := mDraw_ok g h0 h1
    exact ⟨_, e1, q d (.s cs' b' n' m') e2 e3 e4⟩
theorem op_pickL {S : Stm} {k : Nat} {xs : List D} {Q : Sl × List Sl → Prop} (g : GSt S (k + 1)) (h0 : xs ≠ []) (h1 : xs.length < 1000000) (q : ∀ x S', x ∈ xs → GSt S' k → Q (.val x, [.stm S', .none])) : Op (mPick [.stm S, .val (.lst xs)]) Q := by
  obtain ⟨x, S', e, h, g'⟩ := mPick_lst g h0 h1
  exact ⟨_, e, q x S' h g'⟩
theorem op_pickS {S : Stm} {k : Nat} {z : Str} {Q : Sl × List Sl → Prop} (g : GSt S (k + 1)) (h0 : 0 < z.length) (h1 : z.length < 1000000) (q : ∀ c S', c ∈ z.cps.toList → GSt S' k → Q (.val (.str ⟨#[c]⟩), [.stm S', .none])) : Op (mPick [.stm S, .val (.str z)]) Q := by
  obtain ⟨x, S', e, h, g'⟩ := mPick_str g h0 h1
  exact ⟨_, e, q x S' h g'⟩
theorem op_mixed {S : Stm} {k : Nat} {d : D} {xs : List D} {Q : Sl × List Sl → Prop} (hs : srcD d = some xs) (g : GSt S (k + xs.length)) (hl : xs.length < 100000) (q : ∀ ys S', ys.Perm xs → GSt S' k → Q (.lst ys, [.stm S', .none])) : Op (mMixed [.stm S, .val d]) Q := by
  obtain ⟨ys, S', e, h, g'⟩ := mMixed_ok hs g hl
  exact ⟨_, e, q ys S' h g'⟩
theorem op_loose {S : Stm} {k : Nat} {d : D} {Q : Sl × List Sl → Prop} (h1 : plainD d = true) (h2 : shortD d = true) (h3 : depthD d < 8) (g : GSt S (k + nodes d)) (q : ∀ x S', Lo d x → GSt S' k → Q (.val x, [.stm S', .none])) : Op (mLoose 8 [.stm S, .val d]) Q := by
  obtain ⟨x, S', e, h, g'⟩ := mLoose_ok 8 d S k h1 h2 h3 g
  exact ⟨_, e, q x S' h g'⟩
/-! ### loops, behind -/
section
variable {α : Type} {b : Bd} {body : Ms} {Q : Out → Prop}
/-- an invariant at some slots: the slots are reckoned out, the invariant stays as it was written -/
def At (I : List Sl → Prop) (e : List Sl) (_ : Tag I := .t) : Prop := I e
theorem At.i {I : List Sl → Prop} {e : List Sl} {t : Tag I} (h : I e) : At I e t := h
def loopE (I : List Sl → Prop) (Q : Out → Prop) (o : Out) (_ : Tag (I, Q) := .t) : Prop := match o with
  | .next e => At I e
  | .cnt e => At I e
  | .brk e => Q (.next e)
  | .ret r e => Q (.ret r e)
@[simp] theorem loopE_next {I : List Sl → Prop} {e : List Sl} {t : Tag (I, Q)} : loopE I Q (.next e) t = At I e := rfl
@[simp] theorem loopE_cnt {I : List Sl → Prop} {e : List Sl} {t : Tag (I, Q)} : loopE I Q (.cnt e) t = At I e := rfl
@[simp] theorem loopE_brk {I : List Sl → Prop} {e : List Sl} {t : Tag (I, Q)} : loopE I Q (.brk e) t = Q (.next e) := rfl
@[simp] theorem loopE_ret {I : List Sl → Prop} {r : Sl} {e : List Sl} {t : Tag (I, Q)} : loopE I Q (.ret r e) t = Q (.ret r e) := rfl
theorem op_forL_gen (f : α → D) (I : List α → List α → List Sl → Prop) (st : ∀ done x rest e, I done (x :: rest) e → Op (b (f x) e) fun e1 => Op (body e1) fun o => loopE (I (done ++ [x]) rest) Q o) (en : ∀ done e, I done [] e → Q (.next e)) :
    ∀ (xs done : List α) (e : List Sl), I done xs e → Op (forL b body (xs.map f) e) Q
  | [], done, e, h => by simpa [forL] using en done e h
  | x :: xs, done, e, h => by
    obtain ⟨e1, h1, o, h2, h3⟩ := st done x xs e h
    simp only [List.map_cons, forL, h1, Option.bind_some, h2]
    cases o with
    | next e2 => exact op_forL_gen f I st en xs _ e2 h3
    | cnt e2 => exact op_forL_gen f I st en xs _ e2 h3
    | brk e2 => exact ⟨_, rfl, h3⟩
    | ret r e2 => exact ⟨_, rfl, h3⟩
/-- a for by its invariant: what is done, what is left, the slots -/
theorem op_forL (f : α → D) (I : List α → List α → List Sl → Prop) (xs : List α) (e : List Sl) (i0 : I [] xs e) (st : ∀ done x rest e, xs = done ++ x :: rest → I done (x :: rest) e → Op (b (f x) e) fun e1 => Op (body e1) fun o => loopE (I (done ++ [x]) rest) Q o) (en : ∀ e, I xs [] e → Q (.next e)) :
    Op (forL b body (xs.map f) e) Q :=
  op_forL_gen f (fun done rest e => xs = done ++ rest ∧ I done rest e) (fun done x rest e h => (st done x rest e h.1 h.2).imp fun e1 h1 => h1.imp fun o h2 => by
      have z : xs = (done ++ [x]) ++ rest := by simp [h.1]
      cases o with
      | next e => exact ⟨z, h2⟩
      | cnt e => exact ⟨z, h2⟩
      | brk e => exact h2
      | ret r e => exact h2) (fun done e h => en e (by have := h.1; simp at this; subst this; exact h.2)) xs [] e ⟨by simp, i0⟩
theorem op_rng1 {n : Int} {Q : List D → Prop} (h : n < 1000000000) (h0 : 0 ≤ n) (q : Q ((List.range n.toNat).map fun i : Nat => D.int i)) : Op (rng1D (.int n)) Q := by
  have : n.natAbs.log2 < 62 := log2_small (by omega)
  have e : rng1D (.int n) = if n.natAbs.log2 < 62 then some ((List.range n.toNat).map fun i => D.int (0 + (i : Nat))) else none := rfl
  rw [e, if_pos this]
  simpa using q
theorem op_rng2 {i j : Int} {Q : List D → Prop} (h : i.natAbs < 1000000000) (h0 : j.natAbs < 1000000000) (q : Q ((List.range (j - i).toNat).map fun k : Nat => D.int (i + k))) : Op (rng2D (.int i) (.int j)) Q := by
  have e : rng2D (.int i) (.int j) = if i.natAbs.log2 < 62 ∧ j.natAbs.log2 < 62 then some ((List.range (j - i).toNat).map fun k => D.int (i + (k : Nat))) else none := rfl
  rw [e, if_pos ⟨log2_small h, log2_small h0⟩]
  simpa using q
end
/-! ### comprehensions, behind -/
section
variable {α : Type} {b : Bd} {vs : List Nat} {tt : Mr Bool} {me : Mr D}
/-- what changes nothing beside: a filter and a map -/
theorem lc_plain (f : α → D) (t : α → Bool) (g : α → D) (e0 : List Sl) : ∀ (xs : List α), (∀ x ∈ xs, Op (b (f x) e0) fun e1 => Op (tt e1) fun r => r.1 = t x ∧ (if t x = true then Op (me r.2) fun y => y.1 = g x ∧ wipeE y.2 vs = e0 else wipeE r.2 vs = e0)) →
    lcL b vs tt me (xs.map f) e0 = some ((xs.filter t).map g, e0)
  | [], _ => rfl
  | x :: xs, h => by
    obtain ⟨e1, h1, r, h2, h3, h4⟩ := h x List.mem_cons_self
    have ih := lc_plain f t g e0 xs fun y hy => h y (List.mem_cons_of_mem _ hy)
    simp only [List.map_cons, lcL, h1, Option.bind_some, h2, h3]
    by_cases z : t x = true
    · rw [if_pos z] at h4 ⊢
      obtain ⟨y, h5, h6, h7⟩ := h4
      rw [h5]
      simp only [Option.bind_some, h7, ih]
      simp [List.filter_cons, z, h6]
    · rw [if_neg z] at h4 ⊢
      rw [h4, ih]
      simp [List.filter_cons, z]
theorem lc_map (f : α → D) (g : α → D) (e0 : List Sl) (xs : List α) (h : ∀ x ∈ xs, Op (b (f x) e0) fun e1 => Op (tt e1) fun r => r.1 = true ∧ Op (me r.2) fun y => y.1 = g x ∧ wipeE y.2 vs = e0) :
    lcL b vs tt me (xs.map f) e0 = some (xs.map g, e0) := by
  have := lc_plain (b := b) (vs := vs) (tt := tt) (me := me) f (fun _ => true) g e0 xs fun x hx => by simpa using h x hx
  rwa [List.filter_eq_self.mpr (fun _ _ => rfl)] at this
/-- with the stream: an invariant over what is done, what came of it, the slots behind -/
theorem op_lc_gen (f : α → D) (I : List α → List D → List α → List Sl → Prop) {Q : List D × List Sl → Prop} (st : ∀ done out x rest e, I done out (x :: rest) e → Op (b (f x) e) fun e1 => Op (tt e1) fun r => if r.1 = true then Op (me r.2) fun y => At (I (done ++ [x]) (out ++ [y.1]) rest) (wipeE y.2 vs) else At (I (done ++ [x]) out rest) (wipeE r.2 vs)) :
    ∀ (xs done : List α) (out : List D) (e : List Sl), I done out xs e → (∀ done out' e, I done (out ++ out') [] e → Q (out', e)) → Op (lcL b vs tt me (xs.map f) e) Q
  | [], done, out, e, h, en => by simpa [lcL] using en done [] e (by simpa using h)
  | x :: xs, done, out, e, h, en => by
    obtain ⟨e1, h1, r, h2, h3⟩ := st done out x xs e h
    simp only [List.map_cons, lcL, h1, Option.bind_some, h2]
    by_cases z : r.1 = true
    · rw [if_pos z] at h3 ⊢
      obtain ⟨y, h5, h6⟩ := h3
      rw [h5]
      simp only [Option.bind_some, op_map]
      exact op_lc_gen (Q := fun q => Q (y.1 :: q.1, q.2)) f I st xs _ _ _ h6 fun d o e hh => en d _ e (by simpa using hh)
    · rw [if_neg z] at h3 ⊢
      exact op_lc_gen f I st xs _ out _ h3 en
theorem op_lc (f : α → D) (I : List α → List D → List α → List Sl → Prop) {Q : List D × List Sl → Prop} (xs : List α) (e : List Sl) (i0 : I [] [] xs e) (st : ∀ done out x rest e, xs = done ++ x :: rest → I done out (x :: rest) e → Op (b (f x) e) fun e1 => Op (tt e1) fun r => if r.1 = true then Op (me r.2) fun y => At (I (done ++ [x]) (out ++ [y.1]) rest) (wipeE y.2 vs) else At (I (done ++ [x]) out rest) (wipeE r.2 vs))
    (en : ∀ out e, I xs out [] e → Q (out, e)) : Op (lcL b vs tt me (xs.map f) e) Q :=
  op_lc_gen f (fun done out rest e => xs = done ++ rest ∧ I done out rest e) (fun done out x rest e h => (st done out x rest e h.1 h.2).imp fun e1 h1 => h1.imp fun r h2 => by
    have z : xs = (done ++ [x]) ++ rest := by simp [h.1]
    split at h2
    · rw [if_pos ‹_›]; exact h2.imp fun y h3 => ⟨z, h3⟩
    · rw [if_neg ‹_›]; exact ⟨z, h2⟩) xs [] [] e ⟨by simp, i0⟩ fun done out e h => en out e (by have := h.1; simp at this; subst this; simpa using h.2)
@[simp] theorem mLc_e {mi : Mr (List D)} {e : List Sl} : mLc mi b vs tt me e = (mi e).bind fun r => (lcL b vs tt me r.1 (wipeE r.2 vs)).bind fun q => if q.1.length ≤ sizeLine then some (.lst q.1, restore vs r.2 q.2) else none := rfl
@[simp] theorem wipeE_nil {e : List Sl} : wipeE e [] = e := rfl
@[simp] theorem wipeE_cons {e : List Sl} {v : Nat} {vs : List Nat} : wipeE e (v :: vs) = (wipeE e vs).set v .none := rfl
end
@[simp] theorem restore_nil {e0 e : List Sl} : restore [] e0 e = e := rfl
def keepV : Option Sl → Sl
  | some (.val d) => .val d
  | _ => .none
@[simp] theorem keepV_none : keepV none = .none := rfl
@[simp] theorem keepV_n : keepV (some .none) = .none := rfl
@[simp] theorem keepV_v {d : D} : keepV (some (.val d)) = .val d := rfl
@[simp] theorem restore_cons {e0 e : List Sl} {v : Nat} {vs : List Nat} : restore (v :: vs) e0 e = restore vs e0 (e.set v (if v ∈ vs then .none else keepV (e0[v]?))) := by
  conv => lhs; unfold restore
  congr 2
theorem sl_le {n : Nat} (h : n < 10000000) : n ≤ sizeLine := by rw [sizeLine_eq]; omega
theorem sl_lt {n : Nat} (h : n < 10000000) : n < sizeLine := by rw [sizeLine_eq]; omega
end HU
set_option maxRecDepth 100000
namespace HU
open PySem PySem.Spec L2
/-! ### mirrors of the defs that many laws have -/
abbrev m__law_draw : Fn := mDraw
abbrev m__law_pick : Fn := mPick
abbrev m__law_mixed : Fn := mMixed
abbrev m__law_loose : Nat → Fn := mLoose
abbrev m__law_copied : Nat → Fn := mCopied
abbrev m__law_same : Nat → Fn := mSame
def m__law_around : Fn := runB 1
    (sSeq (sRet (mOp1 sortedD (mFz (mLc (mOpt itD (mOp2 itemD (pN 0) (vN 0) (mRet (.int 1)) vE)) (bNm 2 2) [2] (mTr (mOp2 inD (pN 1) (vN 1) (pN 2) (vN 2))) (mIf (mTr (mOp2 eqD (mOp2 itemD (pN 2) (vN 2) (mRet (.int 0)) vE) vE (pN 1) (vN 1))) (mOp2 itemD (pN 2) (vN 2) (mRet (.int 1)) vE) (mOp2 itemD (pN 2) (vN 2) (mRet (.int 0)) vE)))) vE))
    sNext)
def m__law_names : Fn := runB 6
    (sSeq (sPar 2 [2, 3] (fCons (mLst mNil) (fCons (mVal (mRet (.str "abcdefghijklmnopqrstuvwxyz"))) fNil)))
    (sSeq (sFor (mOpt rng1D (mNm 1)) (bNm 2 4) (sSeq (sAsg 2 5 (mVal (mM1 joinD (mRet (.str "")) (mFz (mLc (mOpt rng1D (mFz (mOp2 addD (mRet (.int 1)) vE (mFz (mCallN 2 m__law_draw (aCons (aRf 0) (aCons (aVal (mFz (mCallN 2 m__law_pick (aCons (aRf 0) (aCons (aVal (mFz (mLst (mCons (mRet (.int 1)) (mCons (mRet (.int 1)) (mCons (mRet (.int 3)) mNil)))))) aNil))))) aNil)))) vE))) (bNm 2 7) [7] (mRet true) (mFz (mCallN 2 m__law_pick (aCons (aRf 0) (aCons (aVal (mNm 3)) aNil)))))))))
    (sSeq (sFor (mOpt rng1D (mFz (mOp2 addD (mOp1 lenD (pN 2) (vN 2)) vE (mRet (.int 1)) vE))) (bNm 2 6) (sSeq (sIf (mTr (mOp2 inD (pN 5) (vN 5) (pN 2) (vN 2))) (sSeq (sAsg 2 5 (mVal (mFz (mOp2 addD (mFz (mOp2 addD (mFz (mSl (pN 5) (vN 5) (mRet none) (mOpt intO (mRet (.int 3))))) vE (mOp2 itemD (pN 3) (vN 3) (mOp2 fdivD (pN 6) (vN 6) (mRet (.int 26)) vE) vE) vE)) vE (mOp2 itemD (pN 3) (vN 3) (mOp2 modD (pN 6) (vN 6) (mRet (.int 26)) vE) vE) vE))))
    sNext) sNext)
    sNext))
    (sSeq (sDrop (mLM 2 appG (mCons (mNm 5) mNil)))
    sNext))))
    (sSeq (sRet (mMv 2 2))
    sNext)))
def m__law_web : Fn := runB 9
    (sSeq (sPar 3 [3, 4] (fCons (mVal (mFz (mOp1 sortedD (mFz (mCallN 2 m__law_names (aCons (aRf 0) (aCons (aVal (mFz (mOp2 addD (mRet (.int 1)) vE (mFz (mCallN 2 m__law_draw (aCons (aRf 0) (aCons (aVal (mNm 1)) aNil)))) vE))) aNil)))) vE))) (fCons (mVal (mFz (mCallN 2 m__law_draw (aCons (aRf 0) (aCons (aVal (mRet (.int 6))) aNil))))) fNil)))
    (sSeq (sPar 3 [5, 6] (fCons (mVal (mFz (mCallN 2 m__law_mixed (aCons (aRf 0) (aCons (aVal (mNm 3)) aNil))))) (fCons (mLst mNil) fNil)))
    (sSeq (sFor (mBnd (mRet (.int 1)) fun x => mOpt (rng2D x) (mIf (mTr (mOp2 ltD (pN 4) (vN 4) (mRet (.int 4)) vE)) (mOp1 lenD (pN 5) (vN 5)) (mRet (.int 0)))) (bNm 3 7) (sSeq (sDrop (mLM 6 appG (mCons (mTup (mCons (mOp2 itemD (pN 5) (vN 5) (pN 7) (vN 7)) (mCons (mOp2 itemD (pN 5) (vN 5) (mIf (mTr (mOp2 gtD (pN 4) (vN 4) (mRet (.int 0)) vE)) (mOp2 subD (pN 7) (vN 7) (mRet (.int 1)) vE) (mFz (mCallN 2 m__law_draw (aCons (aRf 0) (aCons (aVal (mNm 7)) aNil))))) vE) mNil))) mNil)))
    sNext))
    (sSeq (sIf (mAnd (mTr (mOp2 inD (pN 4) (vN 4) (mTup (mCons (mRet (.int 1)) (mCons (mRet (.int 2)) mNil))) vE)) (mTr (mOp2 gtD (mOp1 lenD (pN 5) (vN 5)) vE (mRet (.int 2)) vE)) false) (sSeq (sDrop (mLM 6 appG (mCons (mTup (mCons (mOp2 itemD (pN 5) (vN 5) (mRet (.int 0)) vE) (mCons (mOp2 itemD (pN 5) (vN 5) (mOpt negD (mRet (.int 1))) vE) mNil))) mNil)))
    sNext) sNext)
    (sSeq (sIf (mTr (mOp2 eqD (pN 4) (vN 4) (mRet (.int 4)) vE)) (sSeq (sFor (mOpt rng1D (mOp1 lenD (pN 5) (vN 5))) (bNm 3 7) (sSeq (sDrop (mLM 6 extG (mCons (mFz (mLc (mOpt itD (mFz (mSl (pN 5) (vN 5) (mOpt intO (mFz (mOp2 addD (pN 7) (vN 7) (mRet (.int 1)) vE))) (mRet none)))) (bNm 3 11) [11] (mRet true) (mTup (mCons (mOp2 itemD (pN 5) (vN 5) (pN 7) (vN 7)) (mCons (mNm 11) mNil))))) mNil)))
    sNext))
    sNext) sNext)
    (sSeq (sFor (mOpt rng1D (mIf (mAnd (mTr (mOp2 ninD (pN 4) (vN 4) (mTup (mCons (mRet (.int 1)) (mCons (mRet (.int 4)) mNil))) vE)) (mTr (mOp2 gtD (mOp1 lenD (pN 3) (vN 3)) vE (mRet (.int 1)) vE)) false) (mFz (mCallN 2 m__law_draw (aCons (aRf 0) (aCons (aVal (mRet (.int 9))) aNil)))) (mRet (.int 0)))) (bNm 3 8) (sSeq (sDrop (mLM 6 appG (mCons (mFz (mOp1 tupleD (mFz (mSl (mFz (mCallN 2 m__law_mixed (aCons (aRf 0) (aCons (aVal (mNm 3)) aNil)))) vE (mRet none) (mOpt intO (mRet (.int 2))))) vE)) mNil)))
    sNext))
    (sSeq (sAsg 3 9 (mVal (mFz (mOp1 sortedD (mFz (mOp1 dictTD (mFz (mLc (mOpt itD (mNz 3 6)) (bNm 3 10) [10] (mRet true) (mTup (mCons (mTup (mCons (mOp1 minA (pN 10) (vN 10)) (mCons (mOp1 maxA (pN 10) (vN 10)) mNil))) (mCons (mRet (.int 0)) mNil))))) vE)) vE))))
    (sSeq (sIf (mAnd (mTr (mOp2 eqD (pN 4) (vN 4) (mRet (.int 4)) vE)) (mTr (mOp2 eqD (mFz (mCallN 2 m__law_draw (aCons (aRf 0) (aCons (aVal (mRet (.int 2))) aNil)))) vE (mRet (.int 0)) vE)) false) (sSeq (sAsg 3 9 (mVal (mFz (mSl (mFz (mCallN 2 m__law_mixed (aCons (aRf 0) (aCons (aVal (mNm 9)) aNil)))) vE (mOpt intO (mFz (mCallN 2 m__law_draw (aCons (aRf 0) (aCons (aVal (mRet (.int 3))) aNil))))) (mRet none)))))
    sNext) sNext)
    (sSeq (sRet (mVal (mTup (mCons (mNm 3) (mCons (mFz (mOp1 sortedD (mFz (mSl (mFz (mCallN 2 m__law_mixed (aCons (aRf 0) (aCons (aVal (mNm 9)) aNil)))) vE (mRet none) (mOpt intO (mNm 2)))) vE)) mNil)))))
    sNext)))))))))
def m_is_list : Fn := runB 0
    (sSeq (sRet (mVal (mOp1 (isiD' [.b "list", .b "tuple"]) (pN 0) (vN 0))))
    sNext)
def m_is_row : Fn := runB 0
    (sSeq (sRet (mVal (mAnd (mTr (mFz (mCallN 1 m_is_list (aCons (aVal (mNm 0)) aNil)))) (mOp2 eqD (mOp1 lenD (pN 0) (vN 0)) vE (pN 1) (vN 1)) (.bl false))))
    sNext)
def m_is_name : Fn := runB 1
    (sSeq (sRet (mVal (mAnd (mTr (mOp1 (isiD' [.b "str"]) (pN 0) (vN 0))) (mAnd (mTr (mChain ltD ltD (mRet (.int 0)) (mOp1 lenD (pN 0) (vN 0)) (mRet (.int 9)))) (mOp1 allD (mFz (mLc (mOpt itD (mNm 0)) (bNm 1 1) [1] (mRet true) (mOp2 inD (pN 1) (vN 1) (mRet (.str "abcdefghijklmnopqrstuvwxyz")) vE))) vE) (.bl false)) (.bl false))))
    sNext)
def m_first_bad_room : Fn := runB 3
    (sSeq (sAsg 1 1 (mRet (.dic [])))
    (sSeq (sIf (mOr (mBnd (mTr (mFz (mCallN 1 m_is_list (aCons (aVal (mNm 0)) aNil)))) fun b => mRet (!b)) (mTr (mOp2 eqD (mOp1 lenD (pN 0) (vN 0)) vE (mRet (.int 0)) vE)) true) (sSeq (sRet (mVal (mRet (.int 0))))
    sNext) sNext)
    (sSeq (sFor (mOpt enD (mNm 0)) (bTup 2 (bsCons (bNm 1 2) (bsCons (bNm 1 3) bsNil))) (sSeq (sIf (mOr (mBnd (mTr (mFz (mCallN 1 m_is_name (aCons (aVal (mNm 3)) aNil)))) fun b => mRet (!b)) (mTr (mOp2 inD (pN 3) (vN 3) (pN 1) (vN 1))) true) (sSeq (sRet (mVal (mNm 2)))
    sNext) sNext)
    (sSeq (sPut 1 (mNm 3) (mRet (.bl true)))
    sNext)))
    (sSeq (sRet (mVal (mRet .non)))
    sNext))))
def m_Web_is_wire : Fn := runB 1
    (sSeq (sIf (mOr (mBnd (mTr (mFz (mCallN 2 m_is_row (aCons (aVal (mNm 1)) (aCons (aVal (mRet (.int 2))) aNil))))) fun b => mRet (!b)) (mBnd (mTr (mOp1 allD (mFz (mLc (mOpt itD (mNm 1)) (bNm 2 2) [2] (mRet true) (mAnd (mTr (mOp1 (isiD' [.b "str"]) (pN 2) (vN 2))) (mOp2 inD (pN 2) (vN 2) (mOp1 (fldD "Web" "own_rooms") (pN 0) (vN 0)) vE) (.bl false)))) vE)) fun b => mRet (!b)) true) (sSeq (sRet (mVal (mRet (.bl false))))
    sNext) sNext)
    (sSeq (sRet (mVal (mOp2 neD (mOp2 itemD (pN 1) (vN 1) (mRet (.int 0)) vE) vE (mOp2 itemD (pN 1) (vN 1) (mRet (.int 1)) vE) vE)))
    sNext))
def m_Web___init__ : Fn := runB 9
    (sSeq (sAsg 3 3 (mVal (mFz (mCallN 1 m_first_bad_room (aCons (aVal (mNm 1)) aNil)))))
    (sSeq (sIf (mTr (mOp2 notND (pN 3) (vN 3) (mRet .non) vE)) (sSeq sFail
    sNext) sNext)
    (sSeq (sFldD 0 "Web" "own_rooms" (mFz (mOp1 sortedD (pN 1) (vN 1))))
    (sSeq (sIf (mBnd (mTr (mFz (mCallN 1 m_is_list (aCons (aVal (mNm 2)) aNil)))) fun b => mRet (!b)) (sSeq sFail
    sNext) sNext)
    (sSeq (sAsg 3 4 (mRet (.dit [])))
    (sSeq (sFor (mOpt enD (mNm 2)) (bTup 2 (bsCons (bNm 3 5) (bsCons (bNm 3 6) bsNil))) (sSeq (sIf (mOr (mBnd (mTr (mFz (mMeth 2 m_Web_is_wire "Web" "is_wire" (aPk 0) (aCons (aVal (mNm 6)) aNil)))) fun b => mRet (!b)) (mTr (mOp2 inD (mTup (mCons (mOp1 minA (pN 6) (vN 6)) (mCons (mOp1 maxA (pN 6) (vN 6)) mNil))) vE (pN 4) (vN 4))) true) (sSeq sFail
    sNext) sNext)
    (sSeq (sPut 4 (mTup (mCons (mOp1 minA (pN 6) (vN 6)) (mCons (mOp1 maxA (pN 6) (vN 6)) mNil))) (mRet (.bl true)))
    sNext)))
    (sSeq (sFldD 0 "Web" "own_wires" (mFz (mOp1 sortedD (pN 4) (vN 4))))
    (sSeq (sAsg 3 7 (mDol (mOpt itD (mOp1 (fldD "Web" "own_rooms") (pN 0) (vN 0))) (bNm 3 10) [10] (mNm 10)))
    (sSeq (sFor (mOpt itD (mOp1 (fldD "Web" "own_wires") (pN 0) (vN 0))) (bTup 2 (bsCons (bNm 3 8) (bsCons (bNm 3 9) bsNil))) (sSeq (sDrop (mDolApp 7 9 (mNm 8)))
    (sSeq (sDrop (mDolApp 7 8 (mNm 9)))
    sNext)))
    (sSeq (sFldD 0 "Web" "own_around" (mFz (mDc (mOpt itemsD (mDolNz 3 7)) (bTup 2 (bsCons (bNm 3 10) (bsCons (bNm 3 11) bsNil))) [10, 11] (mRet true) (mNm 10) (mFz (mOp1 sortedD (pN 11) (vN 11))))))
    sNext))))))))))
def m__law_made : Fn := runB 2
    (sSeq (sAsg 2 2 (mLc (mOpt itD (mOp2 itemD (pN 1) (vN 1) (mRet (.int 1)) vE)) (bNm 2 3) [3] (mRet true) (mFz (mCallN 2 (m__law_loose 8) (aCons (aRf 0) (aCons (aVal (mFz (mOp1 tupleD (mFz (mCallN 2 m__law_mixed (aCons (aRf 0) (aCons (aVal (mFz (mOp1 listTD (pN 3) (vN 3)))) aNil)))) vE))) aNil))))))
    (sSeq (sRet (mMake 3 m_Web___init__ "Web" (aCons (aVal (mFz (mCallN 2 (m__law_loose 8) (aCons (aRf 0) (aCons (aVal (mFz (mCallN 2 m__law_mixed (aCons (aRf 0) (aCons (aVal (mOp2 itemD (pN 1) (vN 1) (mRet (.int 0)) vE)) aNil))))) aNil))))) (aCons (aVal (mFz (mCallN 2 (m__law_loose 8) (aCons (aRf 0) (aCons (aVal (mFz (mCallN 2 m__law_mixed (aCons (aRf 0) (aCons (aVal (mNz 2 2)) aNil))))) aNil))))) aNil))))
    sNext))
def m_check_web : Fn := runB 0
    (sSeq (sIf (mBnd (mTr (mOp1 (isiD' [.o "Web"]) (pN 0) (vN 0))) fun b => mRet (!b)) (sSeq sFail
    sNext) sNext)
    sNext)
def m_is_whole : Fn := runB 0
    (sSeq (sRet (mVal (mAnd (mTr (mOp1 (isiD' [.b "int"]) (pN 0) (vN 0))) (mBnd (mTr (mOp1 (isiD' [.b "bool"]) (pN 0) (vN 0))) fun b => mRet (.bl (!b))) (.bl false))))
    sNext)
def m_is_number : Fn := runB 0
    (sSeq (sRet (mVal (mAnd (mTr (mFz (mCallN 1 m_is_whole (aCons (aVal (mNm 0)) aNil)))) (mOp2 geD (pN 0) (vN 0) (mRet (.int 0)) vE) (.bl false))))
    sNext)
def m_is_rising : Fn := runB 2
    (sSeq (sRet (mVal (mOp1 allD (mFz (mLc (mBnd (mNm 0) fun x => mOpt (zpD x) (mFz (mSl (pN 0) (vN 0) (mOpt intO (mRet (.int 1))) (mRet none)))) (bTup 2 (bsCons (bNm 1 1) (bsCons (bNm 1 2) bsNil))) [1, 2] (mRet true) (mOp2 ltD (pN 1) (vN 1) (pN 2) (vN 2)))) vE)))
    sNext)
def m_is_room : Fn := runB 0
    (sSeq (sRet (mVal (mAnd (mTr (mOp1 (isiD' [.b "str"]) (pN 1) (vN 1))) (mOp2 inD (pN 1) (vN 1) (mOp1 (fldD "Web" "own_around") (pN 0) (vN 0)) vE) (.bl false))))
    sNext)
def m_is_lot_of : Fn := runB 1
    (sSeq (sRet (mVal (mAnd (mTr (mFz (mCallN 1 m_is_list (aCons (aVal (mNm 1)) aNil)))) (mAnd (mTr (mOp1 allD (mFz (mLc (mOpt itD (mNm 1)) (bNm 2 2) [2] (mRet true) (mFz (mCallN 2 m_is_room (aCons (aVal (mNm 0)) (aCons (aVal (mNm 2)) aNil)))))) vE)) (mFz (mCallN 1 m_is_rising (aCons (aVal (mNm 1)) aNil))) (.bl false)) (.bl false))))
    sNext)
def m_is_order_of : Fn := runB 1
    (sSeq (sIf (mOr (mBnd (mTr (mFz (mCallN 1 m_is_list (aCons (aVal (mNm 1)) aNil)))) fun b => mRet (!b)) (mBnd (mTr (mOp1 allD (mFz (mLc (mOpt itD (mNm 1)) (bNm 2 2) [2] (mRet true) (mFz (mCallN 2 m_is_room (aCons (aVal (mNm 0)) (aCons (aVal (mNm 2)) aNil)))))) vE)) fun b => mRet (!b)) true) (sSeq (sRet (mVal (mRet (.bl false))))
    sNext) sNext)
    (sSeq (sRet (mVal (mOp2 eqD (mFz (mOp1 sortedD (pN 1) (vN 1))) vE (mOp1 (fldD "Web" "own_rooms") (pN 0) (vN 0)) vE)))
    sNext))
def m__law_are_rooms : Fn := runB 1
    (sSeq (sRet (mVal (mAnd (mTr (mOp1 (isiD' [.b "list", .b "tuple"]) (pN 1) (vN 1))) (mOp1 allD (mFz (mLc (mOpt itD (mNm 1)) (bNm 2 2) [2] (mRet true) (mAnd (mTr (mOp1 (isiD' [.b "str"]) (pN 2) (vN 2))) (mOp2 inD (pN 2) (vN 2) (mOp2 itemD (pN 0) (vN 0) (mRet (.int 0)) vE) vE) (.bl false)))) vE) (.bl false))))
    sNext)
def m__law_is_lot : Fn := runB 1
    (sSeq (sRet (mVal (mAnd (mTr (mFz (mCallN 2 m__law_are_rooms (aCons (aVal (mNm 0)) (aCons (aVal (mNm 1)) aNil))))) (mOp2 eqD (mFz (mOp1 listTD (pN 1) (vN 1))) vE (mFz (mLc (mOpt itD (mOp2 itemD (pN 0) (vN 0) (mRet (.int 0)) vE)) (bNm 2 2) [2] (mTr (mOp2 inD (pN 2) (vN 2) (pN 1) (vN 1))) (mNm 2))) vE) (.bl false))))
    sNext)
end HU
set_option maxRecDepth 100000
namespace HU
open PySem PySem.Spec L2
/-! ### texts in order -/
def sLt (x y : Str) : Prop := x.cps.toList < y.cps.toList
instance : DecidableRel sLt := fun x y => inferInstanceAs (Decidable (x.cps.toList < y.cps.toList))
theorem sLt_irrefl (x : Str) : ¬ sLt x x := List.lt_irrefl _
theorem sLt_trans {x y z : Str} (a : sLt x y) (b : sLt y z) : sLt x z := List.lt_trans a b
theorem sLt_asymm {x y : Str} (a : sLt x y) : ¬ sLt y x := List.lt_asymm a
theorem sLt_tri {x y : Str} (h : ¬ sLt x y) (h' : ¬ sLt y x) : x = y := by
  unfold sLt at h h'
  rw [List.not_lt] at h h'
  exact str_ext (List.le_antisymm h' h)
def wLt (p q : Str × Str) : Prop := sLt p.1 q.1 ∨ (p.1 = q.1 ∧ sLt p.2 q.2)
instance : DecidableRel wLt := fun p q => inferInstanceAs (Decidable (_ ∨ _))
theorem wLt_irrefl (p : Str × Str) : ¬ wLt p p := fun h => h.elim (sLt_irrefl _) fun h => sLt_irrefl _ h.2
theorem wLt_trans {p q r : Str × Str} (a : wLt p q) (b : wLt q r) : wLt p r := by
  rcases a with a | ⟨a1, a2⟩ <;> rcases b with b | ⟨b1, b2⟩
  · exact .inl (sLt_trans a b)
  · exact .inl (b1 ▸ a)
  · exact .inl (a1 ▸ b)
  · exact .inr ⟨a1.trans b1, sLt_trans a2 b2⟩
theorem wLt_asymm {p q : Str × Str} (a : wLt p q) : ¬ wLt q p := fun b => wLt_irrefl _ (wLt_trans a b)
theorem wLt_tri {p q : Str × Str} (h : ¬ wLt p q) (h' : ¬ wLt q p) : p = q := by
  have e1 : p.1 = q.1 := sLt_tri (fun z => h (.inl z)) fun z => h' (.inl z)
  have e2 : p.2 = q.2 := sLt_tri (fun z => h (.inr ⟨e1, z⟩)) fun z => h' (.inr ⟨e1.symm, z⟩)
  exact Prod.ext e1 e2
/-- two lists that rise with the same members are one -/
theorem pw_ext {α : Type} {R : α → α → Prop} (asym : ∀ {a b}, R a b → ¬ R b a) : ∀ {l m : List α}, l.Pairwise R → m.Pairwise R → (∀ x, x ∈ l ↔ x ∈ m) → l = m
  | [], [], _, _, _ => rfl
  | [], b :: m, _, _, h => absurd ((h b).mpr List.mem_cons_self) (by simp)
  | a :: l, [], _, _, h => absurd ((h a).mp List.mem_cons_self) (by simp)
  | a :: l, b :: m, h1, h2, h => by
    have e : a = b := by
      rcases List.mem_cons.mp ((h a).mp List.mem_cons_self) with e | ha
      · exact e
      · rcases List.mem_cons.mp ((h b).mpr List.mem_cons_self) with e | hb
        · exact e.symm
        · exact absurd ((List.pairwise_cons.mp h1).1 b hb) (asym ((List.pairwise_cons.mp h2).1 a ha))
    subst e
    have ih := pw_ext asym (List.pairwise_cons.mp h1).2 (List.pairwise_cons.mp h2).2 fun x => by
      have n1 : a ∉ l := fun z => asym ((List.pairwise_cons.mp h1).1 a z) ((List.pairwise_cons.mp h1).1 a z)
      have n2 : a ∉ m := fun z => asym ((List.pairwise_cons.mp h2).1 a z) ((List.pairwise_cons.mp h2).1 a z)
      constructor
      · intro hx
        rcases List.mem_cons.mp ((h x).mp (List.mem_cons_of_mem _ hx)) with e | hx'
        · subst e; exact absurd hx n1
        · exact hx'
      · intro hx
        rcases List.mem_cons.mp ((h x).mpr (List.mem_cons_of_mem _ hx)) with e | hx'
        · subst e; exact absurd hx n2
        · exact hx'
    rw [ih]
/-- sorted -/
def srtS (xs : List Str) : List Str := xs.mergeSort fun a b => !decide (sLt b a)
def srtW (xs : List (Str × Str)) : List (Str × Str) := xs.mergeSort fun a b => !decide (wLt b a)
theorem srtS_perm (xs : List Str) : (srtS xs).Perm xs := List.mergeSort_perm _ _
theorem srtW_perm (xs : List (Str × Str)) : (srtW xs).Perm xs := List.mergeSort_perm _ _
theorem srtS_le (xs : List Str) : (srtS xs).Pairwise fun a b => ¬ sLt b a := by
  refine (List.pairwise_mergeSort (le := fun a b : Str => !decide (sLt b a)) (fun a b c h1 h2 => ?_) (fun a b => ?_) xs).imp fun h => by simpa using h
  · simp only [Bool.not_eq_true', decide_eq_false_iff_not] at *
    intro h3
    by_cases h4 : sLt a b
    · exact h2 (sLt_trans h3 h4)
    · have := sLt_tri h1 h4; subst this; exact h2 h3
  · by_cases h : sLt b a
    · simp [sLt_asymm h]
    · simp [h]
theorem srtW_le (xs : List (Str × Str)) : (srtW xs).Pairwise fun a b => ¬ wLt b a := by
  refine (List.pairwise_mergeSort (le := fun a b : Str × Str => !decide (wLt b a)) (fun a b c h1 h2 => ?_) (fun a b => ?_) xs).imp fun h => by simpa using h
  · simp only [Bool.not_eq_true', decide_eq_false_iff_not] at *
    intro h3
    by_cases h4 : wLt a b
    · exact h2 (wLt_trans h3 h4)
    · have := wLt_tri h1 h4; subst this; exact h2 h3
  · by_cases h : wLt b a
    · simp [wLt_asymm h]
    · simp [h]
theorem pw_strict {α : Type} {R : α → α → Prop} (tri : ∀ {a b}, ¬ R a b → ¬ R b a → a = b) {l : List α} (h : l.Pairwise fun a b => ¬ R b a) (nd : l.Nodup) : l.Pairwise R := by
  induction l with
  | nil => exact .nil
  | cons a l ih =>
    rw [List.pairwise_cons] at h ⊢
    rw [List.nodup_cons] at nd
    refine ⟨fun b hb => ?_, ih h.2 nd.2⟩
    by_cases z : R a b
    · exact z
    · have := tri z (h.1 b hb); subst this; exact absurd hb nd.1
theorem srtS_lt {xs : List Str} (nd : xs.Nodup) : (srtS xs).Pairwise sLt := pw_strict (fun h h' => sLt_tri h h') (srtS_le xs) ((srtS_perm xs).nodup_iff.mpr nd)
theorem srtW_lt {xs : List (Str × Str)} (nd : xs.Nodup) : (srtW xs).Pairwise wLt := pw_strict (fun h h' => wLt_tri h h') (srtW_le xs) ((srtW_perm xs).nodup_iff.mpr nd)
/-- what rises is what is sorted -/
theorem srtS_of {xs ys : List Str} (h : ys.Pairwise sLt) (nd : xs.Nodup) (m : ∀ x, x ∈ ys ↔ x ∈ xs) : srtS xs = ys :=
  pw_ext (fun h => sLt_asymm h) (srtS_lt nd) h fun x => by rw [(srtS_perm xs).mem_iff, m]
theorem srtW_of {xs ys : List (Str × Str)} (h : ys.Pairwise wLt) (nd : xs.Nodup) (m : ∀ x, x ∈ ys ↔ x ∈ xs) : srtW xs = ys :=
  pw_ext (fun h => wLt_asymm h) (srtW_lt nd) h fun x => by rw [(srtW_perm xs).mem_iff, m]
theorem pw_nodup {α : Type} {R : α → α → Prop} (irr : ∀ a, ¬ R a a) {l : List α} (h : l.Pairwise R) : l.Nodup := h.imp fun {a b} r e => by subst e; exact irr _ r
/-! ### .. as data -/
def wD (w : Str × Str) : D := .tup [.str w.1, .str w.2]
def lS (xs : List Str) : D := .lst (xs.map D.str)
def lW (ws : List (Str × Str)) : D := .lst (ws.map wD)
theorem keyOf_str (x y : Str) : (keyOf (.str x) < keyOf (.str y)) ↔ sLt x y := by
  show ([kI (.inr x)] < [kI (.inr y)]) ↔ _
  rw [List.cons_lt_cons_iff]
  simp only [kI, sLt]
  rw [cps_lt]
  simp
theorem kI_str_inj {x y : Str} : kI (.inr x) = kI (.inr y) ↔ x = y := ⟨fun h => by have := kI_inj (k := .inr x) (l := .inr y) rfl h; simpa using this, fun h => by rw [h]⟩
theorem keyOf_w (p q : Str × Str) : (keyOf (wD p) < keyOf (wD q)) ↔ wLt p q := by
  show ([kI (.inr p.1), kI (.inr p.2)] < [kI (.inr q.1), kI (.inr q.2)]) ↔ _
  rw [List.cons_lt_cons_iff, List.cons_lt_cons_iff, kI_str_inj]
  simp only [kI, wLt, sLt]
  rw [cps_lt, cps_lt]
  simp
theorem asInts_strs : ∀ (xs : List Str), xs ≠ [] → asInts (xs.map D.str) = none
  | [], h => absurd rfl h
  | _ :: _, _ => rfl
theorem asKeys_w (w : Str × Str) : asKeys [.str w.1, .str w.2] = some [.inr w.1, .inr w.2] := rfl
theorem asTups_map : ∀ (ws : List (Str × Str)), asTups (ws.map wD) = some (ws.map fun w => [Sum.inr w.1, Sum.inr w.2])
  | [] => rfl
  | w :: ws => by simp [asTups, wD, asKeys_w]; simpa [wD] using asTups_map ws
theorem sortOk_strs (xs : List Str) : sortOk (xs.map D.str) = true := by unfold sortOk; rw [asStrs_map]; simp
theorem sortOk_ws (xs : List (Str × Str)) : sortOk (xs.map wD) = true := by
  unfold sortOk; rw [asTups_map]
  simp [tupsOk, sigOk, sameK]
theorem srtL_strs (xs : List Str) : srtL (xs.map D.str) = (srtS xs).map D.str := by
  refine (srt_uniq (sortOk_strs xs) ((srtS_perm xs).map _) ?_).symm
  rw [List.pairwise_map]
  exact (srtS_le xs).imp fun h => by rw [keyOf_str]; exact h
theorem srtL_ws (xs : List (Str × Str)) : srtL (xs.map wD) = (srtW xs).map wD := by
  refine (srt_uniq (sortOk_ws xs) ((srtW_perm xs).map _) ?_).symm
  rw [List.pairwise_map]
  exact (srtW_le xs).imp fun h => by rw [keyOf_w]; exact h
theorem sorted_src {d : D} {xs : List Str} (h : srcD d = some (xs.map D.str)) : sortedD d = some (.lst ((srtS xs).map D.str)) := by
  unfold sortedD; rw [h]; simp [sortOk_strs, srtL_strs]
theorem sorted_srcW {d : D} {xs : List (Str × Str)} (h : srcD d = some (xs.map wD)) : sortedD d = some (.lst ((srtW xs).map wD)) := by
  unfold sortedD; rw [h]; simp [sortOk_ws, srtL_ws]
@[simp] theorem sorted_lS (xs : List Str) : sortedD (.lst (xs.map D.str)) = some (.lst ((srtS xs).map D.str)) := sorted_src rfl
@[simp] theorem sorted_tS (xs : List Str) : sortedD (.tup (xs.map D.str)) = some (.lst ((srtS xs).map D.str)) := sorted_src rfl
@[simp] theorem sorted_lW (xs : List (Str × Str)) : sortedD (.lst (xs.map wD)) = some (.lst ((srtW xs).map wD)) := sorted_srcW rfl
/-! ### == -/
theorem toPyL_map {α : Type} (f : α → D) (g : α → PyData) (h : ∀ a, toPy (f a) = some (g a)) : ∀ xs : List α, toPyL (xs.map f) = some (xs.map g)
  | [] => rfl
  | x :: xs => by simp [toPyL, h, toPyL_map f g h xs]
theorem canLayAll_map {α : Type} (g : α → PyData) : ∀ (xs : List α), (∀ x ∈ xs, (g x).canLay0 = true) → PyData.canLayAll0 (xs.map g) = true
  | [], _ => by simp [PyData.canLayAll0]
  | x :: xs, h => by simp only [List.map_cons, PyData.canLayAll0, h x List.mem_cons_self, canLayAll_map g xs fun y hy => h y (List.mem_cons_of_mem _ hy), Bool.and_self]
theorem depthAll_map {α : Type} (g : α → PyData) (n : Nat) : ∀ (xs : List α), (∀ x ∈ xs, (g x).depth ≤ n) → PyData.depthAll (xs.map g) ≤ n
  | [], _ => by simp [PyData.depthAll]
  | x :: xs, h => by
    have h1 := h x List.mem_cons_self
    have h2 := depthAll_map g n xs fun y hy => h y (List.mem_cons_of_mem _ hy)
    simp only [List.map_cons, PyData.depthAll]; omega
theorem eqvAll_map {α : Type} [DecidableEq α] (g : α → PyData) (h : ∀ a b, PyData.eqv (g a) (g b) = decide (a = b)) : ∀ xs ys : List α, PyData.eqvAll (xs.map g) (ys.map g) = decide (xs = ys)
  | [], [] => by simp [PyData.eqvAll]
  | [], _ :: _ => by simp [PyData.eqvAll]
  | _ :: _, [] => by simp [PyData.eqvAll]
  | x :: xs, y :: ys => by simp [PyData.eqvAll, h, eqvAll_map g h xs ys]
theorem eqv_str (a b : Str) : PyData.eqv (.str a) (.str b) = decide (a = b) := by
  simp only [PyData.eqv]; by_cases h : a = b <;> simp [h]
def wP (w : Str × Str) : PyData := .tuple [.str w.1, .str w.2]
theorem eqv_w (a b : Str × Str) : PyData.eqv (wP a) (wP b) = decide (a = b) := by
  simp only [wP, PyData.eqv, PyData.eqvAll, eqv_str, Bool.and_true]
  rw [Bool.eq_iff_iff]; simp [Prod.ext_iff]
/-- a text that may stand in a written list -/
def okS (x : Str) : Prop := PyData.strOk x = true
theorem shaped_strs {xs : List Str} (h : ∀ x ∈ xs, okS x) : SeqAt.shaped (.list (xs.map PyData.str)) = true := by
  unfold SeqAt.shaped
  simp only [PyData.canLay0, PyData.depth, Bool.and_eq_true, decide_eq_true_eq]
  refine ⟨canLayAll_map _ _ fun x hx => by have := h x hx; unfold okS at this; simp [PyData.canLay0, this], ?_⟩
  have := depthAll_map PyData.str 0 xs fun x _ => by simp [PyData.depth]
  refine decide_eq_true ?_
  exact Nat.le_trans (Nat.succ_le_succ this) (show 0 + 1 ≤ 64 by decide)
theorem shaped_ws {ws : List (Str × Str)} (h : ∀ w ∈ ws, okS w.1 ∧ okS w.2) : SeqAt.shaped (.list (ws.map wP)) = true := by
  unfold SeqAt.shaped
  simp only [PyData.canLay0, PyData.depth, Bool.and_eq_true, decide_eq_true_eq]
  refine ⟨canLayAll_map _ _ fun x hx => by have := h x hx; unfold okS at this; simp [wP, PyData.canLay0, PyData.canLayAll0, this.1, this.2], ?_⟩
  have := depthAll_map wP 1 ws fun x _ => by simp [wP, PyData.depth, PyData.depthAll]
  refine decide_eq_true ?_
  exact Nat.le_trans (Nat.succ_le_succ this) (show 1 + 1 ≤ 64 by decide)
theorem toPy_lS (xs : List Str) : toPy (.lst (xs.map D.str)) = some (.list (xs.map PyData.str)) := by
  simp only [toPy]; rw [toPyL_map D.str PyData.str (fun _ => rfl)]; rfl
theorem toPy_lW (ws : List (Str × Str)) : toPy (.lst (ws.map wD)) = some (.list (ws.map wP)) := by
  simp only [toPy]; rw [toPyL_map wD wP (fun _ => rfl)]; rfl
theorem eqB_lS {xs ys : List Str} (hx : ∀ x ∈ xs, okS x) (hy : ∀ x ∈ ys, okS x) : eqB (.lst (xs.map D.str)) (.lst (ys.map D.str)) = some (decide (xs = ys)) := by
  have e : eqB (.lst (xs.map D.str)) (.lst (ys.map D.str)) = pyEq (.lst (xs.map D.str)) (.lst (ys.map D.str)) := rfl
  rw [e]; unfold pyEq
  rw [toPy_lS, toPy_lS]
  simp only [Option.bind_some, shaped_strs hx, shaped_strs hy, and_self, if_true]
  rw [show PyData.eqv (.list (xs.map PyData.str)) (.list (ys.map PyData.str)) = PyData.eqvAll (xs.map PyData.str) (ys.map PyData.str) by simp only [PyData.eqv], eqvAll_map _ eqv_str]
theorem eqB_lW {xs ys : List (Str × Str)} (hx : ∀ w ∈ xs, okS w.1 ∧ okS w.2) (hy : ∀ w ∈ ys, okS w.1 ∧ okS w.2) : eqB (.lst (xs.map wD)) (.lst (ys.map wD)) = some (decide (xs = ys)) := by
  have e : eqB (.lst (xs.map wD)) (.lst (ys.map wD)) = pyEq (.lst (xs.map wD)) (.lst (ys.map wD)) := rfl
  rw [e]; unfold pyEq
  rw [toPy_lW, toPy_lW]
  simp only [Option.bind_some, shaped_ws hx, shaped_ws hy, and_self, if_true]
  rw [show PyData.eqv (.list (xs.map wP)) (.list (ys.map wP)) = PyData.eqvAll (xs.map wP) (ys.map wP) by simp only [PyData.eqv], eqvAll_map _ eqv_w]
@[simp] theorem eqD_str (a b : Str) : eqD (.str a) (.str b) = some (.bl (decide (a = b))) := rfl
@[simp] theorem neD_str (a b : Str) : neD (.str a) (.str b) = some (.bl (!decide (a = b))) := rfl
@[simp] theorem eqD_int (a b : Int) : eqD (.int a) (.int b) = some (.bl (decide (a = b))) := rfl
@[simp] theorem neD_int (a b : Int) : neD (.int a) (.int b) = some (.bl (!decide (a = b))) := rfl
@[simp] theorem eqD_bl (a b : Bool) : eqD (.bl a) (.bl b) = some (.bl (decide (a = b))) := rfl
@[simp] theorem neD_bl (a b : Bool) : neD (.bl a) (.bl b) = some (.bl (!decide (a = b))) := rfl
@[simp] theorem ltD_int (a b : Int) : ltD (.int a) (.int b) = some (.bl (decide (a < b))) := rfl
@[simp] theorem leD_int (a b : Int) : leD (.int a) (.int b) = some (.bl (decide (a ≤ b))) := rfl
@[simp] theorem gtD_int (a b : Int) : gtD (.int a) (.int b) = some (.bl (decide (b < a))) := rfl
@[simp] theorem geD_int (a b : Int) : geD (.int a) (.int b) = some (.bl (decide (b ≤ a))) := rfl
@[simp] theorem ltD_str (a b : Str) : ltD (.str a) (.str b) = some (.bl (decide (sLt a b))) := rfl
@[simp] theorem gtD_str (a b : Str) : gtD (.str a) (.str b) = some (.bl (decide (sLt b a))) := rfl
@[simp] theorem addD_int (a b : Int) : addD (.int a) (.int b) = some (.val (.int (a + b))) := rfl
@[simp] theorem subD_int (a b : Int) : subD (.int a) (.int b) = some (.int (a - b)) := rfl
@[simp] theorem negD_int (a : Int) : negD (.int a) = some (.int (-a)) := rfl
@[simp] theorem lenD_lst (xs : List D) : lenD (.lst xs) = some (.int xs.length) := rfl
@[simp] theorem lenD_tup (xs : List D) : lenD (.tup xs) = some (.int xs.length) := rfl
@[simp] theorem lenD_dic (xs : List (Key × D)) : lenD (.dic xs) = some (.int xs.length) := rfl
@[simp] theorem lenD_dit (xs : List (List Key × D)) : lenD (.dit xs) = some (.int xs.length) := rfl
@[simp] theorem isND_non (x : D) : isND x .non = some (.bl (isNon x)) := rfl
@[simp] theorem notND_non (x : D) : notND x .non = some (.bl (!isNon x)) := rfl
@[simp] theorem isNon_non : isNon .non = true := rfl
@[simp] theorem isNon_int (i : Int) : isNon (.int i) = false := rfl
@[simp] theorem isNon_str (i : Str) : isNon (.str i) = false := rfl
@[simp] theorem isNon_bl (i : Bool) : isNon (.bl i) = false := rfl
@[simp] theorem isNon_tup (i : List D) : isNon (.tup i) = false := rfl
@[simp] theorem isNon_lst (i : List D) : isNon (.lst i) = false := rfl
@[simp] theorem itD_lst (xs : List D) : itD (.lst xs) = some xs := rfl
@[simp] theorem itD_tup (xs : List D) : itD (.tup xs) = some xs := rfl
@[simp] theorem srcD_lst (xs : List D) : srcD (.lst xs) = some xs := rfl
@[simp] theorem srcD_tup (xs : List D) : srcD (.tup xs) = some xs := rfl
@[simp] theorem listTD_lst (xs : List D) : listTD (.lst xs) = some (.lst xs) := rfl
@[simp] theorem listTD_tup (xs : List D) : listTD (.tup xs) = some (.lst xs) := rfl
@[simp] theorem tupleD_lst (xs : List D) : tupleD (.lst xs) = some (.val (.tup xs)) := rfl
@[simp] theorem tupleD_tup (xs : List D) : tupleD (.tup xs) = some (.val (.tup xs)) := rfl
@[simp] theorem itemD_tup (xs : List D) (i : Int) : itemD (.tup xs) (.int i) = atI xs i := rfl
@[simp] theorem itemD_lst (xs : List D) (i : Int) : itemD (.lst xs) (.int i) = atI xs i := rfl
theorem atI_nat {α : Type} (xs : List α) (i : Nat) : atI xs (i : Int) = xs[i]? := by
  unfold atI ixN
  by_cases h : i < xs.length
  · simp [h]
  · simp [h]
@[simp] theorem atI_0 {α : Type} (x : α) (xs : List α) : atI (x :: xs) 0 = some x := by simp [atI, ixN]
@[simp] theorem atI_1 {α : Type} (x y : α) (xs : List α) : atI (x :: y :: xs) 1 = some y := by
  have := atI_nat (x :: y :: xs) 1
  simpa using this
/-! ### in -/
theorem flat_strs (xs : List Str) : (xs.map D.str).all flat = true := by simp [flat]
theorem any_eqS (x : Str) : ∀ xs : List Str, ((xs.map D.str).any fun y => eqF y (.str x)) = decide (x ∈ xs)
  | [] => by simp
  | y :: ys => by
    have ih := any_eqS x ys
    rw [List.map_cons, List.any_cons, ih]
    have e : eqF (.str y) (.str x) = (y == x) := rfl
    rw [e]
    by_cases h : y = x
    · subst h; simp
    · have h' : ¬ x = y := fun e => h e.symm
      have h2 : (y == x) = false := by simpa using h
      rw [h2]; simp [h']
@[simp] theorem inB_lS (x : Str) (xs : List Str) : inB (.str x) (.lst (xs.map D.str)) = some (decide (x ∈ xs)) := by
  have e : inB (.str x) (.lst (xs.map D.str)) = if flat (.str x) = true ∧ (xs.map D.str).all flat = true then some ((xs.map D.str).any fun y => eqF y (.str x)) else (toPy (.str x)).bind fun p => (toPyL (xs.map D.str)).bind fun ps => if SeqAt.shaped p = true ∧ SeqAt.shaped (.list ps) = true then some (ps.any fun z => PyData.eqv z p) else none := rfl
  rw [e, if_pos ⟨rfl, flat_strs xs⟩, any_eqS]
@[simp] theorem inB_tS (x : Str) (xs : List Str) : inB (.str x) (.tup (xs.map D.str)) = some (decide (x ∈ xs)) := by
  have e : inB (.str x) (.tup (xs.map D.str)) = if flat (.str x) = true ∧ (xs.map D.str).all flat = true then some ((xs.map D.str).any fun y => eqF y (.str x)) else none := rfl
  rw [e, if_pos ⟨rfl, flat_strs xs⟩, any_eqS]
@[simp] theorem inB_w (x : Str) (w : Str × Str) : inB (.str x) (wD w) = some (decide (x = w.1 ∨ x = w.2)) := by
  have := inB_tS x [w.1, w.2]
  rw [show (.tup ([w.1, w.2].map D.str) : D) = wD w from rfl] at this
  rw [this]; simp
@[simp] theorem inD_e (x y : D) : inD x y = (inB x y).map .bl := rfl
@[simp] theorem ninD_e (x y : D) : ninD x y = (inB x y).map fun b => .bl (!b) := rfl
end HU
set_option maxRecDepth 100000
namespace HU
open PySem PySem.Spec L2
/-! ### names -/
/-- a text of these signs -/
abbrev tx (l : List Nat) : Str := ⟨l.toArray⟩
theorem tx_len (l : List Nat) : (tx l).length = l.length := by simp [Str.length]
theorem tx_cat (a b : List Nat) : tx a ++ tx b = tx (a ++ b) := SX.S_cat a b
theorem tx_inj {a b : List Nat} (h : tx a = tx b) : a = b := SX.S_inj h
theorem tx_tl (x : Str) : tx x.cps.toList = x := SX.S_tl x
theorem signs_eq : ("abcdefghijklmnopqrstuvwxyz" : Str) = tx ((List.range 26).map (97 + ·)) := by decide +kernel
theorem empty_eq : ("" : Str) = tx [] := by decide +kernel
def NmL (l : List Nat) : Prop := 0 < l.length ∧ l.length ≤ 5 ∧ ∀ c ∈ l, 97 ≤ c ∧ c ≤ 122
/-- a drawn name: one to five signs a to z -/
def Nm (x : Str) : Prop := NmL x.cps.toList
theorem Nm.okS {x : Str} (h : Nm x) : okS x := by
  unfold HU.okS PyData.strOk
  rw [← Array.all_toList, List.all_eq_true]
  intro c hc
  have := (h.2.2 c hc).2
  exact decide_eq_true (by omega)
theorem joinL_flat : ∀ ys : List (List Nat), TL.joinL [] ys = ys.flatten
  | [] => rfl
  | [p] => by simp [TL.joinL]
  | p :: q :: r => by
    have := joinL_flat (q :: r)
    simp only [TL.joinL, List.nil_append, List.flatten_cons] at *
    rw [this]
theorem flat_single (cs : List Nat) : (cs.map fun c => [c]).flatten = cs := by induction cs with
  | nil => rfl
  | cons c cs ih => simp only [List.map_cons, List.flatten_cons, ih]; rfl
theorem join_signs (cs : List Nat) : Txt.join ("" : Str) (cs.map fun c => tx [c]) = tx cs := by
  have e := SX.join_S [] (cs.map fun c => [c])
  rw [joinL_flat] at e
  rw [empty_eq]
  have e2 : (cs.map fun c => tx [c]) = (cs.map fun c => [c]).map SX.S := by simp [List.map_map, Function.comp_def]
  rw [e2]
  rw [flat_single] at e
  exact e
theorem strsOf_signs (cs : List Nat) : strsOf (.lst (cs.map fun c => D.str ⟨#[c]⟩)) = some (cs.map fun c => tx [c]) := by
  have : (cs.map fun c => D.str ⟨#[c]⟩) = (cs.map fun c => tx [c]).map D.str := by simp
  show asStrs _ = _
  rw [this, asStrs_map]
theorem joinD_signs {cs : List Nat} (h : cs.length ≤ 100) : joinD (.str "") (.lst (cs.map fun c => D.str ⟨#[c]⟩)) = some (.str (tx cs)) := by
  have q : joinD (.str "") (.lst (cs.map fun c => D.str ⟨#[c]⟩)) = (strsOf (.lst (cs.map fun c => D.str ⟨#[c]⟩))).bind fun ys => if (ys.map fun y : Str => y.length).sum + ys.length * ("" : Str).length ≤ 16777216 then some (.str (Txt.join "" ys)) else none := rfl
  rw [q, strsOf_signs]
  have e : ((cs.map fun c => tx [c]).map fun y : Str => y.length).sum = cs.length := by
    rw [List.map_map]
    have : ∀ l : List Nat, (l.map ((fun y : Str => y.length) ∘ fun c => tx [c])).sum = l.length := fun l => by
      induction l with
      | nil => rfl
      | cons c l ih => simp only [List.map_cons, List.sum_cons, ih]; simp [Str.length]; omega
    exact this cs
  have e2 : ("" : Str).length = 0 := by rw [empty_eq]; rfl
  simp only [Option.bind_some]
  rw [e, e2, if_pos (by simp; omega), join_signs]
theorem signAt {i : Int} (h0 : 0 ≤ i) (h1 : i < 26) : itemD (.str "abcdefghijklmnopqrstuvwxyz") (.int i) = some (.str (tx [97 + i.toNat])) := by
  obtain ⟨n, rfl⟩ : ∃ n : Nat, i = n := ⟨i.toNat, by omega⟩
  have e : itemD (.str "abcdefghijklmnopqrstuvwxyz") (.int n) = if ("abcdefghijklmnopqrstuvwxyz" : Str).length ≤ sizeLine then (atI ("abcdefghijklmnopqrstuvwxyz" : Str).cps.toList n).map fun c => D.str ⟨#[c]⟩ else none := rfl
  rw [e, if_pos (sl_le (by decide +kernel)), signs_eq, atI_nat]
  have : n < 26 := by omega
  simp [this]
theorem slice3 (l : List Nat) (h : l.length ≤ 100) : sliceD (.str (tx l)) none (some 3) = some (.val (.str (tx (l.take 3)))) := by
  have e : sliceD (.str (tx l)) none (some 3) = if (tx l).length ≤ sizeLine then some (.val (.str (cutS (tx l) none (some 3)))) else none := rfl
  rw [e, if_pos (sl_le (by rw [tx_len]; omega))]
  have e2 : cutS (tx l) none (some 3) = tx (l.take 3) := by
    unfold cutS
    have e3 : HT.sIx (tx l).length (tx l).length (some 3) = min 3 l.length := by
      have := HT.sIx_nat (tx l).length (tx l).length 3
      rw [tx_len] at *
      exact this
    have e4 : HT.sIx (tx l).length 0 none = 0 := rfl
    rw [e3, e4]
    show tx ((l.drop 0).take (min 3 l.length - 0)) = _
    simp only [List.drop_zero, Nat.sub_zero]
    have q : l.take (min 3 l.length) = l.take 3 := by
      by_cases z : 3 ≤ l.length
      · rw [Nat.min_eq_left z]
      · rw [Nat.min_eq_right (by omega), List.take_length, List.take_of_length_le (by omega)]
    rw [q]
  rw [e2]
/-- the name behind a turn in which it was taken -/
def nxt (l : List Nat) (at' : Nat) : List Nat := l.take 3 ++ [97 + at' / 26] ++ [97 + at' % 26]
def nth (l : List Nat) : Nat → List Nat
  | 0 => l
  | k + 1 => nxt (nth l k) k
theorem nth_len (l : List Nat) (h : l ≠ []) (h3 : l.length ≤ 3) : ∀ k, (nth l (k + 1)).length ≤ 5 ∧ 3 ≤ (nth l (k + 1)).length
  | 0 => by
    have : 0 < l.length := List.length_pos_iff.mpr h
    simp [nth, nxt]; omega
  | k + 1 => by
    have := nth_len l h h3 k
    rw [nth, nxt]
    simp only [List.length_append, List.length_take, List.length_singleton]
    omega
theorem nth_pre (l : List Nat) (h : l ≠ []) (h3 : l.length ≤ 3) : ∀ k, (nth l (k + 1)).take 3 = (nth l 1).take 3
  | 0 => rfl
  | k + 1 => by
    have h1 := nth_len l h h3 k
    have ih := nth_pre l h h3 k
    have : nth l (k + 1 + 1) = (nth l (k + 1)).take 3 ++ [97 + (k + 1) / 26] ++ [97 + (k + 1) % 26] := rfl
    rw [this, ← ih, List.append_assoc, List.take_append_of_le_length (by simp; omega), List.take_take]
    simp
theorem nth_inj (l : List Nat) (h : l ≠ []) (h3 : l.length ≤ 3) {i j : Nat} (hj : j < 676) (hij : i < j) : nth l i ≠ nth l j := by
  obtain ⟨k, rfl⟩ : ∃ k, j = k + 1 := ⟨j - 1, by omega⟩
  have hl : 0 < l.length := List.length_pos_iff.mpr h
  cases i with
  | zero =>
    intro e
    have e' : l = nth l (k + 1) := e
    cases k with
    | zero =>
      have := congrArg List.length e'
      simp [nth, nxt] at this
      omega
    | succ k =>
      have h5 : (nth l (k + 1 + 1)).length = 5 := by
        have := nth_len l h h3 k
        rw [nth, nxt]
        simp only [List.length_append, List.length_take, List.length_singleton]
        omega
      have := congrArg List.length e'
      omega
  | succ i =>
    obtain ⟨k, rfl⟩ : ∃ m, k = m + 1 := ⟨k - 1, by omega⟩
    intro e
    have e1 : nth l (k + 1 + 1) = (nth l 1).take 3 ++ ([97 + (k + 1) / 26] ++ [97 + (k + 1) % 26]) := by
      rw [← nth_pre l h h3 k]; simp [nth, nxt]
    have hk := nth_len l h h3 k
    have hi := nth_len l h h3 i
    have p3 : ((nth l 1).take 3).length = 3 := by
      have := nth_len l h h3 0
      simp at this ⊢; omega
    cases i with
    | zero =>
      -- nth l 1 = its own first three, and two more
      have e2 : nth l 1 = l ++ [97, 97] := by simp [nth, nxt, List.take_of_length_le h3]
      rw [e1] at e
      have l5 := congrArg List.length e
      simp only [List.length_append, p3, List.length_singleton] at l5
      have e3 : l.length = 3 := by rw [e2] at l5; simp at l5; omega
      have e4 : (nth l 1).take 3 = l := by rw [e2, List.take_append_of_le_length (by omega), List.take_of_length_le (by omega)]
      rw [e4, e2] at e
      have := List.append_cancel_left e
      simp at this
      omega
    | succ i =>
      have e2 : nth l (i + 1 + 1) = (nth l 1).take 3 ++ ([97 + (i + 1) / 26] ++ [97 + (i + 1) % 26]) := by
        rw [← nth_pre l h h3 i]; simp [nth, nxt]
      rw [e1, e2] at e
      have := List.append_cancel_left e
      simp at this
      omega
theorem nth_free (l : List Nat) (h : l ≠ []) (h3 : l.length ≤ 3) (found : List Str) (hf : found.length < 600) : ∃ k ≤ found.length, tx (nth l k) ∉ found := by
  refine Classical.byContradiction fun hn => ?_
  have all : ∀ k ≤ found.length, tx (nth l k) ∈ found := fun k hk => Classical.byContradiction fun z => hn ⟨k, hk, z⟩
  have nd : ((List.range (found.length + 1)).map fun k => tx (nth l k)).Nodup := by
    rw [List.Nodup, List.pairwise_map]
    refine List.Pairwise.imp_of_mem (fun {a b} ha hb r e => ?_) List.pairwise_lt_range
    rw [List.mem_range] at ha hb
    exact nth_inj l h h3 (by omega) r (tx_inj e)
  have sub : ((List.range (found.length + 1)).map fun k => tx (nth l k)) ⊆ found := fun x hx => by
    obtain ⟨k, hk, rfl⟩ := List.mem_map.mp hx
    rw [List.mem_range] at hk
    exact all k (by omega)
  have := List.Nodup.length_le_of_subset nd sub
  simp at this
  omega
theorem nth_nm {l : List Nat} (h : l ≠ []) (h3 : l.length ≤ 3) (hl : ∀ c ∈ l, 97 ≤ c ∧ c ≤ 122) : ∀ k, k ≤ 600 → NmL (nth l k)
  | 0, _ => ⟨List.length_pos_iff.mpr h, by simp only [nth]; omega, hl⟩
  | k + 1, hk => by
    have := nth_len l h h3 k
    refine ⟨by omega, this.1, fun c hc => ?_⟩
    have ih := nth_nm h h3 hl k (by omega)
    simp only [nth, nxt, List.mem_append, List.mem_singleton] at hc
    rcases hc with (hc | rfl) | rfl
    · exact ih.2.2 c (List.mem_of_mem_take hc)
    · omega
    · omega
end HU
set_option maxRecDepth 100000
namespace HU
open PySem PySem.Spec L2
/-! ### more mirrors, behind -/
section
variable {α β τ υ : Type} {e : List Sl} {n i : Nat}
def Sl.asL : Sl → Option (List D)
  | .lst xs => some xs
  | _ => Option.none
@[simp] theorem asL_lst {xs : List D} : (Sl.lst xs).asL = some xs := rfl
@[simp] theorem isLst_lst {xs : List D} : isLst (.lst xs) = true := rfl
@[simp] theorem mLM_e {g : List D → List D → Option (D × List D)} {ms : Mr (List D)} : mLM i g ms e = if (e[i]?).any isLst = true then (ms e).bind fun t => ((t.2[i]?).bind Sl.asL).bind fun xs => (g xs t.1).map fun q => (q.1, t.2.set i (.lst q.2)) else none := by
  unfold mLM
  split
  · congr 1; funext t
    cases t.2[i]? with
    | none => rfl
    | some s => cases s <;> rfl
  · rfl
@[simp] theorem appG_e {xs : List D} {d : D} : appG xs [d] = if xs.length < sizeLine then some (.non, xs ++ [d]) else none := rfl
@[simp] theorem extG_e {xs zs : List D} : extG xs [.lst zs] = if xs.length + zs.length ≤ sizeLine then some (.non, xs ++ zs) else none := rfl
@[simp] theorem mSl_e {pa : Mr τ} {qa : τ → List Sl → Option D} {ml mh : Mr (Option Int)} : mSl pa qa ml mh e = (pa e).bind fun t => (ml t.2).bind fun l => (mh l.2).bind fun h => (qa t.1 h.2).bind fun d => (sliceD d l.1 h.1).bind fun s => some (s, h.2) := rfl
@[simp] theorem intO_int {i : Int} : intO (.int i) = some (some i) := rfl
def insOf (c mt : Str) : D → Option Unit
  | .ins c' fs => if c' = c ∧ fs.lookup mt = none then some () else none
  | _ => none
@[simp] theorem insOf_e {c mt c' : Str} {fs : List (Str × D)} : insOf c mt (.ins c' fs) = if c' = c ∧ fs.lookup mt = none then some () else none := rfl
@[simp] theorem seeAg_v {d : D} : seeAg e (.v d) = some d := rfl
@[simp] theorem seeAg_rf : seeAg e (.rf i) = (e[i]?).bind Sl.see := rfl
@[simp] theorem seeAg_pk : seeAg e (.pk i) = (e[i]?).bind Sl.see := rfl
@[simp] theorem mMeth_e {f : Fn} {c mt : Str} {m0 : Mr Ag} {ms : Mr (List Ag)} : mMeth n f c mt m0 ms e = (m0 e).bind fun g0 => (seeAg g0.2 g0.1).bind fun d => (insOf c mt d).bind fun _ => (ms g0.2).bind fun g => callOf n f (g0.1 :: g.1) g.2 := by
  unfold mMeth
  congr 1; funext g0
  cases seeAg g0.2 g0.1 with
  | none => rfl
  | some d =>
    cases d <;> try rfl
    rename_i c' fs
    simp only [Option.bind_some, insOf_e]
    split <;> rfl
def mkR (n : Nat) : Sl × List Sl → Option Sl
  | (.val .non, s :: sls) => if s.own = true ∧ sls.length + 1 = n then some s else none
  | _ => none
@[simp] theorem mkR_e {s : Sl} {sls : List Sl} : mkR n (.val .non, s :: sls) = if s.own = true ∧ sls.length + 1 = n then some s else none := rfl
@[simp] theorem isV_v {d : D} : isV (.v d) = true := rfl
@[simp] theorem dOf_v {d : D} : dOf (.v d) = d := rfl
@[simp] theorem mMake_e {f : Fn} {c : Str} {ms : Mr (List Ag)} : mMake n f c ms e = (ms e).bind fun g => if g.1.all isV = true ∧ g.1.length + 1 = n then (f (.ins c [] :: g.1.map fun x => .val (dOf x))).bind fun r => (mkR n r).map fun s => (s, g.2) else none := by
  unfold mMake
  congr 1; funext g
  split
  · congr 1; funext r
    obtain ⟨s, sls⟩ := r
    cases s <;> try rfl
    rename_i d
    cases d <;> try rfl
    cases sls with
    | nil => rfl
    | cons s sls => simp only [mkR_e]; split <;> rfl
  · rfl
def Sl.insC (c : Str) : Sl → Option (List (Str × D))
  | .ins c' fs => if c' = c ∧ fs.length < 1000 then some fs else Option.none
  | _ => Option.none
@[simp] theorem insC_e {c c' : Str} {fs : List (Str × D)} : (Sl.ins c' fs).insC c = if c' = c ∧ fs.length < 1000 then some fs else none := rfl
@[simp] theorem sFldD_e {c f : Str} {mv : Mr D} : sFldD i c f mv e = (mv e).bind fun v => ((v.2[i]?).bind (Sl.insC c)).map fun fs => .next (v.2.set i (.ins c (putFD f v.1 fs))) := by
  unfold sFldD sOf
  dsimp only
  cases mv e with
  | none => rfl
  | some v =>
    simp only [Option.bind_some]
    generalize v.2[i]? = w
    cases w with
    | none => rfl
    | some s =>
      cases s <;> try rfl
      rename_i c' fs
      simp only [Option.bind_some, insC_e]
      by_cases h : c' = c ∧ fs.length < 1000
      · simp [h]
      · simp [h]
@[simp] theorem sPut_e {mk mv : Mr D} : sPut i mk mv e = (mv e).bind fun v => if (v.2[i]?).any Sl.own = true then (mk v.2).bind fun k => (k.2[i]?).bind fun s => (putSl k.1 v.1 s).map fun s' => .next (k.2.set i s') else none := by
  unfold sPut sOf
  dsimp only
  cases mv e with
  | none => rfl
  | some v =>
    simp only [Option.bind_some]
    split
    · cases mk v.2 with
      | none => rfl
      | some k =>
        simp only [Option.bind_some]
        generalize k.2[i]? = w
        cases w with
        | none => rfl
        | some s => simp only [Option.bind_some, Option.map_map]; rfl
    · rfl
@[simp] theorem putSl_dic {k v : D} {kvs : List (Key × D)} : putSl k v (.dic kvs) = if kvs.length < sizeLine then (asKey k).map fun k => .dic (putA kvs k v) else none := rfl
@[simp] theorem putSl_dit {ks : List D} {v : D} {kvs : List (List Key × D)} : putSl (.tup ks) v (.dit kvs) = if kvs.length < sizeLine then (asKeys ks).map fun k => .dit (putA kvs k v) else none := rfl
@[simp] theorem asKey_str {x : Str} : asKey (.str x) = some (.inr x) := rfl
@[simp] theorem asKey_int {x : Int} : asKey (.int x) = some (.inl x) := rfl
@[simp] theorem fldD_e {c f c' : Str} {fs : List (Str × D)} : fldD c f (.ins c' fs) = if c' = c then fs.lookup f else none := rfl
@[simp] theorem mChain_e {g g' : D → D → Option D} {ma mb mc : Mr D} : mChain g g' ma mb mc e = (ma e).bind fun x => (mb x.2).bind fun y => (g x.1 y.1).bind fun d => d.tr.bind fun b => if b = true then (mc y.2).bind fun z => (g' y.1 z.1).map fun d => (d, z.2) else some (.bl false, y.2) := by
  unfold mChain
  congr 1; funext x; congr 1; funext y; congr 1; funext d
  cases d <;> try rfl
  rename_i b
  cases b <;> rfl
end
/-! ### slices -/
theorem sIx_n {n d : Nat} {k : Int} (h : 0 ≤ k) : HT.sIx n d (some k) = min k.toNat n := by
  have := HT.sIx_nat n d k.toNat
  rwa [show ((k.toNat : Nat) : Int) = k by omega] at this
theorem cutL_to {α : Type} (xs : List α) {k : Int} (h : 0 ≤ k) : cutL xs none (some k) = xs.take k.toNat := by
  unfold cutL
  rw [sIx_n h, HT.sIx_none]
  simp only [Nat.sub_zero, List.drop_zero]
  by_cases z : k.toNat ≤ xs.length
  · rw [Nat.min_eq_left z]
  · rw [Nat.min_eq_right (by omega), List.take_length, List.take_of_length_le (by omega)]
theorem cutL_from {α : Type} (xs : List α) {k : Int} (h : 0 ≤ k) : cutL xs (some k) none = xs.drop k.toNat := by
  unfold cutL
  rw [sIx_n h, HT.sIx_none]
  by_cases z : k.toNat ≤ xs.length
  · rw [Nat.min_eq_left z, List.take_of_length_le (by simp)]
  · rw [Nat.min_eq_right (by omega), List.drop_length, List.drop_of_length_le (by omega)]; simp
theorem cutL_last {α : Type} (xs : List α) : cutL xs none (some (-1)) = xs.dropLast := by
  unfold cutL
  have : HT.sIx xs.length xs.length (some (-1)) = xs.length - 1 := by
    show (if (-1 : Int) < 0 then ((-1 : Int) + (xs.length : Int)).toNat else min (-1 : Int).toNat xs.length) = _
    rw [if_pos (by decide)]; omega
  rw [this, HT.sIx_none]
  simp [List.dropLast_eq_take]
@[simp] theorem slice_lst (xs : List D) (lo hi : Option Int) : sliceD (.lst xs) lo hi = some (.lst (cutL xs lo hi)) := rfl
@[simp] theorem slice_tup (xs : List D) (lo hi : Option Int) : sliceD (.tup xs) lo hi = some (.val (.tup (cutL xs lo hi))) := rfl
theorem cutL_map {α β : Type} (f : α → β) (xs : List α) (lo hi : Option Int) : cutL (xs.map f) lo hi = (cutL xs lo hi).map f := by
  unfold cutL; simp [List.map_take, List.map_drop]
theorem op_iff {α : Type} {o : Option α} {x : α} : (Op o fun y => y = x) ↔ o = some x := ⟨Op.eq, fun h => Op.of h rfl⟩
end HU
set_option maxRecDepth 100000
set_option maxHeartbeats 0
namespace HU
open PySem PySem.Spec L2
/-! ### unlike drawn names -/
@[simp] theorem agOk_e {gs : List Ag} : agOk gs = (decide ((rfs 0 gs).length ≤ 1) && (rfs 0 gs).all fun q => gs.all fun g => match g with
  | .pk i => i != q.2
  | _ => true) := rfl
theorem op_names {S : Stm} {k : Nat} {many : Int} {Q : Sl × List Sl → Prop} (g : GSt S (k + 5 * many.toNat)) (h0 : 0 ≤ many) (h1 : many ≤ 100)
    (q : ∀ (xs : List Str) S', xs.length = many.toNat → xs.Nodup → (∀ x ∈ xs, Nm x) → GSt S' k → Q (.lst (xs.map D.str), [.stm S', .none])) : Op (m__law_names [.stm S, .val (.int many)]) Q := by
  unfold m__law_names
  simp
  refine op_rng1 (by omega) h0 ?_
  simp
  refine op_forL (fun i : Nat => D.int i) (fun done rest e => ∃ (S' : Stm) (found : List Str) (X4 X5 X6 : Sl), e = [.stm S', .val (.int many), .lst (found.map D.str), .val (.str "abcdefghijklmnopqrstuvwxyz"), X4, X5, X6, .none] ∧ found.length = done.length ∧ found.Nodup ∧ (∀ x ∈ found, Nm x) ∧ GSt S' (k + 5 * rest.length)) (List.range many.toNat) _ ?_ ?_ ?_
  · exact ⟨S, [], .none, .none, .none, rfl, rfl, List.nodup_nil, by simp, by simpa using g⟩
  · rintro done x rest e he ⟨S', found, X4, X5, X6, rfl, hl, nd, nm, g⟩
    have hlen : done.length + 1 + rest.length = many.toNat := by
      have := congrArg List.length he
      simp at this; omega
    simp only [List.length_cons] at g
    simp [sl_le, callOf_e]
    refine op_pickL (k := k + 5 * rest.length + 4) (by exact g.le (by omega)) (by simp) (by simp) fun y S1 hy g1 => ?_
    obtain ⟨w, rfl, hw0, hw1⟩ : ∃ w : Int, y = .int w ∧ 1 ≤ w ∧ w ≤ 3 := by
      simp at hy
      rcases hy with rfl | rfl
      · exact ⟨1, rfl, by omega, by omega⟩
      · exact ⟨3, rfl, by omega, by omega⟩
    simp
    refine op_draw (k := k + 5 * rest.length + 3) (n := w) g1 (by omega) (by omega) fun i S2 i0 i1 g2 => ?_
    simp
    refine op_rng1 (by omega) (by omega) ?_
    simp
    refine op_lc (fun i : Nat => D.int i) (fun dn out rs e => ∃ (S3 : Stm) (cs : List Nat), e = [.stm S3, .val (.int many), .lst (found.map D.str), .val (.str "abcdefghijklmnopqrstuvwxyz"), .val (.int x), X5, X6, .none] ∧ out = cs.map (fun c => D.str ⟨#[c]⟩) ∧ cs.length = dn.length ∧ (∀ c ∈ cs, 97 ≤ c ∧ c ≤ 122) ∧ GSt S3 (k + 5 * rest.length + rs.length)) _ _ ?_ ?_ ?_
    · exact ⟨S2, [], rfl, rfl, rfl, by simp, g2.le (by simp; omega)⟩
    · rintro dn out z rs e he2 ⟨S3, cs, rfl, rfl, hcl, hcs, g3⟩
      simp only [List.length_cons] at g3
      simp [callOf_e]
      refine op_pickS (k := k + 5 * rest.length + rs.length) (by exact g3) (by decide +kernel) (by decide +kernel) fun c S4 hc g4 => ?_
      simp
      refine At.i ⟨S4, cs ++ [c], rfl, by simp, by simp [hcl], fun c' hc' => ?_, g4⟩
      rcases List.mem_append.mp hc' with h | h
      · exact hcs c' h
      · rw [List.mem_singleton.mp h]
        rw [signs_eq] at hc
        simp at hc
        obtain ⟨a, ha, rfl⟩ := hc
        omega
    · rintro out e ⟨S3, cs, rfl, rfl, hcl, hcs, g3⟩
      have hcl' : cs.length = (1 + i).toNat := by rw [hcl]; simp
      have hne : cs ≠ [] := by rintro rfl; simp at hcl'; omega
      have hc3 : cs.length ≤ 3 := by omega
      simp [sl_le (show cs.length < 10000000 by omega), joinD_signs (show cs.length ≤ 100 by omega)]
      refine op_rng1 (by omega) (by omega) ?_
      simp
      refine op_forL (fun i : Nat => D.int i) (fun dn rs e => ∃ (l : List Nat) (X6 : Sl), e = [.stm S3, .val (.int many), .lst (found.map D.str), .val (.str "abcdefghijklmnopqrstuvwxyz"), .val (.int x), .val (.str (tx l)), X6, .none] ∧ NmL l ∧ (tx l ∉ found ∨ (l = nth cs dn.length ∧ ∀ j < dn.length, tx (nth cs j) ∈ found))) (List.range (found.length + 1)) _ ?_ ?_ ?_
      · exact ⟨cs, X6, rfl, ⟨by have := List.length_pos_iff.mpr hne; omega, by omega, hcs⟩, .inr ⟨rfl, by simp⟩⟩
      · rintro dn z rs e he3 ⟨l, X6, rfl, hl5, hin⟩
        have hz : z = dn.length ∧ z ≤ found.length := by
          have h1 := congrArg (fun l => l[dn.length]?) he3
          have h2 := congrArg List.length he3
          simp at h1 h2
          rw [List.getElem?_range (by omega)] at h1
          simp at h1; omega
        simp
        by_cases hmem : tx l ∈ found
        · have s1 := signAt (i := (z : Int).fdiv 26) (Int.fdiv_nonneg (by omega) (by omega)) (by rw [Int.fdiv_eq_ediv_of_nonneg _ (by omega)]; omega)
          have s2 := signAt (i := (z : Int).fmod 26) (Int.fmod_nonneg_of_pos _ (by omega)) (Int.fmod_lt_of_pos _ (by omega))
          have f1 : fdivD (.int z) (.int 26) = some (.int ((z : Int).fdiv 26)) := rfl
          have f2 : modD (.int z) (.int 26) = some (.int ((z : Int).fmod 26)) := rfl
          have hll := hl5.2.1
          have a1 : ∀ a b : List Nat, a.length + b.length ≤ 1000 → addD (.str (tx a)) (.str (tx b)) = some (.val (.str (tx (a ++ b)))) := fun a b h => by
            show (if (tx a).length + (tx b).length ≤ sizeLine then some (Sl.val (.str (tx a ++ tx b))) else none) = _
            rw [if_pos (sl_le (by rw [tx_len, tx_len]; omega)), tx_cat]
          simp only [hmem]
          simp [f1, f2, s1, s2, slice3 l (by omega)]
          rw [a1 _ _ (by simp; omega)]
          simp [f1, f2, s1, s2]
          rw [a1 _ _ (by simp; omega)]
          simp
          rcases hin with hin | ⟨hl, hj⟩
          · exact absurd hmem hin
          · have e1 : 97 + ((z : Int).fdiv 26).toNat = 97 + z / 26 := by rw [Int.fdiv_eq_ediv_of_nonneg _ (by omega)]; omega
            have e2 : 97 + ((z : Int).fmod 26).toNat = 97 + z % 26 := by rw [Int.fmod_eq_emod_of_nonneg _ (by omega)]; omega
            have e3 : nth cs (dn.length + 1) = List.take 3 l ++ [97 + ((z : Int).fdiv 26).toNat] ++ [97 + ((z : Int).fmod 26).toNat] := by
              rw [e1, e2, hl, hz.1]; rfl
            rw [List.append_assoc] at e3
            refine At.i ⟨_, _, rfl, ?_, .inr ⟨?_, ?_⟩⟩
            · exact e3 ▸ nth_nm hne hc3 hcs _ (by omega)
            · rw [List.length_append]; exact e3.symm
            · intro j hj'
              rw [List.length_append, List.length_singleton] at hj'
              by_cases e : j = dn.length
              · rw [e, ← hl]; exact hmem
              · exact hj j (by omega)
        · simp [hmem]
          exact At.i ⟨l, _, rfl, hl5, .inl hmem⟩
      · rintro e ⟨l, X6, rfl, hl5, hin⟩
        have hfree : tx l ∉ found := by
          rcases hin with h | ⟨h, hj⟩
          · exact h
          · obtain ⟨j, hj1, hj2⟩ := nth_free cs hne hc3 found (by omega)
            exact absurd (hj j (by simp; omega)) hj2
        simp [sl_lt (show found.length < 10000000 by omega)]
        refine At.i ⟨S3, found ++ [tx l], _, _, _, by simp; exact ⟨rfl, rfl, rfl⟩, by simp [hl], ?_, ?_, ?_⟩
        · rw [List.nodup_append]
          exact ⟨nd, by simp, fun a ha b hb e => by rw [List.mem_singleton.mp hb] at e; exact hfree (e ▸ ha)⟩
        · intro y hy
          rcases List.mem_append.mp hy with h | h
          · exact nm y h
          · rw [List.mem_singleton.mp h]; exact hl5
        · exact g3.le (by simp)
  · rintro e ⟨S', found, X4, X5, X6, rfl, hl, nd, nm, g⟩
    simp
    exact q found S' (by simpa using hl) nd nm (g.le (by simp))
end HU
set_option maxRecDepth 100000
set_option maxHeartbeats 0
namespace HU
open PySem PySem.Spec L2
/-! ### keys that stand once -/
def uniq {α : Type} [DecidableEq α] (acc xs : List α) : List α := xs.foldl (fun acc x => if x ∈ acc then acc else acc ++ [x]) acc
theorem uniq_mem {α : Type} [DecidableEq α] {x : α} : ∀ (xs acc : List α), x ∈ uniq acc xs ↔ x ∈ acc ∨ x ∈ xs
  | [], acc => by simp [uniq]
  | y :: xs, acc => by
    have ih := uniq_mem (x := x) xs (if y ∈ acc then acc else acc ++ [y])
    unfold uniq at *
    simp only [List.foldl_cons]
    rw [ih]
    by_cases h : y ∈ acc
    · simp only [h, if_true, List.mem_cons]
      exact ⟨fun z => z.elim .inl fun z => .inr (.inr z), fun z => z.elim .inl fun z => z.elim (fun e => .inl (e ▸ h)) .inr⟩
    · simp only [h, if_false, List.mem_append, List.mem_singleton, List.mem_cons, or_assoc, List.not_mem_nil, false_or]
theorem uniq_nodup {α : Type} [DecidableEq α] : ∀ (xs acc : List α), acc.Nodup → (uniq acc xs).Nodup
  | [], acc, h => h
  | y :: xs, acc, h => by
    have ih := uniq_nodup xs (if y ∈ acc then acc else acc ++ [y])
    unfold uniq at *
    simp only [List.foldl_cons]
    refine ih ?_
    by_cases z : y ∈ acc
    · simpa [z] using h
    · simp only [z, if_false]
      rw [List.nodup_append]
      exact ⟨h, by simp, fun a ha b hb e => by rw [List.mem_singleton.mp hb] at e; exact z (e ▸ ha)⟩
theorem uniq_len {α : Type} [DecidableEq α] : ∀ (xs acc : List α), (uniq acc xs).length ≤ acc.length + xs.length
  | [], acc => by simp [uniq]
  | y :: xs, acc => by
    have ih := uniq_len xs (if y ∈ acc then acc else acc ++ [y])
    unfold uniq at *
    simp only [List.foldl_cons, List.length_cons]
    refine Nat.le_trans ih ?_
    split <;> simp <;> omega
/-- a dict whose values are all one: a key stored -/
theorem putA_uniq {α κ : Type} [DecidableEq κ] [DecidableEq α] {f : α → κ} (inj : ∀ a b, f a = f b → a = b) (d : D) (us : List α) (a : α) : putA (us.map fun a => (f a, d)) (f a) d = (if a ∈ us then us else us ++ [a]).map fun a => (f a, d) := by
  unfold putA
  have e : ((us.map fun a => (f a, d)).any fun kv => decide (kv.1 = f a)) = decide (a ∈ us) := by
    induction us with
    | nil => rfl
    | cons u us ih =>
      simp only [List.map_cons, List.any_cons, ih]
      by_cases h : u = a
      · subst h; simp
      · have h1 : ¬ f u = f a := fun e => h (inj _ _ e)
        have h2 : ¬ a = u := fun e => h e.symm
        simp [h1, h2]
  rw [e]
  by_cases h : a ∈ us
  · simp only [h, decide_true, if_true, List.map_map]
    apply List.map_congr_left
    intro u _
    simp only [Function.comp]
    split <;> rfl
  · simp [h]
theorem putAll_uniq {α κ : Type} [DecidableEq κ] [DecidableEq α] {f : α → κ} (inj : ∀ a b, f a = f b → a = b) (d : D) : ∀ (xs us : List α), (xs.map fun a => (f a, d)).foldl (fun acc kv => putA acc kv.1 kv.2) (us.map fun a => (f a, d)) = (uniq us xs).map fun a => (f a, d)
  | [], us => rfl
  | x :: xs, us => by
    simp only [List.map_cons, List.foldl_cons]
    rw [putA_uniq inj, putAll_uniq inj d xs]
    rfl
theorem getA_uniq {α κ : Type} [DecidableEq κ] {f : α → κ} (inj : ∀ a b, f a = f b → a = b) (d : D) [DecidableEq α] (a : α) : ∀ us : List α, getA (us.map fun a => (f a, d)) (f a) = if a ∈ us then some d else none
  | [] => rfl
  | u :: us => by
    simp only [List.map_cons, getA, getA_uniq inj d a us]
    by_cases h : u = a
    · subst h; simp
    · have h1 : ¬ f u = f a := fun e => h (inj _ _ e)
      have h2 : ¬ a = u := fun e => h e.symm
      simp [h1, h2]
def kW (w : Str × Str) : List Key := [.inr w.1, .inr w.2]
theorem kW_inj (a b : Str × Str) (h : kW a = kW b) : a = b := by
  simp only [kW, List.cons.injEq, Sum.inr.injEq, and_true] at h
  exact Prod.ext h.1 h.2
def kS (x : Str) : Key := .inr x
theorem kS_inj (a b : Str) (h : kS a = kS b) : a = b := by simpa [kS] using h
/-! ### the lesser, the greater -/
def wlo (w : Str × Str) : Str := if sLt w.2 w.1 then w.2 else w.1
def whi (w : Str × Str) : Str := if sLt w.1 w.2 then w.2 else w.1
theorem minA_w (w : Str × Str) : minA (wD w) = some (.str (wlo w)) := by
  show some (D.str (minS w.1 [w.2])) = _
  unfold minS wlo sLt
  simp
theorem maxA_w (w : Str × Str) : maxA (wD w) = some (.str (whi w)) := by
  show some (D.str (maxS w.1 [w.2])) = _
  unfold maxS whi sLt
  simp
def wnm (w : Str × Str) : Str × Str := (wlo w, whi w)
theorem wnm_lt {w : Str × Str} (h : w.1 ≠ w.2) : sLt (wlo w) (whi w) ∧ ((wlo w = w.1 ∧ whi w = w.2) ∨ (wlo w = w.2 ∧ whi w = w.1)) := by
  unfold wlo whi
  by_cases h1 : sLt w.1 w.2
  · have h2 := sLt_asymm h1
    simp [h1, h2]
  · by_cases h2 : sLt w.2 w.1
    · simp [h1, h2]
    · exact absurd (sLt_tri h1 h2) h
/-! ### a law's web -/
structure Wb where
  rooms : List Str
  wires : List (Str × Str)
def Wb.d (w : Wb) : D := .tup [.lst (w.rooms.map D.str), .lst (w.wires.map wD)]
structure Wb.Ok (w : Wb) : Prop where
  rs : w.rooms.Pairwise sLt
  nm : ∀ x ∈ w.rooms, Nm x
  ne : w.rooms ≠ []
  rl : w.rooms.length ≤ 100
  ws : w.wires.Pairwise wLt
  wr : ∀ e ∈ w.wires, e.1 ∈ w.rooms ∧ e.2 ∈ w.rooms ∧ sLt e.1 e.2
  wl : w.wires.length ≤ 10000
theorem perm_mapS {ds : List D} {xs : List Str} (h : ds.Perm (xs.map D.str)) : ∃ ys : List Str, ds = ys.map D.str ∧ ys.Perm xs := by
  have hm : ∀ d ∈ ds, ∃ y, d = D.str y := fun d hd => by
    obtain ⟨y, _, rfl⟩ := List.mem_map.mp (h.mem_iff.mp hd); exact ⟨y, rfl⟩
  let g : D → Str := fun d => match d with | .str x => x | _ => ⟨#[]⟩
  refine ⟨ds.map g, ?_, ?_⟩
  · rw [List.map_map]
    conv => lhs; rw [← List.map_id ds]
    apply List.map_congr_left
    intro d hd
    obtain ⟨y, rfl⟩ := hm d hd
    rfl
  · have := h.map g
    rw [List.map_map] at this
    simpa [Function.comp_def, g] using this
theorem perm_mapW {ds : List D} {xs : List (Str × Str)} (h : ds.Perm (xs.map wD)) : ∃ ys : List (Str × Str), ds = ys.map wD ∧ ys.Perm xs := by
  have hm : ∀ d ∈ ds, ∃ y, d = wD y := fun d hd => by
    obtain ⟨y, _, rfl⟩ := List.mem_map.mp (h.mem_iff.mp hd); exact ⟨y, rfl⟩
  let g : D → Str × Str := fun d => match d with | .tup [.str x, .str y] => (x, y) | _ => (⟨#[]⟩, ⟨#[]⟩)
  have hg : ∀ w, g (wD w) = w := fun w => rfl
  refine ⟨ds.map g, ?_, ?_⟩
  · rw [List.map_map]
    conv => lhs; rw [← List.map_id ds]
    apply List.map_congr_left
    intro d hd
    obtain ⟨y, rfl⟩ := hm d hd
    rfl
  · have := h.map g
    rw [List.map_map] at this
    have e : xs.map (g ∘ wD) = xs := by
      conv => rhs; rw [← List.map_id xs]
      exact List.map_congr_left fun w _ => hg w
    rwa [e] at this
theorem op_mixedS {S : Stm} {k : Nat} {d : D} {xs : List Str} {Q : Sl × List Sl → Prop} (hs : srcD d = some (xs.map D.str)) (g : GSt S (k + xs.length)) (hl : xs.length < 100000) (q : ∀ (ys : List Str) S', ys.Perm xs → GSt S' k → Q (.lst (ys.map D.str), [.stm S', .none])) : Op (mMixed [.stm S, .val d]) Q :=
  op_mixed hs (by simpa using g) (by simpa using hl) fun ds S' hp g' => by
    obtain ⟨ys, rfl, hp2⟩ := perm_mapS hp
    exact q ys S' hp2 g'
theorem op_mixedW {S : Stm} {k : Nat} {d : D} {xs : List (Str × Str)} {Q : Sl × List Sl → Prop} (hs : srcD d = some (xs.map wD)) (g : GSt S (k + xs.length)) (hl : xs.length < 100000) (q : ∀ (ys : List (Str × Str)) S', ys.Perm xs → GSt S' k → Q (.lst (ys.map wD), [.stm S', .none])) : Op (mMixed [.stm S, .val d]) Q :=
  op_mixed hs (by simpa using g) (by simpa using hl) fun ds S' hp g' => by
    obtain ⟨ys, rfl, hp2⟩ := perm_mapW hp
    exact q ys S' hp2 g'
end HU
set_option maxRecDepth 100000
set_option maxHeartbeats 0
namespace HU
open PySem PySem.Spec L2
/-! ### a drawn web -/
theorem atI_map {α : Type} (f : α → D) (xs : List α) {i : Int} (h0 : 0 ≤ i) (h1 : i < xs.length) : ∃ x, xs[i.toNat]? = some x ∧ atI (xs.map f) i = some (f x) := by
  have hj : i.toNat < xs.length := by omega
  obtain ⟨n, rfl⟩ : ∃ n : Nat, i = n := ⟨i.toNat, by omega⟩
  have hn : n < xs.length := by omega
  rw [atI_nat]
  exact ⟨xs[n], by simp [hn], by simp [hn]⟩
theorem ite_rng2 {c : Prop} [Decidable c] {x a b : Int} {Q : List D → Prop} (h : ∀ n, (n = a ∨ n = b) → Op (rng2D (.int x) (.int n)) Q) : if c then Op (rng2D (.int x) (.int a)) Q else Op (rng2D (.int x) (.int b)) Q := by
  split
  · exact h a (.inl rfl)
  · exact h b (.inr rfl)
theorem mem_at {α : Type} {xs : List α} {i : Nat} {x : α} (h : xs[i]? = some x) : x ∈ xs := List.mem_of_getElem? h
theorem nodup_at {α : Type} {xs : List α} (nd : xs.Nodup) {i j : Nat} {x y : α} (h : xs[i]? = some x) (h' : xs[j]? = some y) (ne : i ≠ j) : x ≠ y := by
  obtain ⟨hi, rfl⟩ := List.getElem?_eq_some_iff.mp h
  obtain ⟨hj, rfl⟩ := List.getElem?_eq_some_iff.mp h'
  intro e
  exact ne (List.getElem_inj nd |>.mp e)
/-- pairs of unlike names -/
def PrOk (names : List Str) (found : List (Str × Str)) : Prop := ∀ w ∈ found, w.1 ∈ names ∧ w.2 ∈ names ∧ w.1 ≠ w.2
theorem PrOk.snoc {names : List Str} {found : List (Str × Str)} (h : PrOk names found) {a b : Str} (ha : a ∈ names) (hb : b ∈ names) (n : a ≠ b) : PrOk names (found ++ [(a, b)]) := fun w hw => by
  rcases List.mem_append.mp hw with h' | h'
  · exact h w h'
  · rw [List.mem_singleton.mp h']; exact ⟨ha, hb, n⟩
theorem inB_ints (x : Int) (ns : List Int) : inB (.int x) (.tup (ns.map D.int)) = some (decide (x ∈ ns)) := by
  have hf : (ns.map D.int).all flat = true := by simp [flat]
  have e : inB (.int x) (.tup (ns.map D.int)) = if flat (.int x) = true ∧ (ns.map D.int).all flat = true then some ((ns.map D.int).any fun y => eqF y (.int x)) else none := rfl
  rw [e, if_pos ⟨rfl, hf⟩]
  congr 1
  induction ns with
  | nil => rfl
  | cons n ns ih =>
    have ih := ih (by simp [flat]) rfl
    rw [List.map_cons, List.any_cons, ih]
    have e : eqF (.int n) (.int x) = (n == x) := rfl
    rw [e]
    by_cases h : n = x
    · subst h; simp
    · have h' : ¬ x = n := fun e => h e.symm
      have h2 : (n == x) = false := by simpa using h
      rw [h2]; simp [h']
@[simp] theorem inB_int2 (x a b : Int) : inB (.int x) (.tup [.int a, .int b]) = some (decide (x = a ∨ x = b)) := by
  have := inB_ints x [a, b]
  simpa using this
theorem atI_last {α : Type} (f : α → D) (xs : List α) (h : xs ≠ []) : ∃ x, xs[xs.length - 1]? = some x ∧ atI (xs.map f) (-1) = some (f x) := by
  have hp : 0 < xs.length := List.length_pos_iff.mpr h
  have hl : xs.length - 1 < xs.length := by omega
  unfold atI ixN
  have e : (-1 + ((xs.map f).length : Int)).toNat = xs.length - 1 := by simp; omega
  rw [if_neg (by decide), if_pos (by simp; omega), e]
  exact ⟨xs[xs.length - 1], by simp [hl], by simp [hl]⟩
theorem asPairsT_w : ∀ found : List (Str × Str), asPairsT (found.map fun w => D.tup [.tup [.str (wlo w), .str (whi w)], .int 0]) = some ((found.map wnm).map fun w => (kW w, D.int 0))
  | [] => rfl
  | w :: found => by
    rw [List.map_cons, asPairsT, asPairsT_w found]
    rfl
theorem dictT_w (found : List (Str × Str)) : dictTD (.lst (found.map fun w => D.tup [.tup [.str (wlo w), .str (whi w)], .int 0])) = some (.dit ((uniq [] (found.map wnm)).map fun w => (kW w, D.int 0))) := by
  show (asPairsT _).map _ = _
  rw [asPairsT_w, Option.map_some]
  have := putAll_uniq kW_inj (D.int 0) (found.map wnm) []
  exact congrArg (fun z => some (Sl.dit z)) this
theorem sorted_dit (us : List (Str × Str)) (d : D) : sortedD (.dit (us.map fun w => (kW w, d))) = some (.lst ((srtW us).map wD)) := by
  refine sorted_srcW ?_
  show some ((us.map fun w => (kW w, d)).map fun kv => kDs kv.1) = _
  rw [List.map_map]
  rfl
/-- wires of rooms, each once -/
def WrOk (names : List Str) (ps : List (Str × Str)) : Prop := ps.Nodup ∧ ∀ w ∈ ps, w.1 ∈ names ∧ w.2 ∈ names ∧ sLt w.1 w.2
theorem WrOk.uniq {names : List Str} {found : List (Str × Str)} (h : PrOk names found) : WrOk names (uniq [] (found.map wnm)) := by
  refine ⟨uniq_nodup _ _ List.nodup_nil, fun w hw => ?_⟩
  rcases (uniq_mem _ _).mp hw with h' | h'
  · simp at h'
  · obtain ⟨v, hv, rfl⟩ := List.mem_map.mp h'
    obtain ⟨h1, h2, h3⟩ := h v hv
    obtain ⟨h4, h5⟩ := wnm_lt h3
    refine ⟨?_, ?_, h4⟩
    · show wlo v ∈ names
      rcases h5 with h5 | h5
      · rw [h5.1]; exact h1
      · rw [h5.1]; exact h2
    · show whi v ∈ names
      rcases h5 with h5 | h5
      · rw [h5.2]; exact h2
      · rw [h5.2]; exact h1
theorem WrOk.perm {names : List Str} {ps qs : List (Str × Str)} (h : WrOk names ps) (p : qs.Perm ps) : WrOk names qs := ⟨p.nodup_iff.mpr h.1, fun w hw => h.2 w (p.mem_iff.mp hw)⟩
theorem WrOk.sub {names : List Str} {ps qs : List (Str × Str)} (h : WrOk names ps) (p : qs.Sublist ps) : WrOk names qs := ⟨h.1.sublist p, fun w hw => h.2 w (p.subset hw)⟩
def PSt (k : Nat) (rooms wires way : Int) (names mixed : List Str) (o : Out) : Prop := ∃ (S' : Stm) (ps : List (Str × Str)) (X6 X7 X8 X10 X11 : Sl), o = .next [.stm S', .val (.int rooms), .val (.int wires), .val (.lst (names.map D.str)), .val (.int way), .val (.lst (mixed.map D.str)), X6, X7, X8, .val (.lst (ps.map wD)), X10, X11] ∧ WrOk names ps ∧ ps.length ≤ 5010 ∧ GSt S' k
/-- within the drawing of a web -/
def WSt (k B : Nat) (rooms wires way : Int) (names mixed : List Str) (o : Out) : Prop := ∃ (S' : Stm) (found : List (Str × Str)) (X7 X8 X11 : Sl), o = .next [.stm S', .val (.int rooms), .val (.int wires), .val (.lst (names.map D.str)), .val (.int way), .val (.lst (mixed.map D.str)), .lst (found.map wD), X7, X8, .none, .none, X11] ∧ PrOk names found ∧ found.length ≤ B ∧ GSt S' k
def LSt (k : Nat) (rooms wires way : Int) (names mixed : List Str) (found : List (Str × Str)) (X7 X8 X11 : Sl) (r : List D × List Sl) : Prop := ∃ (l : List Nat) (S6 : Stm), r = (l.map fun i : Nat => D.int i, [.stm S6, .val (.int rooms), .val (.int wires), .val (.lst (names.map D.str)), .val (.int way), .val (.lst (mixed.map D.str)), .lst (found.map wD), X7, X8, .none, .none, X11]) ∧ l.length ≤ 9 ∧ (0 < l.length → 1 < names.length) ∧ GSt S6 k
theorem op_web {S : Stm} {k : Nat} {rooms wires : Int} {Q : Sl × List Sl → Prop} (g : GSt S (k + 20000)) (h0 : 0 < rooms) (h1 : rooms ≤ 40) (hw0 : 0 ≤ wires) (hw1 : wires ≤ 1000)
    (q : ∀ (w : Wb) S', w.Ok → (w.rooms.length : Int) ≤ rooms → (w.wires.length : Int) ≤ wires → GSt S' k → Q (.val w.d, [.stm S', .none, .none])) : Op (m__law_web [.stm S, .val (.int rooms), .val (.int wires)]) Q := by
  unfold m__law_web
  simp
  refine op_draw (k := k + 19999) g h0 (by omega) fun i S1 i0 i1 g1 => ?_
  simp
  refine op_names (k := k + 19700) (g1.le (by omega)) (by omega) (by omega) fun names0 S2 hl0 nd0 nm0 g2 => ?_
  simp
  refine op_draw (k := k + 19699) (n := 6) (g2.le (by omega)) (by omega) (by omega) fun way S3 w0 w1 g3 => ?_
  simp
  have hnl : (srtS names0).length = names0.length := (srtS_perm _).length_eq
  refine op_mixedS (k := k + 19600) (xs := srtS names0) rfl (g3.le (by omega)) (by omega) fun mixed S4 hmx g4 => ?_
  have hml : mixed.length = (1 + i).toNat := by rw [hmx.length_eq, hnl, hl0]
  have hmd : mixed.Nodup := hmx.nodup_iff.mpr ((srtS_perm _).nodup_iff.mpr nd0)
  have hmm : ∀ x, x ∈ mixed ↔ x ∈ srtS names0 := fun x => hmx.mem_iff
  simp [-sFor_e]
  -- the rows
  refine Op.imp (Q := WSt (k + 19500) 50 rooms wires way (srtS names0) mixed) ?_ ?_
  · simp
    refine ite_rng2 fun n hn => ?_
    have n0 : 0 ≤ n := by omega
    have n1 : n ≤ mixed.length := by omega
    refine op_rng2 (by decide) (by omega) ?_
    simp only [op_some]
    · skip
      refine op_forL (fun k : Nat => D.int (1 + k)) (fun done rest e => ∃ (S' : Stm) (found : List (Str × Str)) (X7 : Sl), e = [.stm S', .val (.int rooms), .val (.int wires), .val (.lst ((srtS names0).map D.str)), .val (.int way), .val (.lst (mixed.map D.str)), .lst (found.map wD), X7, .none, .none, .none, .none] ∧ PrOk (srtS names0) found ∧ found.length = done.length ∧ GSt S' (k + 19500 + rest.length)) _ _ ?_ ?_ ?_
      · exact ⟨S4, [], .none, rfl, fun w hw => by simp at hw, rfl, g4.le (by simp; omega)⟩
      · rintro done x rest e he ⟨S', found, X7, rfl, hp, hl, g⟩
        have hx : x = done.length ∧ done.length + 1 + rest.length = (n - 1).toNat := by
          have h1 := congrArg (fun l => l[done.length]?) he
          have h2 := congrArg List.length he
          simp at h1 h2
          rw [List.getElem?_range (by omega)] at h1
          simp at h1; omega
        obtain ⟨a, ha1, ha2⟩ := atI_map D.str mixed (i := 1 + (x : Int)) (by omega) (by omega)
        simp only [List.length_cons] at g
        simp [ha2]
        have fin : ∀ (b : Str) (j : Nat) (S'' : Stm), mixed[j]? = some b → j ≠ x + 1 → GSt S'' (k + 19500 + rest.length) → (∃ (S' : Stm) (found_1 : List (Str × Str)) (X7 : Sl), [Sl.stm S'', .val (.int rooms), .val (.int wires), .val (.lst ((srtS names0).map D.str)), .val (.int way), .val (.lst (mixed.map D.str)), .lst (found.map wD ++ [.tup [.str a, .str b]]), .val (.int (1 + x)), .none, .none, .none, .none] = [Sl.stm S', .val (.int rooms), .val (.int wires), .val (.lst ((srtS names0).map D.str)), .val (.int way), .val (.lst (mixed.map D.str)), .lst (found_1.map wD), X7, .none, .none, .none, .none] ∧ PrOk (srtS names0) found_1 ∧ found_1.length = (done ++ [x]).length ∧ GSt S' (k + 19500 + rest.length)) := fun b j S'' hb hj g' => by
          have e1 : (1 + (x : Int)).toNat = x + 1 := by omega
          rw [e1] at ha1
          exact ⟨S'', found ++ [(a, b)], _, by simp [wD]; rfl, hp.snoc ((hmm a).mp (mem_at ha1)) ((hmm b).mp (mem_at hb)) (nodup_at hmd ha1 hb (Ne.symm hj)), by simp [hl], g'⟩
        by_cases hw : 0 < way
        · obtain ⟨b, hb1, hb2⟩ := atI_map D.str mixed (i := 1 + (x : Int) - 1) (by omega) (by omega)
          simp [hw, hb2, sl_le (show 2 < 10000000 by decide), sl_lt (show found.length < 10000000 by omega)]
          exact At.i (fin b x S' (by rwa [show (1 + (x : Int) - 1).toNat = x by omega] at hb1) (by omega) (g.le (by omega)))
        · simp [hw]
          refine op_draw (k := k + 19500 + rest.length) (g.le (by omega)) (by omega) (by omega) fun j S5 j0 j1 g5 => ?_
          obtain ⟨b, hb1, hb2⟩ := atI_map D.str mixed (i := j) (by omega) (by omega)
          simp [hb2, sl_le (show 2 < 10000000 by decide), sl_lt (show found.length < 10000000 by omega)]
          exact At.i (fin b j.toNat S5 hb1 (by omega) g5)
      · rintro e ⟨S', found, X7, rfl, hp, hl, g⟩
        exact ⟨S', found, X7, .none, .none, rfl, hp, by simp at hl; omega, g.le (by omega)⟩
  rintro o ⟨S5, found, X7, X8, X11, rfl, hp, hfl, g5⟩
  simp [-sIf_e]
  refine Op.imp (Q := WSt (k + 19500) 51 rooms wires way (srtS names0) mixed) ?_ ?_
  · simp [sl_le (show 2 < 10000000 by decide)]
    by_cases h : (way = 1 ∨ way = 2) ∧ 2 < mixed.length
    · obtain ⟨a, ha1, ha2⟩ := atI_map D.str mixed (i := 0) (by omega) (by omega)
      obtain ⟨b, hb1, hb2⟩ := atI_last D.str mixed (by rintro rfl; simp at h)
      have h2 : (2 : Int) < mixed.length := by omega
      simp [h.1, h2, ha2, hb2, sl_lt (show found.length < 10000000 by omega), sl_le (show 2 < 10000000 by decide)]
      refine ⟨S5, found ++ [(a, b)], X7, X8, X11, by simp [wD], hp.snoc ((hmm a).mp (mem_at ha1)) ((hmm b).mp (mem_at hb1)) (nodup_at hmd ha1 hb1 (by simp; omega)), by simp; omega, g5⟩
    · have fin : WSt (k + 19500) 51 rooms wires way (srtS names0) mixed (.next [.stm S5, .val (.int rooms), .val (.int wires), .val (.lst ((srtS names0).map D.str)), .val (.int way), .val (.lst (mixed.map D.str)), .lst (found.map wD), X7, X8, .none, .none, X11]) := ⟨S5, found, X7, X8, X11, rfl, hp, by omega, g5⟩
      by_cases h1 : way = 1 ∨ way = 2
      · have h2 : ¬ (2 : Int) < mixed.length := fun z => h ⟨h1, by omega⟩
        simp [h1, h2]
        exact fin
      · simp [h1]
        exact fin
  clear hp hfl g5 found X7 X8 X11 S5
  rintro o ⟨S5, found, X7, X8, X11, rfl, hp, hfl, g5⟩
  simp [-sIf_e]
  refine Op.imp (Q := WSt (k + 19500) 5000 rooms wires way (srtS names0) mixed) ?_ ?_
  · simp
    by_cases h4 : way = 4
    · subst h4
      simp
      refine op_rng1 (by omega) (by omega) ?_
      simp
      refine op_forL (fun k : Nat => D.int k) (fun done rest e => ∃ (found : List (Str × Str)) (X7 X11 : Sl), e = [.stm S5, .val (.int rooms), .val (.int wires), .val (.lst ((srtS names0).map D.str)), .val (.int 4), .val (.lst (mixed.map D.str)), .lst (found.map wD), X7, X8, .none, .none, X11] ∧ PrOk (srtS names0) found ∧ found.length ≤ 51 + 50 * done.length) _ _ ?_ ?_ ?_
      · exact ⟨found, X7, X11, rfl, hp, by simp; omega⟩
      · rintro done x rest e he ⟨found, X7, X11, rfl, hp, hl⟩
        have hx : x = done.length ∧ done.length + 1 + rest.length = mixed.length := by
          have h1 := congrArg (fun l => l[done.length]?) he
          have h2 := congrArg List.length he
          simp at h1 h2
          rw [List.getElem?_range (by omega)] at h1
          simp at h1; omega
        obtain ⟨a, ha1, ha2⟩ := atI_map D.str mixed (i := (x : Int)) (by omega) (by omega)
        simp at ha1
        simp
        rw [cutL_map, cutL_from _ (by omega)]
        have e1 : ((x : Int) + 1).toNat = x + 1 := by omega
        rw [e1]
        rw [lc_map D.str (fun b => wD (a, b)) _ _ (fun b hb => by simp [ha2, sl_le (show 2 < 10000000 by decide), wD])]
        simp [sl_le (show mixed.length - (x + 1) < 10000000 by omega), sl_le (show found.length + (mixed.length - (x + 1)) < 10000000 by omega)]
        refine At.i ⟨found ++ (mixed.drop (x + 1)).map fun b => (a, b), .val (.int x), keepV (some X11), by simp [wD, Function.comp_def], fun w hw => ?_, by simp; omega⟩
        rcases List.mem_append.mp hw with h' | h'
        · exact hp w h'
        · obtain ⟨b, hb, rfl⟩ := List.mem_map.mp h'
          obtain ⟨j, hj⟩ := List.mem_iff_getElem?.mp hb
          rw [List.getElem?_drop] at hj
          exact ⟨(hmm a).mp (mem_at ha1), (hmm b).mp (mem_at hj), nodup_at hmd ha1 hj (by omega)⟩
      · rintro e ⟨found, X7, X11, rfl, hp, hl⟩
        simp
        exact ⟨S5, found, X7, X8, X11, rfl, hp, by simp at hl; omega, g5⟩
    · simp [h4]
      exact ⟨S5, found, X7, X8, X11, rfl, hp, by omega, g5⟩
  clear hp hfl g5 found X7 X8 X11 S5
  rintro o ⟨S5, found, X7, X8, X11, rfl, hp, hfl, g5⟩
  simp [-sFor_e]
  refine Op.imp (Q := WSt (k + 18800) 5010 rooms wires way (srtS names0) mixed) ?_ ?_
  · rw [sFor_e, op_bind]
    refine Op.imp (Q := LSt (k + 19400) rooms wires way (srtS names0) mixed found X7 X8 X11) ?_ ?_
    · simp
      have fin0 : LSt (k + 19400) rooms wires way (srtS names0) mixed found X7 X8 X11 (([] : List D), [Sl.stm S5, .val (.int rooms), .val (.int wires), .val (.lst ((srtS names0).map D.str)), .val (.int way), .val (.lst (mixed.map D.str)), .lst (found.map wD), X7, X8, .none, .none, X11]) := ⟨[], S5, rfl, by simp, by simp, g5.le (by omega)⟩
      have l2 : 2 ≤ sizeLine := sl_le (by decide)
      have r0 : rng1D (.int 0) = some [] := rfl
      by_cases h1 : way = 1 ∨ way = 4
      · have h1' : ¬ (¬ way = 1 ∧ ¬ way = 4) := by omega
        simp only [h1', if_false, l2, r0, true_and, op_some]
        exact fin0
      · have h1' : ¬ way = 1 ∧ ¬ way = 4 := ⟨fun z => h1 (.inl z), fun z => h1 (.inr z)⟩
        by_cases h2 : (1 : Int) < (srtS names0).length
        · simp [h1', h2, l2]
          refine op_draw (k := k + 19400) (n := 9) (g5.le (by omega)) (by decide) (by decide) fun n S6 n0 n1 g6 => ?_
          simp
          refine op_rng1 (by omega) n0 ?_
          simp only [op_some]
          exact ⟨_, S6, rfl, by simp; omega, fun _ => by omega, g6⟩
        · simp [h1', h2, l2, r0]
          exact fin0
    rintro r ⟨l, S6, rfl, hl9, hln, g6⟩
    refine op_forL (fun k : Nat => D.int k) (fun done rest e => ∃ (S6 : Stm) (found : List (Str × Str)) (X8 : Sl), e = [.stm S6, .val (.int rooms), .val (.int wires), .val (.lst ((srtS names0).map D.str)), .val (.int way), .val (.lst (mixed.map D.str)), .lst (found.map wD), X7, X8, .none, .none, X11] ∧ PrOk (srtS names0) found ∧ found.length ≤ 5000 + done.length ∧ GSt S6 (k + 18800 + 50 * rest.length)) _ _ ?_ ?_ ?_
    · exact ⟨S6, found, X8, rfl, hp, by simp; omega, g6.le (by omega)⟩
    · rintro done x rest e he ⟨S6, found, X8, rfl, hp, hl, g6⟩
      have hx : done.length + 1 + rest.length = l.length := by
        have h2 := congrArg List.length he
        simp at h2; omega
      simp only [List.length_cons] at g6
      simp
      refine op_mixedS (k := k + 18800 + 50 * rest.length) (xs := srtS names0) rfl (g6.le (by omega)) (by omega) fun ys S7 hy g7 => ?_
      have hyl := hy.length_eq
      have hyn := hln (by omega)
      obtain ⟨a, b, zs, rfl⟩ : ∃ a b zs, ys = a :: b :: zs := by
        match ys, hyl with
        | [], h => simp at h; omega
        | [a], h => simp at h; omega
        | a :: b :: zs, _ => exact ⟨a, b, zs, rfl⟩
      simp
      have e2 : cutL (.str a :: .str b :: zs.map D.str) none (some 2) = [.str a, .str b] := by
        rw [cutL_to _ (by decide)]; rfl
      simp [e2, sl_lt (show found.length < 10000000 by omega)]
      have hnd : (a :: b :: zs).Nodup := hy.nodup_iff.mpr ((srtS_perm _).nodup_iff.mpr nd0)
      refine At.i ⟨S7, found ++ [(a, b)], .val (.int x), by simp [wD], hp.snoc (hy.mem_iff.mp (by simp)) (hy.mem_iff.mp (by simp)) (by simp at hnd; exact hnd.1.1), by simp; omega, g7⟩
    · rintro e ⟨S6, found, X8, rfl, hp, hl, g6⟩
      exact ⟨S6, found, X7, X8, X11, rfl, hp, by omega, g6.le (by omega)⟩
  clear hp hfl g5 found X7 X8 X11 S5
  rintro o ⟨S5, found, X7, X8, X11, rfl, hp, hfl, g5⟩
  simp [-sIf_e]
  rw [lc_map wD (fun w => D.tup [.tup [.str (wlo w), .str (whi w)], .int 0]) _ _ (fun w hw => by simp [minA_w, maxA_w, sl_le (show 2 < 10000000 by decide)])]
  simp [-sIf_e, sl_le (show found.length < 10000000 by omega), dictT_w, sorted_dit]
  have hW := (WrOk.uniq hp).perm (srtW_perm _)
  have hWl : (srtW (uniq [] (found.map wnm))).length ≤ 5010 := by
    have := uniq_len (found.map wnm) []
    rw [(srtW_perm _).length_eq]
    simp at this; omega
  generalize srtW (uniq [] (found.map wnm)) = ps at hW hWl
  refine Op.imp (Q := PSt (k + 12000) rooms wires way (srtS names0) mixed) ?_ ?_
  · by_cases h4 : way = 4
    · subst h4
      simp
      refine op_draw (k := k + 18799) (n := 2) (g5.le (by omega)) (by decide) (by decide) fun d S6 d0 d1 g6 => ?_
      simp
      by_cases hd : d = 0
      · simp [hd]
        refine op_mixedW (k := k + 13000) (xs := ps) rfl (g6.le (by omega)) (by omega) fun qs S7 hq g7 => ?_
        simp
        refine op_draw (k := k + 12999) (n := 3) (g7.le (by omega)) (by decide) (by decide) fun j S8 j0 j1 g8 => ?_
        simp
        rw [cutL_map, cutL_from _ j0]
        have := hq.length_eq
        exact ⟨S8, qs.drop j.toNat, _, _, _, _, _, rfl, (hW.perm hq).sub (List.drop_sublist _ _), by simp; omega, g8.le (by omega)⟩
      · simp [hd]
        exact ⟨S6, ps, _, _, _, _, _, rfl, hW, hWl, g6.le (by omega)⟩
    · simp [h4]
      exact ⟨S5, ps, _, _, _, _, _, rfl, hW, hWl, g5.le (by omega)⟩
  clear hW hWl hp hfl g5 found X7 X8 X11 S5 ps
  rintro o ⟨S5, ps, X6, X7, X8, X10, X11, rfl, hW, hWl, g5⟩
  simp
  refine op_mixedW (k := k) (xs := ps) rfl (g5.le (by omega)) (by omega) fun qs S7 hq g7 => ?_
  simp
  rw [cutL_map, cutL_to _ hw0]
  have hW2 := (hW.perm hq).sub (List.take_sublist wires.toNat qs)
  have hql : (qs.take wires.toNat).length ≤ wires.toNat := by simp; omega
  generalize qs.take wires.toNat = rs at hW2 hql
  simp [sl_le (show 2 < 10000000 by decide)]
  have hperm := srtS_perm names0
  have hrl : (srtW rs).length = rs.length := (srtW_perm rs).length_eq
  refine q ⟨srtS names0, srtW rs⟩ S7 ⟨srtS_lt nd0, fun x hx => nm0 x (hperm.mem_iff.mp hx), fun z => by have z' : (srtS names0).length = 0 := congrArg List.length z; omega, by show (srtS names0).length ≤ 100; omega, srtW_lt hW2.1, fun e he => hW2.2 e ((srtW_perm rs).mem_iff.mp he), by show (srtW rs).length ≤ 10000; omega⟩ (by show ((srtS names0).length : Int) ≤ rooms; omega) (by show ((srtW rs).length : Int) ≤ wires; omega) g7
end HU
set_option maxRecDepth 100000
set_option maxHeartbeats 0
namespace HU
open PySem PySem.Spec L2
/-! ### isinstance of what is known -/
@[simp] theorem isilt_non  : isiD' [.b "list", .b "tuple"] .non = some (.bl false) := by rfl
@[simp] theorem isilt_bl (x : Bool) : isiD' [.b "list", .b "tuple"] (.bl x) = some (.bl false) := by rfl
@[simp] theorem isilt_int (x : Int) : isiD' [.b "list", .b "tuple"] (.int x) = some (.bl false) := by rfl
@[simp] theorem isilt_str (x : Str) : isiD' [.b "list", .b "tuple"] (.str x) = some (.bl false) := by rfl
@[simp] theorem isilt_lst (x : List D) : isiD' [.b "list", .b "tuple"] (.lst x) = some (.bl true) := by rfl
@[simp] theorem isilt_tup (x : List D) : isiD' [.b "list", .b "tuple"] (.tup x) = some (.bl true) := by rfl
@[simp] theorem isilt_dic (x : List (Key × D)) : isiD' [.b "list", .b "tuple"] (.dic x) = some (.bl false) := by rfl
@[simp] theorem isilt_ins (x : List (Str × D)) : isiD' [.b "list", .b "tuple"] (.ins "Web" x) = some (.bl false) := by rfl
@[simp] theorem isil_non  : isiD' [.b "list"] .non = some (.bl false) := by rfl
@[simp] theorem isil_bl (x : Bool) : isiD' [.b "list"] (.bl x) = some (.bl false) := by rfl
@[simp] theorem isil_int (x : Int) : isiD' [.b "list"] (.int x) = some (.bl false) := by rfl
@[simp] theorem isil_str (x : Str) : isiD' [.b "list"] (.str x) = some (.bl false) := by rfl
@[simp] theorem isil_lst (x : List D) : isiD' [.b "list"] (.lst x) = some (.bl true) := by rfl
@[simp] theorem isil_tup (x : List D) : isiD' [.b "list"] (.tup x) = some (.bl false) := by rfl
@[simp] theorem isil_dic (x : List (Key × D)) : isiD' [.b "list"] (.dic x) = some (.bl false) := by rfl
@[simp] theorem isil_ins (x : List (Str × D)) : isiD' [.b "list"] (.ins "Web" x) = some (.bl false) := by rfl
@[simp] theorem isit_non  : isiD' [.b "tuple"] .non = some (.bl false) := by rfl
@[simp] theorem isit_bl (x : Bool) : isiD' [.b "tuple"] (.bl x) = some (.bl false) := by rfl
@[simp] theorem isit_int (x : Int) : isiD' [.b "tuple"] (.int x) = some (.bl false) := by rfl
@[simp] theorem isit_str (x : Str) : isiD' [.b "tuple"] (.str x) = some (.bl false) := by rfl
@[simp] theorem isit_lst (x : List D) : isiD' [.b "tuple"] (.lst x) = some (.bl false) := by rfl
@[simp] theorem isit_tup (x : List D) : isiD' [.b "tuple"] (.tup x) = some (.bl true) := by rfl
@[simp] theorem isit_dic (x : List (Key × D)) : isiD' [.b "tuple"] (.dic x) = some (.bl false) := by rfl
@[simp] theorem isit_ins (x : List (Str × D)) : isiD' [.b "tuple"] (.ins "Web" x) = some (.bl false) := by rfl
@[simp] theorem isid_non  : isiD' [.b "dict"] .non = some (.bl false) := by rfl
@[simp] theorem isid_bl (x : Bool) : isiD' [.b "dict"] (.bl x) = some (.bl false) := by rfl
@[simp] theorem isid_int (x : Int) : isiD' [.b "dict"] (.int x) = some (.bl false) := by rfl
@[simp] theorem isid_str (x : Str) : isiD' [.b "dict"] (.str x) = some (.bl false) := by rfl
@[simp] theorem isid_lst (x : List D) : isiD' [.b "dict"] (.lst x) = some (.bl false) := by rfl
@[simp] theorem isid_tup (x : List D) : isiD' [.b "dict"] (.tup x) = some (.bl false) := by rfl
@[simp] theorem isid_dic (x : List (Key × D)) : isiD' [.b "dict"] (.dic x) = some (.bl true) := by rfl
@[simp] theorem isid_ins (x : List (Str × D)) : isiD' [.b "dict"] (.ins "Web" x) = some (.bl false) := by rfl
@[simp] theorem isis_non  : isiD' [.b "str"] .non = some (.bl false) := by rfl
@[simp] theorem isis_bl (x : Bool) : isiD' [.b "str"] (.bl x) = some (.bl false) := by rfl
@[simp] theorem isis_int (x : Int) : isiD' [.b "str"] (.int x) = some (.bl false) := by rfl
@[simp] theorem isis_str (x : Str) : isiD' [.b "str"] (.str x) = some (.bl true) := by rfl
@[simp] theorem isis_lst (x : List D) : isiD' [.b "str"] (.lst x) = some (.bl false) := by rfl
@[simp] theorem isis_tup (x : List D) : isiD' [.b "str"] (.tup x) = some (.bl false) := by rfl
@[simp] theorem isis_dic (x : List (Key × D)) : isiD' [.b "str"] (.dic x) = some (.bl false) := by rfl
@[simp] theorem isis_ins (x : List (Str × D)) : isiD' [.b "str"] (.ins "Web" x) = some (.bl false) := by rfl
@[simp] theorem isii_non  : isiD' [.b "int"] .non = some (.bl false) := by rfl
@[simp] theorem isii_bl (x : Bool) : isiD' [.b "int"] (.bl x) = some (.bl true) := by rfl
@[simp] theorem isii_int (x : Int) : isiD' [.b "int"] (.int x) = some (.bl true) := by rfl
@[simp] theorem isii_str (x : Str) : isiD' [.b "int"] (.str x) = some (.bl false) := by rfl
@[simp] theorem isii_lst (x : List D) : isiD' [.b "int"] (.lst x) = some (.bl false) := by rfl
@[simp] theorem isii_tup (x : List D) : isiD' [.b "int"] (.tup x) = some (.bl false) := by rfl
@[simp] theorem isii_dic (x : List (Key × D)) : isiD' [.b "int"] (.dic x) = some (.bl false) := by rfl
@[simp] theorem isii_ins (x : List (Str × D)) : isiD' [.b "int"] (.ins "Web" x) = some (.bl false) := by rfl
@[simp] theorem isib_non  : isiD' [.b "bool"] .non = some (.bl false) := by rfl
@[simp] theorem isib_bl (x : Bool) : isiD' [.b "bool"] (.bl x) = some (.bl true) := by rfl
@[simp] theorem isib_int (x : Int) : isiD' [.b "bool"] (.int x) = some (.bl false) := by rfl
@[simp] theorem isib_str (x : Str) : isiD' [.b "bool"] (.str x) = some (.bl false) := by rfl
@[simp] theorem isib_lst (x : List D) : isiD' [.b "bool"] (.lst x) = some (.bl false) := by rfl
@[simp] theorem isib_tup (x : List D) : isiD' [.b "bool"] (.tup x) = some (.bl false) := by rfl
@[simp] theorem isib_dic (x : List (Key × D)) : isiD' [.b "bool"] (.dic x) = some (.bl false) := by rfl
@[simp] theorem isib_ins (x : List (Str × D)) : isiD' [.b "bool"] (.ins "Web" x) = some (.bl false) := by rfl
@[simp] theorem isiltd_non  : isiD' [.b "list", .b "tuple", .b "dict"] .non = some (.bl false) := by rfl
@[simp] theorem isiltd_bl (x : Bool) : isiD' [.b "list", .b "tuple", .b "dict"] (.bl x) = some (.bl false) := by rfl
@[simp] theorem isiltd_int (x : Int) : isiD' [.b "list", .b "tuple", .b "dict"] (.int x) = some (.bl false) := by rfl
@[simp] theorem isiltd_str (x : Str) : isiD' [.b "list", .b "tuple", .b "dict"] (.str x) = some (.bl false) := by rfl
@[simp] theorem isiltd_lst (x : List D) : isiD' [.b "list", .b "tuple", .b "dict"] (.lst x) = some (.bl true) := by rfl
@[simp] theorem isiltd_tup (x : List D) : isiD' [.b "list", .b "tuple", .b "dict"] (.tup x) = some (.bl true) := by rfl
@[simp] theorem isiltd_dic (x : List (Key × D)) : isiD' [.b "list", .b "tuple", .b "dict"] (.dic x) = some (.bl true) := by rfl
@[simp] theorem isiltd_ins (x : List (Str × D)) : isiD' [.b "list", .b "tuple", .b "dict"] (.ins "Web" x) = some (.bl false) := by rfl
@[simp] theorem isiW_non  : isiD' [.o "Web"] .non = some (.bl false) := by rfl
@[simp] theorem isiW_bl (x : Bool) : isiD' [.o "Web"] (.bl x) = some (.bl false) := by rfl
@[simp] theorem isiW_int (x : Int) : isiD' [.o "Web"] (.int x) = some (.bl false) := by rfl
@[simp] theorem isiW_str (x : Str) : isiD' [.o "Web"] (.str x) = some (.bl false) := by rfl
@[simp] theorem isiW_lst (x : List D) : isiD' [.o "Web"] (.lst x) = some (.bl false) := by rfl
@[simp] theorem isiW_tup (x : List D) : isiD' [.o "Web"] (.tup x) = some (.bl false) := by rfl
@[simp] theorem isiW_dic (x : List (Key × D)) : isiD' [.o "Web"] (.dic x) = some (.bl false) := by rfl
@[simp] theorem isiW_ins (x : List (Str × D)) : isiD' [.o "Web"] (.ins "Web" x) = some (.bl true) := by rfl
/-! ### around -/
/-- a wire leads to a room; the other one of its rooms -/
def tch (r : Str) (w : Str × Str) : Bool := decide (r = w.1 ∨ r = w.2)
def oth (r : Str) (w : Str × Str) : Str := if w.1 = r then w.2 else w.1
def nbW (ws : List (Str × Str)) (r : Str) : List Str := (ws.filter (tch r)).map (oth r)
def arW (ws : List (Str × Str)) (r : Str) : List Str := srtS (nbW ws r)
@[simp] theorem item_w0 (w : Str × Str) : itemD (wD w) (.int 0) = some (.str w.1) := by simp [wD]
@[simp] theorem item_w1 (w : Str × Str) : itemD (wD w) (.int 1) = some (.str w.2) := by simp [wD]
theorem nbW_len (ws : List (Str × Str)) (r : Str) : (nbW ws r).length ≤ ws.length := by
  unfold nbW; rw [List.length_map]; exact List.length_filter_le _ _
theorem around_ok {w : Wb} (hw : w.wires.length ≤ 10000) (r : Str) : m__law_around [.val w.d, .val (.str r)] = some (.lst ((arW w.wires r).map D.str), [.none, .none]) := by
  refine Op.eq ?_
  unfold m__law_around Wb.d
  simp
  rw [lc_plain wD (tch r) (fun e => .str (oth r e)) _ _ (fun e he => by
    simp
    by_cases z : r = e.1
    · subst z
      simp [tch, oth]
    · have z' : ¬ e.1 = r := fun y => z y.symm
      by_cases z2 : r = e.2
      · simp [tch, oth, z2]
        by_cases z3 : e.1 = e.2
        · simp [z3]
        · simp [z3]
      · simp [z, z', z2, tch])]
  have e2 : (w.wires.filter (tch r)).map (fun e => D.str (oth r e)) = (nbW w.wires r).map D.str := by
    unfold nbW; rw [List.map_map]; rfl
  have hl := nbW_len w.wires r
  rw [e2]
  unfold arW
  generalize nbW w.wires r = xs at hl
  simp [sl_le (show xs.length < 10000000 by omega)]
end HU
set_option maxRecDepth 100000
set_option maxHeartbeats 0
namespace HU
open PySem PySem.Spec L2
/-! ### the small defs -/
def isSeq : D → Bool
  | .lst _ | .tup _ => true
  | _ => false
@[simp] theorem isSeq_lst (x : List D) : isSeq (.lst x) = true := rfl
@[simp] theorem isSeq_tup (x : List D) : isSeq (.tup x) = true := rfl
theorem isi_seq {d : D} (h : noDit d = true) : isiD' [.b "list", .b "tuple"] d = some (.bl (isSeq d)) := by
  cases d <;> first | rfl | (rename_i c fs; simp [noDit] at h; subst h; rfl) | cases h
theorem is_list_ok {d : D} (h : noDit d = true) : m_is_list [.val d] = some (.val (.bl (isSeq d)), [.none]) := by
  refine Op.eq ?_
  unfold m_is_list
  simp [isi_seq h]
theorem is_row_lst (xs : List D) (n : Int) : m_is_row [.val (.lst xs), .val (.int n)] = some (.val (.bl (decide ((xs.length : Int) = n))), [.none, .none]) := by
  refine Op.eq ?_
  unfold m_is_row
  simp [is_list_ok (show noDit (.lst xs) = true from rfl)]
theorem is_row_tup (xs : List D) (n : Int) : m_is_row [.val (.tup xs), .val (.int n)] = some (.val (.bl (decide ((xs.length : Int) = n))), [.none, .none]) := by
  refine Op.eq ?_
  unfold m_is_row
  simp [is_list_ok (show noDit (.tup xs) = true from rfl)]
theorem is_row_no {d : D} (h : noDit d = true) (h2 : isSeq d = false) (n : Int) : m_is_row [.val d, .val (.int n)] = some (.val (.bl false), [.none, .none]) := by
  refine Op.eq ?_
  unfold m_is_row
  simp [is_list_ok h, h2]
theorem tr_map_not {b : Bool} : (D.bl b).tr = some b := rfl
theorem asBls_true : ∀ (xs : List D), (∀ x ∈ xs, x = .bl true) → asBls xs = some (xs.map fun _ => true)
  | [], _ => rfl
  | x :: xs, h => by
    have := h x List.mem_cons_self
    subst this
    simp [asBls, asBls_true xs fun y hy => h y (List.mem_cons_of_mem _ hy)]
theorem asBls_m {α : Type} (t : α → Bool) : ∀ xs : List α, asBls (xs.map fun x => D.bl (t x)) = some (xs.map t)
  | [] => rfl
  | x :: xs => by simp [asBls, asBls_m t xs]
@[simp] theorem allD_m {α : Type} (t : α → Bool) (xs : List α) : allD (.lst (xs.map fun x => D.bl (t x))) = some (.bl (xs.all t)) := by
  show (asBls _).map _ = _
  rw [asBls_m]; simp [List.all_map]
@[simp] theorem anyD_m {α : Type} (t : α → Bool) (xs : List α) : anyD (.lst (xs.map fun x => D.bl (t x))) = some (.bl (xs.any t)) := by
  show (asBls _).map _ = _
  rw [asBls_m]; simp [List.any_map]
theorem lenD_str {x : Str} (h : x.length ≤ 1000000) : lenD (.str x) = some (.int x.length) := by
  show (if x.length ≤ sizeLine then some (D.int x.length) else none) = _
  rw [if_pos (sl_le (by omega))]
/-- one sign in a text -/
theorem inB_sign (c : Nat) (z : Str) : inB (.str ⟨#[c]⟩) (.str z) = some (decide (c ∈ z.cps.toList)) := by
  have e : inB (.str ⟨#[c]⟩) (.str z) = (sgn ⟨#[c]⟩).map fun c => decide (c ∈ z.cps.toList) := rfl
  rw [e]; rfl
theorem is_name_ok {x : Str} (h : Nm x) : m_is_name [.val (.str x)] = some (.val (.bl true), [.none]) := by
  refine Op.eq ?_
  have hl : x.length = x.cps.toList.length := by simp [Str.length]
  have h1 := h.1
  have h2 := h.2.1
  have hit : itD (.str x) = some (x.cps.toList.map fun c => D.str ⟨#[c]⟩) := rfl
  unfold m_is_name
  simp [lenD_str (show x.length ≤ 1000000 by omega), show (0 : Int) < x.length by omega, show (x.length : Int) < 9 by omega, show 0 < x.length by omega, hit]
  rw [lc_map (fun c : Nat => D.str ⟨#[c]⟩) (fun _ => D.bl true) _ _ (fun c hc => by
    simp [inB_sign]
    rw [signs_eq]
    have := h.2.2 c (by simpa using hc)
    simp
    exact ⟨c - 97, by omega, by omega⟩)]
  have : allD (.lst (x.cps.toList.map fun _ => D.bl true)) = some (.bl true) := by
    rw [allD_m (fun _ => true)]; simp
  simp [sl_le (show x.cps.toList.length < 10000000 by omega)]
  simp at this
  simp [this, show 0 < x.length by omega, sl_le (show x.cps.size < 10000000 by have : x.cps.size = x.length := rfl; omega)]
theorem enumL_map {α : Type} (g : α → D) : ∀ (xs : List α) (k : Nat), enumL k (xs.map g) = (xs.zipIdx k).map fun p => (D.int p.2, g p.1)
  | [], k => rfl
  | x :: xs, k => by simp [enumL, enumL_map g xs (k + 1)]
theorem enD_lst {α : Type} (g : α → D) (xs : List α) : enD (.lst (xs.map g)) = some (xs.zipIdx.map fun p => D.tup [.int p.2, g p.1]) := by
  show some ((enumL 0 (xs.map g)).map _) = _
  rw [enumL_map]; simp [Function.comp_def]
theorem enD_tup {α : Type} (g : α → D) (xs : List α) : enD (.tup (xs.map g)) = some (xs.zipIdx.map fun p => D.tup [.int p.2, g p.1]) := by
  show some ((enumL 0 (xs.map g)).map _) = _
  rw [enumL_map]; simp [Function.comp_def]
/-- a list or a tuple of these -/
def sq (b : Bool) (xs : List D) : D := if b then .lst xs else .tup xs
@[simp] theorem enD_sq {α : Type} (g : α → D) (b : Bool) (xs : List α) : enD (sq b (xs.map g)) = some (xs.zipIdx.map fun p => D.tup [.int p.2, g p.1]) := by
  cases b
  · exact enD_tup g xs
  · exact enD_lst g xs
@[simp] theorem isSeq_sq (b : Bool) (xs : List D) : isSeq (sq b xs) = true := by cases b <;> rfl
@[simp] theorem noDit_sq (b : Bool) (xs : List D) : noDit (sq b xs) = true := by cases b <;> rfl
@[simp] theorem lenD_sq (b : Bool) (xs : List D) : lenD (sq b xs) = some (.int xs.length) := by cases b <;> rfl
@[simp] theorem itD_sq (b : Bool) (xs : List D) : itD (sq b xs) = some xs := by cases b <;> rfl
@[simp] theorem srcD_sq (b : Bool) (xs : List D) : srcD (sq b xs) = some xs := by cases b <;> rfl
@[simp] theorem sorted_sq (b : Bool) (xs : List Str) : sortedD (sq b (xs.map D.str)) = some (.lst ((srtS xs).map D.str)) := by cases b <;> simp [sq]
theorem getD?_dic (kvs : List (Key × D)) (x : Str) : getD? (.dic kvs) (.str x) = some (getA kvs (.inr x)) := rfl
theorem inB_dicS (kvs : List (Key × D)) (x : Str) : inB (.str x) (.dic kvs) = some (getA kvs (.inr x)).isSome := rfl
@[simp] theorem inB_dicU (us : List Str) (d : D) (x : Str) : inB (.str x) (.dic (us.map fun u => (kS u, d))) = some (decide (x ∈ us)) := by
  rw [inB_dicS, show (Sum.inr x : Key) = kS x from rfl, getA_uniq kS_inj]
  split <;> simp [*]
theorem inB_ditU (us : List (Str × Str)) (d : D) (w : Str × Str) : inB (wD w) (.dit (us.map fun u => (kW u, d))) = some (decide (w ∈ us)) := by
  have e : inB (wD w) (.dit (us.map fun u => (kW u, d))) = some (getA (us.map fun u => (kW u, d)) (kW w)).isSome := rfl
  rw [e, getA_uniq kW_inj]
  split <;> simp [*]
theorem first_bad_ok {b : Bool} {xs : List Str} (hn : ∀ x ∈ xs, Nm x) (nd : xs.Nodup) (ne : xs ≠ []) (hl : xs.length ≤ 1000) : m_first_bad_room [.val (sq b (xs.map D.str))] = some (.val .non, [.none]) := by
  refine Op.eq ?_
  have hp : 0 < xs.length := List.length_pos_iff.mpr ne
  unfold m_first_bad_room
  simp [is_list_ok (noDit_sq b _), -sFor_e, show ¬ ((xs.length : Int) = 0) by omega, ne]
  simp
  refine op_forL (fun p : Str × Nat => D.tup [.int p.2, .str p.1]) (fun done rest e => ∃ X2 X3, e = [.val (sq b (xs.map D.str)), .dic ((done.map (·.1)).map fun u => (kS u, D.bl true)), X2, X3]) _ _ ?_ ?_ ?_
  · exact ⟨.none, .none, rfl⟩
  · rintro done ⟨x, i⟩ rest e he ⟨X2, X3, rfl⟩
    have hx : x ∈ xs := by
      have : (x, i) ∈ xs.zipIdx := by rw [he]; simp
      exact (List.mem_zipIdx' this).2 ▸ List.getElem_mem _
    have hxd : x ∉ done.map (·.1) := by
      have h1 : xs.zipIdx.map (·.1) = xs := by simp
      rw [he, List.map_append] at h1
      rw [← h1] at nd
      rw [List.nodup_append] at nd
      intro hm
      exact nd.2.2 x hm x (by simp) rfl
    have hlen : (done.map (·.1)).length ≤ 1000 := by
      have := congrArg List.length he
      simp at this ⊢; omega
    generalize hus : done.map (·.1) = us at hxd hlen
    simp [is_name_ok (hn x hx), hxd, sl_lt (show us.length < 10000000 by omega)]
    refine At.i ⟨.val (.int i), .val (.str x), ?_⟩
    rw [show (Sum.inr x : Key) = kS x from rfl, putA_uniq kS_inj, if_neg hxd]
    have e2 : (done ++ [(x, i)]).map (·.1) = us ++ [x] := by rw [List.map_append, hus]; rfl
    rw [e2]
  · rintro e ⟨X2, X3, rfl⟩
    simp
end HU
set_option maxRecDepth 100000
set_option maxHeartbeats 0
namespace HU
open PySem PySem.Spec L2
/-! ### making a web -/
/-- a pair, a list or a tuple -/
def prD (p : Bool × Str × Str) : D := sq p.1 [.str p.2.1, .str p.2.2]
theorem prD_minA (p : Bool × Str × Str) : minA (prD p) = some (.str (wlo p.2)) := by
  obtain ⟨b, w⟩ := p
  cases b
  · exact minA_w w
  · show some (D.str (minS w.1 [w.2])) = _
    unfold minS wlo sLt
    simp
theorem prD_maxA (p : Bool × Str × Str) : maxA (prD p) = some (.str (whi p.2)) := by
  obtain ⟨b, w⟩ := p
  cases b
  · exact maxA_w w
  · show some (D.str (maxS w.1 [w.2])) = _
    unfold maxS whi sLt
    simp
def fs1 (rooms : List Str) : List (Str × D) := [("own_rooms", .lst (rooms.map D.str))]
theorem is_row_sq (b : Bool) (xs : List D) (n : Int) : m_is_row [.val (sq b xs), .val (.int n)] = some (.val (.bl (decide ((xs.length : Int) = n))), [.none, .none]) := by
  cases b
  · exact is_row_tup xs n
  · exact is_row_lst xs n
theorem noDit_pr (p : Bool × Str × Str) : noDit (prD p) = true := noDit_sq _ _
@[simp] theorem item_pr0 (p : Bool × Str × Str) : itemD (prD p) (.int 0) = some (.str p.2.1) := by obtain ⟨b, w⟩ := p; cases b <;> simp [prD, sq]
@[simp] theorem item_pr1 (p : Bool × Str × Str) : itemD (prD p) (.int 1) = some (.str p.2.2) := by obtain ⟨b, w⟩ := p; cases b <;> simp [prD, sq]
theorem is_wire_ok {rooms : List Str} {p : Bool × Str × Str} (h1 : p.2.1 ∈ rooms) (h2 : p.2.2 ∈ rooms) (h3 : p.2.1 ≠ p.2.2) : m_Web_is_wire [.pki "Web" (fs1 rooms), .val (prD p)] = some (.val (.bl true), [.none, .none]) := by
  refine Op.eq ?_
  have e1 : m_is_row [.val (prD p), .val (.int 2)] = some (.val (.bl true), [.none, .none]) := by
    show m_is_row [.val (sq p.1 _), .val (.int 2)] = _
    rw [is_row_sq]; rfl
  have e2 : itD (prD p) = some ([p.2.1, p.2.2].map D.str) := by obtain ⟨b, w⟩ := p; cases b <;> rfl
  have e3 : (fs1 rooms).lookup ("own_rooms" : Str) = some (D.lst (rooms.map D.str)) := by rfl
  unfold m_Web_is_wire
  simp [e1, e2, -List.map_cons]
  rw [lc_map D.str (fun _ => D.bl true) _ _ (fun x hx => by
    have hx' : x ∈ rooms := by simp at hx; rcases hx with rfl | rfl <;> assumption
    simp [e3, hx'])]
  have e4 : allD (.lst ([p.2.1, p.2.2].map fun _ => D.bl true)) = some (.bl true) := by rfl
  simp only [List.map_cons, List.map_nil] at e4
  simp [sl_le (show 2 < 10000000 by decide), e4, h3]
/-! the dict of lists -/
def dolK (rooms : List Str) (g : Str → List D) : List (Key × List D) := rooms.map fun r => (kS r, g r)
theorem getL_ok {rooms : List Str} {g : Str → List D} {r : Str} (h : r ∈ rooms) : getL (dolK rooms g) (kS r) = some (g r) := by
  induction rooms with
  | nil => cases h
  | cons s rooms ih =>
    show (if kS s = kS r then some (g s) else getL (dolK rooms g) (kS r)) = _
    by_cases z : s = r
    · subst z; simp
    · have : ¬ kS s = kS r := fun e => z (kS_inj _ _ e)
      rw [if_neg this]
      exact ih ((List.mem_cons.mp h).resolve_left fun e => z e.symm)
theorem putL_ok {rooms : List Str} {g : Str → List D} {r : Str} {ys : List D} (nd : rooms.Nodup) : putL (dolK rooms g) (kS r) ys = dolK rooms fun s => if s = r then ys else g s := by
  induction rooms with
  | nil => rfl
  | cons s rooms ih =>
    rw [List.nodup_cons] at nd
    show (if kS s = kS r then (kS s, ys) :: dolK rooms g else (kS s, g s) :: putL (dolK rooms g) (kS r) ys) = _
    by_cases z : s = r
    · subst z
      simp only [if_true]
      unfold dolK
      simp only [List.map_cons, if_true]
      congr 1
      apply List.map_congr_left
      intro t ht
      have : ¬ t = s := fun e => nd.1 (e ▸ ht)
      simp [this]
    · have : ¬ kS s = kS r := fun e => z (kS_inj _ _ e)
      rw [if_neg this, ih nd.2]
      unfold dolK
      simp [z]
theorem dolL_ok {b : Bd} {vs : List Nat} {mk : Mr D} (e0 : List Sl) (h : ∀ x : Str, Op (b (.str x) e0) fun e1 => Op (mk e1) fun y => y.1 = .str x ∧ wipeE y.2 vs = e0) : ∀ (rooms acc : List Str), (acc ++ rooms).Nodup → acc.length + rooms.length < 10000 →
    dolL b vs mk (rooms.map D.str) (acc.map kS) e0 = some ((acc ++ rooms).map kS, e0)
  | [], acc, _, _ => by simp [dolL]
  | r :: rooms, acc, nd, hl => by
    obtain ⟨e1, h1, y, h2, h3, h4⟩ := h r
    have ih := dolL_ok e0 h rooms (acc ++ [r]) (by simpa using nd) (by simp at hl ⊢; omega)
    have hn : r ∉ acc := by
      rw [List.nodup_append] at nd
      exact fun hm => nd.2.2 r hm r (by simp) rfl
    have ha : ((acc.map kS).any fun x => decide (x = kS r)) = false := by
      rw [List.any_eq_false]
      intro k hk
      obtain ⟨s, hs, rfl⟩ := List.mem_map.mp hk
      simp only [decide_eq_true_eq]
      intro e
      exact hn (kS_inj _ _ e ▸ hs)
    simp only [List.map_cons, dolL, h1, Option.bind_some, h2, h3]
    rw [show asKey (.str r) = some (kS r) from rfl]
    simp only [Option.bind_some]
    rw [if_pos ⟨by simp; exact sl_lt (by simp at hl; omega), ha⟩, h4]
    have e5 : acc.map kS ++ [kS r] = (acc ++ [r]).map kS := by simp
    rw [e5, ih]
    simp
@[simp] theorem mDol_e {mi : Mr (List D)} {b : Bd} {vs : List Nat} {mk : Mr D} {e : List Sl} : mDol mi b vs mk e = (mi e).bind fun r => (dolL b vs mk r.1 [] (wipeE r.2 vs)).map fun q => (.stm (.dol (q.1.map fun k => (k, []))), restore vs r.2 q.2) := rfl
def dolAt : Option Sl → Option (List (Key × List D))
  | some (.stm (.dol kvs)) => some kvs
  | _ => none
@[simp] theorem dolAt_e {kvs : List (Key × List D)} : dolAt (some (.stm (.dol kvs))) = some kvs := rfl
@[simp] theorem mDolApp_e {i j : Nat} {mk : Mr D} {e : List Sl} : mDolApp i j mk e = if (e[i]?).any Sl.own = false then none else (mk e).bind fun y => (asKey y.1).bind fun k => (dolAt (y.2[i]?)).bind fun kvs => ((y.2[j]?).bind Sl.vl).bind fun d => (getL kvs k).bind fun xs => if xs.length < sizeLine then some (.non, y.2.set i (.stm (.dol (putL kvs k (xs ++ [d]))))) else none := by
  unfold mDolApp
  split
  · rfl
  · congr 1; funext y; congr 1; funext k
    generalize y.2[i]? = u
    generalize y.2[j]? = v
    match u with
    | none => cases v <;> rfl
    | some s =>
      cases s with
      | stm z =>
        cases z with
        | dol kvs =>
          cases v with
          | none => rfl
          | some t => cases t <;> rfl
        | s => rfl
      | _ => rfl
@[simp] theorem mDolNz_e {n i : Nat} {e : List Sl} : mDolNz n i e = (dolAt (e[i]?)).bind fun kvs => if n ≤ i then some (.dic (kvs.map fun q => (q.1, .lst q.2)), e.set i (.val (.dic (kvs.map fun q => (q.1, .lst q.2))))) else none := by
  unfold mDolNz
  generalize e[i]? = u
  match u with
  | none => rfl
  | some s =>
    cases s with
    | stm z => cases z <;> rfl
    | _ => rfl
@[simp] theorem mDc_e {mi : Mr (List D)} {b : Bd} {vs : List Nat} {tt : Mr Bool} {mk mv : Mr D} {e : List Sl} : mDc mi b vs tt mk mv e = (mi e).bind fun r => (dcL b vs tt mk mv r.1 [] (wipeE r.2 vs)).map fun q => (.dic q.1, restore vs r.2 q.2) := rfl
/-- a dict comprehension without tests whose keys are unlike texts -/
theorem dc_ok {α : Type} [DecidableEq α] {b : Bd} {vs : List Nat} {tt : Mr Bool} {mk mv : Mr D} (f : α → D) (key : α → Str) (g : α → D) (e0 : List Sl) : ∀ (xs done : List α), (∀ x ∈ xs, Op (b (f x) e0) fun e1 => Op (tt e1) fun t => t.1 = true ∧ Op (mk t.2) fun y => y.1 = .str (key x) ∧ Op (mv y.2) fun z => z.1 = g x ∧ wipeE z.2 vs = e0) →
    ((done ++ xs).map key).Nodup → done.length + xs.length < 100000 → dcL b vs tt mk mv (xs.map f) (done.map fun x => (kS (key x), g x)) e0 = some ((done ++ xs).map fun x => (kS (key x), g x), e0)
  | [], done, _, _, _ => by simp [dcL]
  | x :: xs, done, h, nd, hl => by
    obtain ⟨e1, h1, t, h2, h3, y, h4, h5, z, h6, h7, h8⟩ := h x List.mem_cons_self
    have ih := dc_ok (b := b) (vs := vs) (tt := tt) (mk := mk) (mv := mv) f key g e0 xs (done ++ [x]) (fun y hy => h y (List.mem_cons_of_mem _ hy)) (by simpa using nd) (by simp at hl ⊢; omega)
    simp only [List.map_cons, dcL, h1, Option.bind_some, h2, h3, if_true, h4, h5, h6, h7, h8]
    rw [show asKey (.str (key x)) = some (kS (key x)) from rfl]
    simp only [Option.bind_some]
    rw [if_pos (by simp; exact sl_lt (by simp at hl; omega))]
    have e5 : putA (done.map fun x => (kS (key x), g x)) (kS (key x)) (g x) = (done ++ [x]).map fun x => (kS (key x), g x) := by
      unfold putA
      have : ((done.map fun x => (kS (key x), g x)).any fun kv => decide (kv.1 = kS (key x))) = false := by
        rw [List.any_eq_false]
        intro kv hk
        obtain ⟨s, hs, rfl⟩ := List.mem_map.mp hk
        simp only [decide_eq_true_eq]
        intro e
        rw [List.map_append, List.nodup_append] at nd
        exact nd.2.2 (key s) (List.mem_map.mpr ⟨s, hs, rfl⟩) (key x) (by simp) (kS_inj _ _ e)
      rw [if_neg (by rw [this]; decide)]
      simp
    rw [e5, ih]
    simp
end HU
set_option maxRecDepth 100000
set_option maxHeartbeats 0
namespace HU
open PySem PySem.Spec L2
@[simp] theorem fne_own_rooms_own_wires : ¬ (("own_rooms" : Str) = "own_wires") := by decide +kernel
@[simp] theorem fbe_own_rooms_own_wires : (("own_rooms" : Str) == "own_wires") = false := by decide +kernel
@[simp] theorem fne_own_rooms_own_around : ¬ (("own_rooms" : Str) = "own_around") := by decide +kernel
@[simp] theorem fbe_own_rooms_own_around : (("own_rooms" : Str) == "own_around") = false := by decide +kernel
@[simp] theorem fne_own_wires_own_rooms : ¬ (("own_wires" : Str) = "own_rooms") := by decide +kernel
@[simp] theorem fbe_own_wires_own_rooms : (("own_wires" : Str) == "own_rooms") = false := by decide +kernel
@[simp] theorem fne_own_wires_own_around : ¬ (("own_wires" : Str) = "own_around") := by decide +kernel
@[simp] theorem fbe_own_wires_own_around : (("own_wires" : Str) == "own_around") = false := by decide +kernel
@[simp] theorem fne_own_around_own_rooms : ¬ (("own_around" : Str) = "own_rooms") := by decide +kernel
@[simp] theorem fbe_own_around_own_rooms : (("own_around" : Str) == "own_rooms") = false := by decide +kernel
@[simp] theorem fne_own_around_own_wires : ¬ (("own_around" : Str) = "own_wires") := by decide +kernel
@[simp] theorem fbe_own_around_own_wires : (("own_around" : Str) == "own_wires") = false := by decide +kernel
@[simp] theorem fne_is_wire : ¬ (("is_wire" : Str) = "own_rooms") := by decide +kernel
@[simp] theorem fbe_is_wire : (("is_wire" : Str) == "own_rooms") = false := by decide +kernel
/-- around, in the wires' order -/
def aroundK (rooms : List Str) (ws : List (Str × Str)) : List (Key × D) := rooms.map fun r => (kS r, D.lst ((arW ws r).map D.str))
/-- the fields of a web that is made -/
def webFs (w : Wb) : List (Str × D) := [("own_rooms", .lst (w.rooms.map D.str)), ("own_wires", .lst (w.wires.map wD)), ("own_around", .dic (aroundK w.rooms w.wires))]
def Wb.o (w : Wb) : D := .ins "Web" (webFs w)
theorem nbW_snoc (ws : List (Str × Str)) (w : Str × Str) (r : Str) : nbW (ws ++ [w]) r = nbW ws r ++ (if tch r w then [oth r w] else []) := by
  unfold nbW
  rw [List.filter_append, List.map_append]
  congr 1
  by_cases h : tch r w = true <;> simp [h]
theorem lk_rooms (w : Wb) : (webFs w).lookup ("own_rooms" : Str) = some (.lst (w.rooms.map D.str)) := by rfl
theorem lk_wires (w : Wb) : (webFs w).lookup ("own_wires" : Str) = some (.lst (w.wires.map wD)) := by rfl
theorem lk_around (w : Wb) : (webFs w).lookup ("own_around" : Str) = some (.dic (aroundK w.rooms w.wires)) := by rfl
def nbD (ws : List (Str × Str)) (r : Str) : List D := (nbW ws r).map D.str
theorem nbD_snoc {ws : List (Str × Str)} {one other : Str} (hne : one ≠ other) (s : Str) : nbD (ws ++ [(one, other)]) s = if s = other then nbD ws other ++ [.str one] else if s = one then nbD ws one ++ [.str other] else nbD ws s := by
  unfold nbD
  rw [nbW_snoc]
  by_cases h1 : s = other
  · subst h1
    simp [tch, oth, hne]
  · by_cases h2 : s = one
    · subst h2
      simp [tch, oth, h1]
    · simp [tch, h1, h2]
theorem itemsD_dol (rooms : List Str) (g : Str → List D) : itemsD (.dic ((dolK rooms g).map fun q => (q.1, D.lst q.2))) = some (rooms.map fun r => D.tup [.str r, .lst (g r)]) := by
  unfold itemsD dolK
  simp [Function.comp_def, kD, kS]
theorem init_ok {w : Wb} (hw : w.Ok) {b c : Bool} {rs : List Str} {ps : List (Bool × Str × Str)} (hr : rs.Perm w.rooms) (hp : (ps.map fun p => wnm p.2).Perm w.wires) (hn : ∀ p ∈ ps, p.2.1 ≠ p.2.2) :
    m_Web___init__ [.ins "Web" [], .val (sq b (rs.map D.str)), .val (sq c (ps.map prD))] = some (.val .non, [.ins "Web" (webFs w), .none, .none]) := by
  refine Op.eq ?_
  have hnd : w.rooms.Nodup := pw_nodup sLt_irrefl hw.rs
  have hrl := hr.length_eq
  have hrl2 := hw.rl
  have hpl := hp.length_eq
  have hpl2 := hw.wl
  have hfb := first_bad_ok (b := b) (xs := rs) (fun x hx => hw.nm x (hr.mem_iff.mp hx)) (hr.nodup_iff.mpr hnd) (by rintro rfl; exact hw.ne (hr.nil_eq ▸ rfl)) (by omega)
  have hsr : srtS rs = w.rooms := srtS_of hw.rs (hr.nodup_iff.mpr hnd) fun x => hr.mem_iff.symm
  unfold m_Web___init__
  simp [hfb, hsr, is_list_ok (noDit_sq c _), putFD, -sFor_e]
  have hpd : (ps.map fun p => wnm p.2).Nodup := hp.nodup_iff.mpr (pw_nodup wLt_irrefl hw.ws)
  have hpm : ∀ p ∈ ps, p.2.1 ∈ w.rooms ∧ p.2.2 ∈ w.rooms := fun p hm => by
    have h1 := hw.wr _ (hp.mem_iff.mp (List.mem_map.mpr ⟨p, hm, rfl⟩))
    have h2 := (wnm_lt (hn p hm)).2
    have e1 : (wnm p.2).1 = wlo p.2 := rfl
    have e2 : (wnm p.2).2 = whi p.2 := rfl
    rw [e1, e2] at h1
    rcases h2 with h2 | h2
    · rw [h2.1, h2.2] at h1; exact ⟨h1.1, h1.2.1⟩
    · rw [h2.1, h2.2] at h1; exact ⟨h1.2.1, h1.1⟩
  have iw : ∀ p ∈ ps, m_Web_is_wire [.pki "Web" [("own_rooms", .lst (w.rooms.map D.str))], .val (prD p)] = some (.val (.bl true), [.none, .none]) := fun p hm => is_wire_ok (hpm p hm).1 (hpm p hm).2 (hn p hm)
  refine Op.imp (Q := fun o => ∃ X5 X6, o = .next [.ins "Web" [("own_rooms", .lst (w.rooms.map D.str))], .val (sq b (rs.map D.str)), .val (sq c (ps.map prD)), .val .non, .dit ((ps.map fun p => wnm p.2).map fun u => (kW u, D.bl true)), X5, X6, .none, .none, .none, .none, .none]) ?_ ?_
  · simp
    refine op_forL (fun p : (Bool × Str × Str) × Nat => D.tup [.int p.2, prD p.1]) (fun done rest e => ∃ X5 X6, e = [.ins "Web" [("own_rooms", .lst (w.rooms.map D.str))], .val (sq b (rs.map D.str)), .val (sq c (ps.map prD)), .val .non, .dit ((done.map fun p => wnm p.1.2).map fun u => (kW u, D.bl true)), X5, X6, .none, .none, .none, .none, .none]) _ _ ?_ ?_ ?_
    · exact ⟨.none, .none, rfl⟩
    · rintro done ⟨p, i⟩ rest e he ⟨X5, X6, rfl⟩
      have hx : p ∈ ps := by
        have : (p, i) ∈ ps.zipIdx := by rw [he]; simp
        exact (List.mem_zipIdx' this).2 ▸ List.getElem_mem _
      have hxd : wnm p.2 ∉ done.map fun p => wnm p.1.2 := by
        have h1 : (ps.zipIdx.map fun p => wnm p.1.2) = ps.map fun p => wnm p.2 := by
          have : ps.zipIdx.map (·.1) = ps := by simp
          conv => rhs; rw [← this]
          rw [List.map_map]; rfl
        rw [he, List.map_append] at h1
        rw [← h1, List.nodup_append] at hpd
        intro hm
        exact hpd.2.2 _ hm (wnm p.2) (by simp) rfl
      have hlen : (done.map fun p => wnm p.1.2).length ≤ 10000 := by
        have := congrArg List.length he
        simp at this hpl ⊢; omega
      generalize hus : (done.map fun p => wnm p.1.2) = us at hxd hlen
      have e1 : inB (.tup [.str (wlo p.2), .str (whi p.2)]) (.dit (us.map fun u => (kW u, D.bl true))) = some false := by
        have := inB_ditU us (.bl true) (wnm p.2)
        rw [show wD (wnm p.2) = .tup [.str (wlo p.2), .str (whi p.2)] from rfl] at this
        rw [this]; simp [hxd]
      have e2 : asKeys [.str (wlo p.2), .str (whi p.2)] = some (kW (wnm p.2)) := rfl
      simp [iw p hx, prD_minA, prD_maxA, e1, e2, sl_le (show 2 < 10000000 by decide), sl_lt (show us.length < 10000000 by omega)]
      refine At.i ?_
      refine ⟨.val (.int i), .val (prD p), ?_⟩
      rw [putA_uniq kW_inj, if_neg hxd]
      have e2 : ((done ++ [(p, i)]).map fun p => wnm p.1.2) = us ++ [wnm p.2] := by rw [List.map_append, hus]; rfl
      rw [e2]
    · rintro e ⟨X5, X6, rfl⟩
      have e2 : (ps.zipIdx.map fun p => wnm p.1.2) = ps.map fun p => wnm p.2 := by
        have : ps.zipIdx.map (·.1) = ps := by simp
        conv => rhs; rw [← this]
        rw [List.map_map]; rfl
      rw [e2]
      simp
  rintro o ⟨X5, X6, rfl⟩
  have hsw : srtW (ps.map fun p => wnm p.2) = w.wires := srtW_of hw.ws hpd fun x => hp.mem_iff.symm
  generalize (ps.map fun p => wnm p.2) = us at hsw
  simp [sorted_dit, hsw, putFD, List.lookup, -sFor_e]
  have hdol := dolL_ok (b := bNm 3 10) (vs := [10]) (mk := mNm 10) [.ins "Web" [("own_rooms", .lst (w.rooms.map D.str)), ("own_wires", .lst (w.wires.map wD))], .val (sq b (rs.map D.str)), .val (sq c (ps.map prD)), .val .non, .dit (us.map fun u => (kW u, D.bl true)), X5, X6, .none, .none, .none, .none, .none] (fun x => by simp) w.rooms [] (by simpa using hnd) (by simp; omega)
  simp only [List.map_nil, List.nil_append] at hdol
  rw [hdol]
  simp [-sFor_e]
  refine Op.imp (Q := fun o => ∃ X8 X9, o = .next [.ins "Web" [("own_rooms", .lst (w.rooms.map D.str)), ("own_wires", .lst (w.wires.map wD))], .val (sq b (rs.map D.str)), .val (sq c (ps.map prD)), .val .non, .dit (us.map fun u => (kW u, D.bl true)), X5, X6, .stm (.dol (dolK w.rooms (nbD w.wires))), X8, X9, .none, .none]) ?_ ?_
  · simp [List.lookup]
    refine op_forL wD (fun done rest e => ∃ X8 X9, e = [.ins "Web" [("own_rooms", .lst (w.rooms.map D.str)), ("own_wires", .lst (w.wires.map wD))], .val (sq b (rs.map D.str)), .val (sq c (ps.map prD)), .val .non, .dit (us.map fun u => (kW u, D.bl true)), X5, X6, .stm (.dol (dolK w.rooms (nbD done))), X8, X9, .none, .none]) _ _ ?_ ?_ ?_
    · exact ⟨.none, .none, rfl⟩
    · rintro done ⟨one, other⟩ rest e he ⟨X8, X9, rfl⟩
      have hm : (one, other) ∈ w.wires := by rw [he]; simp
      obtain ⟨h1, h2, h3⟩ := hw.wr _ hm
      have hne : one ≠ other := fun e => by simp only at h3; rw [e] at h3; exact sLt_irrefl _ h3
      have hl : done.length ≤ 10000 := by
        have := congrArg List.length he
        simp at this; omega
      have hb : ∀ r, (nbD done r).length < sizeLine := fun r => by
        unfold nbD
        rw [List.length_map]; exact sl_lt (by have := nbW_len done r; omega)
      have g1 : getL (dolK w.rooms (nbD done)) (.inr one) = some (nbD done one) := getL_ok h1
      have p1 : ∀ ys, putL (dolK w.rooms (nbD done)) (.inr one) ys = dolK w.rooms fun s => if s = one then ys else nbD done s := fun ys => putL_ok hnd
      have g2 : ∀ ys, getL (dolK w.rooms fun s => if s = one then ys else nbD done s) (.inr other) = some (nbD done other) := fun ys => by
        rw [show (Sum.inr other : Key) = kS other from rfl, getL_ok (g := fun s => if s = one then ys else nbD done s) h2, if_neg (Ne.symm hne)]
      have p2 : ∀ ys zs, putL (dolK w.rooms fun s => if s = one then ys else nbD done s) (.inr other) zs = dolK w.rooms fun s => if s = other then zs else if s = one then ys else nbD done s := fun ys zs => putL_ok (g := fun s => if s = one then ys else nbD done s) hnd
      simp [wD, g1, p1, g2, p2, hb]
      refine At.i ⟨.val (.str one), .val (.str other), ?_⟩
      have e : nbD (done ++ [(one, other)]) = fun s => if s = other then nbD done other ++ [.str one] else if s = one then nbD done one ++ [.str other] else nbD done s := funext fun s => nbD_snoc hne s
      rw [e]
    · rintro e ⟨X8, X9, rfl⟩
      simp
  rintro o ⟨X8, X9, rfl⟩
  simp [itemsD_dol]
  have hdc := dc_ok (b := bTup 2 (bsCons (bNm 3 10) (bsCons (bNm 3 11) bsNil))) (vs := [10, 11]) (tt := mRet true) (mk := mNm 10) (mv := mFz (mOp1 sortedD (pN 11) (vN 11))) (fun r => D.tup [.str r, .lst (nbD w.wires r)]) id (fun r => D.lst ((arW w.wires r).map D.str)) [.ins "Web" [("own_rooms", .lst (w.rooms.map D.str)), ("own_wires", .lst (w.wires.map wD))], .val (sq b (rs.map D.str)), .val (sq c (ps.map prD)), .val .non, .dit (us.map fun u => (kW u, D.bl true)), X5, X6, .val (.dic ((dolK w.rooms (nbD w.wires)).map fun q => (q.1, D.lst q.2))), X8, X9, .none, .none] w.rooms [] (fun r hr => by simp [nbD, arW]) (by simpa using hnd) (by simp; omega)
  simp only [List.map_nil, List.nil_append, id] at hdc
  rw [hdc]
  simp [putFD]
  rfl
end HU
set_option maxRecDepth 100000
set_option maxHeartbeats 0
namespace HU
open PySem PySem.Spec L2
/-! ### a web made of what is handed in otherwise -/
theorem lo_str {x : Str} {e : D} (h : Lo (.str x) e) : e = .str x := by
  cases h with
  | same => rfl
  | l h _ _ => rcases h with h | h <;> cases h
theorem loL_strs : ∀ {xs : List Str} {es : List D}, LoL (xs.map D.str) es → es = xs.map D.str
  | [], _, h => by cases h; rfl
  | x :: xs, _, h => by
    cases h with
    | cons a r => rw [lo_str a, loL_strs r]; rfl
theorem lo_sqS {b : Bool} {xs : List Str} {e : D} (h : Lo (sq b (xs.map D.str)) e) : ∃ c, e = sq c (xs.map D.str) := by
  cases h with
  | same => exact ⟨b, rfl⟩
  | l hx hy hl =>
    rename_i xs' ys
    have : xs' = xs.map D.str := by
      cases b <;> (unfold sq at hx; simp at hx; exact hx.symm)
    subst this
    have := loL_strs hl
    subst this
    rcases hy with rfl | rfl
    · exact ⟨true, rfl⟩
    · exact ⟨false, rfl⟩
theorem lo_pr {p : Bool × Str × Str} {e : D} (h : Lo (prD p) e) : ∃ c, e = prD (c, p.2) := by
  have h' : Lo (sq p.1 ([p.2.1, p.2.2].map D.str)) e := h
  obtain ⟨c, rfl⟩ := lo_sqS h'
  exact ⟨c, rfl⟩
theorem loL_prs : ∀ {ps : List (Bool × Str × Str)} {es : List D}, LoL (ps.map prD) es → ∃ qs : List (Bool × Str × Str), es = qs.map prD ∧ qs.map (·.2) = ps.map (·.2)
  | [], _, h => by cases h; exact ⟨[], rfl, rfl⟩
  | p :: ps, _, h => by
    cases h with
    | cons a r =>
      obtain ⟨c, rfl⟩ := lo_pr a
      obtain ⟨qs, rfl, e⟩ := loL_prs r
      exact ⟨(c, p.2) :: qs, rfl, by simp [e]⟩
theorem lo_sqP {b : Bool} {ps : List (Bool × Str × Str)} {e : D} (h : Lo (sq b (ps.map prD)) e) : ∃ (c : Bool) (qs : List (Bool × Str × Str)), e = sq c (qs.map prD) ∧ qs.map (·.2) = ps.map (·.2) := by
  cases h with
  | same => exact ⟨b, ps, rfl, rfl⟩
  | l hx hy hl =>
    rename_i xs' ys
    have : xs' = ps.map prD := by
      cases b <;> (unfold sq at hx; simp at hx; exact hx.symm)
    subst this
    obtain ⟨qs, rfl, e⟩ := loL_prs hl
    rcases hy with rfl | rfl
    · exact ⟨true, qs, rfl, e⟩
    · exact ⟨false, qs, rfl, e⟩
theorem plain_strs : ∀ xs : List Str, plainL (xs.map D.str) = true
  | [] => rfl
  | x :: xs => by simp [plainL, plainD, plain_strs xs]
theorem short_strs : ∀ xs : List Str, shortL (xs.map D.str) = true
  | [] => rfl
  | x :: xs => by simp [shortL, shortD, short_strs xs]
theorem depth_strs' : ∀ xs : List Str, depthL (xs.map D.str) = 0
  | [] => rfl
  | x :: xs => by simp [depthL, depthD, depth_strs' xs]
theorem nodes_strs : ∀ xs : List Str, nodesL (xs.map D.str) = 0
  | [] => rfl
  | x :: xs => by simp [nodesL, nodes, nodes_strs xs]
theorem plain_sq (b : Bool) (xs : List D) : plainD (sq b xs) = plainL xs := by cases b <;> simp [sq, plainD]
theorem short_sq (b : Bool) (xs : List D) : shortD (sq b xs) = (decide (xs.length < 100000) && shortL xs) := by cases b <;> simp [sq, shortD]
theorem depth_sq (b : Bool) (xs : List D) : depthD (sq b xs) = depthL xs + 1 := by cases b <;> simp [sq, depthD]
theorem nodes_sq (b : Bool) (xs : List D) : nodes (sq b xs) = nodesL xs + 1 := by cases b <;> simp [sq, nodes]
theorem pr_eq (p : Bool × Str × Str) : prD p = sq p.1 ([p.2.1, p.2.2].map D.str) := rfl
theorem plain_prs : ∀ ps : List (Bool × Str × Str), plainL (ps.map prD) = true
  | [] => rfl
  | p :: ps => by rw [List.map_cons, plainL, plain_prs ps, pr_eq, plain_sq, plain_strs]; rfl
theorem short_prs : ∀ ps : List (Bool × Str × Str), shortL (ps.map prD) = true
  | [] => rfl
  | p :: ps => by rw [List.map_cons, shortL, short_prs ps, pr_eq, short_sq, short_strs]; simp
theorem depth_prs : ∀ ps : List (Bool × Str × Str), depthL (ps.map prD) ≤ 1
  | [] => by simp [depthL]
  | p :: ps => by rw [List.map_cons, depthL, pr_eq, depth_sq, depth_strs']; have := depth_prs ps; omega
theorem nodes_prs : ∀ ps : List (Bool × Str × Str), nodesL (ps.map prD) = ps.length
  | [] => rfl
  | p :: ps => by rw [List.map_cons, nodesL, nodes_prs ps, pr_eq, nodes_sq, nodes_strs, List.length_cons]; omega
theorem op_looseS {S : Stm} {k : Nat} {b : Bool} {xs : List Str} {Q : Sl × List Sl → Prop} (hl : xs.length < 100000) (g : GSt S (k + 1)) (q : ∀ c S', GSt S' k → Q (.val (sq c (xs.map D.str)), [.stm S', .none])) : Op (mLoose 8 [.stm S, .val (sq b (xs.map D.str))]) Q :=
  op_loose (by rw [plain_sq, plain_strs]) (by rw [short_sq, short_strs]; simp [hl]) (by rw [depth_sq, depth_strs']; decide) (by rw [nodes_sq, nodes_strs]; simpa using g) fun e S' h g' => by
    obtain ⟨c, rfl⟩ := lo_sqS h
    exact q c S' g'
theorem op_looseP {S : Stm} {k : Nat} {b : Bool} {ps : List (Bool × Str × Str)} {Q : Sl × List Sl → Prop} (hl : ps.length < 100000) (g : GSt S (k + ps.length + 1)) (q : ∀ c (qs : List (Bool × Str × Str)) S', qs.map (·.2) = ps.map (·.2) → GSt S' k → Q (.val (sq c (qs.map prD)), [.stm S', .none])) : Op (mLoose 8 [.stm S, .val (sq b (ps.map prD))]) Q :=
  op_loose (k := k) (by rw [plain_sq, plain_prs]) (by rw [short_sq, short_prs]; simp [hl]) (by rw [depth_sq]; have := depth_prs ps; omega) (by rw [nodes_sq, nodes_prs]; exact g.le (by omega)) fun e S' h g' => by
    obtain ⟨c, qs, rfl, e⟩ := lo_sqP h
    exact q c qs S' e g'
theorem perm_mapP {ds : List D} {ps : List (Bool × Str × Str)} (h : ds.Perm (ps.map prD)) : ∃ qs : List (Bool × Str × Str), ds = qs.map prD ∧ qs.Perm ps := by
  have hm : ∀ d ∈ ds, ∃ y, d = prD y := fun d hd => by
    obtain ⟨y, _, rfl⟩ := List.mem_map.mp (h.mem_iff.mp hd); exact ⟨y, rfl⟩
  let g : D → Bool × Str × Str := fun d => match d with | .tup [.str x, .str y] => (false, x, y) | .lst [.str x, .str y] => (true, x, y) | _ => (false, ⟨#[]⟩, ⟨#[]⟩)
  have hg : ∀ w, g (prD w) = w := fun w => by obtain ⟨b, x, y⟩ := w; cases b <;> rfl
  refine ⟨ds.map g, ?_, ?_⟩
  · rw [List.map_map]
    conv => lhs; rw [← List.map_id ds]
    apply List.map_congr_left
    intro d hd
    obtain ⟨y, rfl⟩ := hm d hd
    simp [hg]
  · have := h.map g
    rw [List.map_map] at this
    have e : ps.map (g ∘ prD) = ps := by
      conv => rhs; rw [← List.map_id ps]
      exact List.map_congr_left fun w _ => hg w
    rwa [e] at this
theorem op_mixedP {S : Stm} {k : Nat} {d : D} {xs : List (Bool × Str × Str)} {Q : Sl × List Sl → Prop} (hs : srcD d = some (xs.map prD)) (g : GSt S (k + xs.length)) (hl : xs.length < 100000) (q : ∀ (ys : List (Bool × Str × Str)) S', ys.Perm xs → GSt S' k → Q (.lst (ys.map prD), [.stm S', .none])) : Op (mMixed [.stm S, .val d]) Q :=
  op_mixed hs (by simpa using g) (by simpa using hl) fun ds S' hp g' => by
    obtain ⟨ys, rfl, hp2⟩ := perm_mapP hp
    exact q ys S' hp2 g'
theorem op_made {S : Stm} {k : Nat} {w : Wb} {Q : Sl × List Sl → Prop} (hw : w.Ok) (g : GSt S (k + 60000)) (q : ∀ S', GSt S' k → Q (.ins "Web" (webFs w), [.stm S', .none])) : Op (m__law_made [.stm S, .val w.d]) Q := by
  have hrl := hw.rl
  have hwl := hw.wl
  unfold m__law_made Wb.d
  simp
  refine op_lc wD (fun dn out rs e => ∃ (S' : Stm) (ps : List (Bool × Str × Str)), e = [.stm S', .val (.tup [.lst (w.rooms.map D.str), .lst (w.wires.map wD)]), .none, .none] ∧ out = ps.map prD ∧ (ps.map fun p => wnm p.2) = dn ∧ (∀ p ∈ ps, p.2.1 ≠ p.2.2) ∧ GSt S' (k + 25000 + 3 * rs.length)) _ _ ?_ ?_ ?_
  · exact ⟨S, [], rfl, rfl, rfl, by simp, g.le (by omega)⟩
  · rintro dn out ⟨x, y⟩ rs e he ⟨S', ps, rfl, rfl, hps, hne, g⟩
    obtain ⟨h1, h2, h3⟩ := hw.wr (x, y) (by rw [he]; simp)
    have h3 : sLt x y := h3
    have hxy : x ≠ y := fun e => by rw [e] at h3; exact sLt_irrefl _ h3
    simp only [List.length_cons] at g
    simp [wD]
    refine op_mixedS (k := k + 25000 + 3 * rs.length + 1) (xs := [x, y]) rfl (g.le (by simp; omega)) (by simp) fun zs S1 hz g1 => ?_
    obtain ⟨a, b, rfl, hab⟩ : ∃ a b, zs = [a, b] ∧ ((a = x ∧ b = y) ∨ (a = y ∧ b = x)) := by
      have hl := hz.length_eq
      match zs, hl with
      | [a, b], _ =>
        have ha : a ∈ [x, y] := hz.mem_iff.mp (by simp)
        have hb : b ∈ [x, y] := hz.mem_iff.mp (by simp)
        have hnd : [a, b].Nodup := hz.nodup_iff.mpr (by simp [hxy])
        simp at ha hb hnd
        refine ⟨a, b, rfl, ?_⟩
        rcases ha with rfl | rfl <;> rcases hb with rfl | rfl
        · exact absurd rfl hnd
        · exact .inl ⟨rfl, rfl⟩
        · exact .inr ⟨rfl, rfl⟩
        · exact absurd rfl hnd
    simp
    refine op_looseS (k := k + 25000 + 3 * rs.length) (b := false) (xs := [a, b]) (by simp) g1 fun c S2 g2 => ?_
    simp
    have hwab : wnm (a, b) = (x, y) := by
      have n1 := sLt_asymm h3
      rcases hab with ⟨rfl, rfl⟩ | ⟨rfl, rfl⟩ <;> simp [wnm, wlo, whi, h3, n1]
    refine At.i ⟨S2, ps ++ [(c, a, b)], rfl, by simp [prD], by simp [hps, hwab], fun p hp => ?_, g2⟩
    rcases List.mem_append.mp hp with hp | hp
    · exact hne p hp
    · rw [List.mem_singleton.mp hp]
      rcases hab with ⟨rfl, rfl⟩ | ⟨rfl, rfl⟩
      · exact hxy
      · exact Ne.symm hxy
  · rintro out e ⟨S1, ps, rfl, rfl, hps, hne, g1⟩
    have hpl : ps.length ≤ 10000 := by have := congrArg List.length hps; simp at this; omega
    simp [sl_le (show ps.length < 10000000 by omega)]
    refine op_mixedS (k := k + 24000) (xs := w.rooms) rfl (g1.le (by simp; omega)) (by omega) fun rs S2 hr g2 => ?_
    have hrl2 := hr.length_eq
    simp
    refine op_looseS (k := k + 23000) (b := true) (xs := rs) (by omega) (g2.le (by omega)) fun c S3 g3 => ?_
    simp
    refine op_mixedP (k := k + 12000) (xs := ps) rfl (g3.le (by omega)) (by omega) fun qs S4 hq g4 => ?_
    have hql := hq.length_eq
    simp
    refine op_looseP (k := k) (b := true) (ps := qs) (by omega) (g4.le (by omega)) fun c2 ps2 S5 he g5 => ?_
    have hpw : (ps2.map fun p => wnm p.2).Perm w.wires := by
      have e1 : (ps2.map fun p => wnm p.2) = (ps2.map (·.2)).map wnm := by rw [List.map_map]; rfl
      rw [e1, he, List.map_map, ← hps]
      exact hq.map _
    have hne2 : ∀ p ∈ ps2, p.2.1 ≠ p.2.2 := fun p hp => by
      have : p.2 ∈ ps2.map (·.2) := List.mem_map.mpr ⟨p, hp, rfl⟩
      rw [he] at this
      obtain ⟨p', hp', e⟩ := List.mem_map.mp this
      rw [← e]
      exact hne p' (hq.mem_iff.mp hp')
    have hi := init_ok (b := c) (c := c2) hw hr hpw hne2
    simp [hi]
    exact q S5 g5
end HU
set_option maxRecDepth 100000
set_option maxHeartbeats 400000
namespace HU
open PySem PySem.Spec L2
/-! ### any object -/
mutual
/-- of texts, numbers, None, truth values, lists and tuples, empty dicts -/
def gd : D → Bool
  | .lst xs => gdL xs
  | .tup xs => gdL xs
  | .str _ => true
  | .int _ => true
  | .non => true
  | .bl _ => true
  | .dic kvs => kvs.isEmpty
  | _ => false
def gdL : List D → Bool
  | [] => true
  | d :: ds => gd d && gdL ds
end
theorem gd_noDit {d : D} (h : gd d = true) : noDit d = true := by cases d <;> first | rfl | (simp [gd] at h)
theorem gdL_mem : ∀ {ds : List D} {d : D}, gdL ds = true → d ∈ ds → gd d = true
  | d :: ds, x, h, hx => by
    simp only [gdL, Bool.and_eq_true] at h
    rcases List.mem_cons.mp hx with rfl | hx
    · exact h.1
    · exact gdL_mem h.2 hx
theorem gdL_of : ∀ {ds : List D}, (∀ d ∈ ds, gd d = true) → gdL ds = true
  | [], _ => rfl
  | d :: ds, h => by simp only [gdL, h d List.mem_cons_self, gdL_of fun x hx => h x (List.mem_cons_of_mem _ hx), Bool.and_self]
theorem gd_sq (b : Bool) (xs : List D) : gd (sq b xs) = gdL xs := by cases b <;> simp [sq, gd]
theorem gdL_strs (xs : List Str) : gdL (xs.map D.str) = true := gdL_of fun d hd => by obtain ⟨x, _, rfl⟩ := List.mem_map.mp hd; rfl
/-- a list or a tuple, or else -/
theorem seq_or (d : D) : (∃ b xs, d = sq b xs) ∨ isSeq d = false := by
  cases d with
  | lst xs => exact .inl ⟨true, xs, rfl⟩
  | tup xs => exact .inl ⟨false, xs, rfl⟩
  | _ => exact .inr rfl
def isStr : D → Bool
  | .str _ => true
  | _ => false
theorem isi_s {d : D} (h : noDit d = true) : isiD' [.b "str"] d = some (.bl (isStr d)) := by
  cases d <;> first | rfl | (rename_i c fs; simp [noDit] at h; subst h; rfl) | cases h
/-- a text that is one of these -/
def isIn (rooms : List Str) : D → Bool
  | .str x => decide (x ∈ rooms)
  | _ => false
theorem all_isIn {rooms : List Str} : ∀ {xs : List D}, xs.all (isIn rooms) = true → ∃ ys : List Str, xs = ys.map D.str ∧ ∀ y ∈ ys, y ∈ rooms
  | [], _ => ⟨[], rfl, by simp⟩
  | d :: ds, h => by
    simp only [List.all_cons, Bool.and_eq_true] at h
    obtain ⟨ys, rfl, hy⟩ := all_isIn h.2
    cases d <;> first | (simp [isIn] at h) | skip
    rename_i x
    exact ⟨x :: ys, rfl, fun y hy' => (List.mem_cons.mp hy').elim (fun e => e ▸ h.1) (hy y)⟩
theorem strs_isIn {rooms : List Str} (ys : List Str) : (ys.map D.str).all (isIn rooms) = ys.all fun y => decide (y ∈ rooms) := by
  rw [List.all_map]; rfl
theorem item_in {rooms : List Str} {d : D} {e : List Sl} (h : gd d = true) : Op (isiD' [.b "str"] d) (fun z => z = .bl (isStr d)) := Op.of (isi_s (gd_noDit h)) rfl
theorem getA_around {rooms : List Str} {ws : List (Str × Str)} {x : Str} : getA (aroundK rooms ws) (.inr x) = if x ∈ rooms then some (.lst ((arW ws x).map D.str)) else none := by
  unfold aroundK
  induction rooms with
  | nil => rfl
  | cons r rooms ih =>
    show (if kS r = Sum.inr x then some _ else getA _ _) = _
    by_cases z : r = x
    · subst z; simp [kS]
    · have : ¬ kS r = Sum.inr x := fun e => z (kS_inj _ _ e)
      have z' : ¬ x = r := fun e => z e.symm
      rw [if_neg this, ih]
      simp [z']
@[simp] theorem inB_around (rooms : List Str) (ws : List (Str × Str)) (x : Str) : inB (.str x) (.dic (aroundK rooms ws)) = some (decide (x ∈ rooms)) := by
  rw [inB_dicS, getA_around]
  by_cases h : x ∈ rooms <;> simp [h]
theorem item_around {rooms : List Str} {ws : List (Str × Str)} {x : Str} (h : x ∈ rooms) : itemD (.dic (aroundK rooms ws)) (.str x) = some (.lst ((arW ws x).map D.str)) := by
  have e : itemD (.dic (aroundK rooms ws)) (.str x) = (getD? (.dic (aroundK rooms ws)) (.str x)).join := rfl
  rw [e, getD?_dic, getA_around, if_pos h]
  rfl
/-- the made web's fields -/
@[simp] theorem fld_rooms (w : Wb) : fldD "Web" "own_rooms" w.o = some (.lst (w.rooms.map D.str)) := by
  unfold Wb.o; rw [fldD_e, if_pos rfl]; exact lk_rooms w
@[simp] theorem fld_wires (w : Wb) : fldD "Web" "own_wires" w.o = some (.lst (w.wires.map wD)) := by
  unfold Wb.o; rw [fldD_e, if_pos rfl]; exact lk_wires w
@[simp] theorem fld_around (w : Wb) : fldD "Web" "own_around" w.o = some (.dic (aroundK w.rooms w.wires)) := by
  unfold Wb.o; rw [fldD_e, if_pos rfl]; exact lk_around w
theorem check_web_ok (w : Wb) : m_check_web [.val w.o] = some (.val .non, [.none]) := by
  refine Op.eq ?_
  have e : isiD' [.o "Web"] w.o = some (.bl true) := isiW_ins _
  unfold m_check_web
  simp [e]
theorem is_room_ok {w : Wb} {d : D} (h : gd d = true) : m_is_room [.val w.o, .val d] = some (.val (.bl (isIn w.rooms d)), [.none, .none]) := by
  refine Op.eq ?_
  unfold m_is_room
  simp [isi_s (gd_noDit h)]
  cases d <;> simp [isStr, isIn]
/-- a list comprehension over what is there itself -/
theorem lc_mapD {b : Bd} {vs : List Nat} {tt : Mr Bool} {me : Mr D} (g : D → D) (e0 : List Sl) (xs : List D) (h : ∀ x ∈ xs, Op (b x e0) fun e1 => Op (tt e1) fun r => r.1 = true ∧ Op (me r.2) fun y => y.1 = g x ∧ wipeE y.2 vs = e0) :
    lcL b vs tt me xs e0 = some (xs.map g, e0) := by
  have := lc_map (b := b) (vs := vs) (tt := tt) (me := me) (fun x : D => x) g e0 xs h
  simpa using this
def roomsIn (rooms : List Str) : D → Bool
  | .lst xs => xs.all (isIn rooms)
  | .tup xs => xs.all (isIn rooms)
  | _ => false
theorem roomsIn_sq (rooms : List Str) (b : Bool) (xs : List D) : roomsIn rooms (sq b xs) = xs.all (isIn rooms) := by cases b <;> rfl
theorem roomsIn_no (rooms : List Str) {d : D} (h : isSeq d = false) : roomsIn rooms d = false := by cases d <;> first | rfl | cases h
theorem are_rooms_ok {w : Wb} {d : D} (h : gd d = true) (hl : ∀ b xs, d = sq b xs → xs.length < 100000) : m__law_are_rooms [.val w.d, .val d] = some (.val (.bl (roomsIn w.rooms d)), [.none, .none]) := by
  refine Op.eq ?_
  have his := isi_seq (gd_noDit h)
  rcases seq_or d with ⟨b, xs, hd⟩ | hs
  · have hlen := hl b xs hd
    have hx : ∀ x ∈ xs, gd x = true := fun x hx => gdL_mem (by rw [← gd_sq b, ← hd]; exact h) hx
    have hit : itD d = some xs := by rw [hd]; exact itD_sq b xs
    have hse : isSeq d = true := by rw [hd]; exact isSeq_sq b xs
    have hri : roomsIn w.rooms d = xs.all (isIn w.rooms) := by rw [hd]; exact roomsIn_sq _ b xs
    rw [hri]
    unfold m__law_are_rooms Wb.d
    clear hd h hl
    simp [his, hit, hse]
    rw [lc_mapD (fun x => .bl (isIn w.rooms x)) _ _ (fun x hx' => by
      simp [isi_s (gd_noDit (hx x hx'))]
      cases x <;> simp [isStr, isIn])]
    simp [sl_le (show xs.length < 10000000 by omega)]
  · rw [roomsIn_no _ hs]
    unfold m__law_are_rooms Wb.d
    simp [his, hs]
/-! ### lots -/
def risS (ys : List Str) : Bool := (ys.zip (ys.drop 1)).all fun p => decide (sLt p.1 p.2)
theorem risS_iff : ∀ ys : List Str, risS ys = true ↔ ys.Pairwise sLt
  | [] => by simp [risS]
  | [a] => by simp [risS]
  | a :: b :: ys => by
    have ih := risS_iff (b :: ys)
    have e : risS (a :: b :: ys) = (decide (sLt a b) && risS (b :: ys)) := rfl
    rw [e, Bool.and_eq_true, ih, decide_eq_true_eq]
    constructor
    · rintro ⟨h1, h2⟩
      rw [List.pairwise_cons]
      refine ⟨fun c hc => ?_, h2⟩
      rcases List.mem_cons.mp hc with rfl | hc
      · exact h1
      · exact sLt_trans h1 ((List.pairwise_cons.mp h2).1 c hc)
    · intro h
      rw [List.pairwise_cons] at h
      exact ⟨h.1 b (by simp), h.2⟩
theorem zpD_sqS (b : Bool) (ys : List Str) : zpD (sq b (ys.map D.str)) (sq b ((ys.drop 1).map D.str)) = some ((ys.zip (ys.drop 1)).map fun p => D.tup [.str p.1, .str p.2]) := by
  have e : ∀ (as bs : List Str), ((as.map D.str).zip (bs.map D.str)).map (fun d : D × D => D.tup [d.1, d.2]) = (as.zip bs).map fun p => D.tup [.str p.1, .str p.2] := fun as bs => by
    rw [List.zip_map, List.map_map]; rfl
  cases b
  · exact congrArg some (e _ _)
  · exact congrArg some (e _ _)
theorem slice_sq (b : Bool) (xs : List D) (lo hi : Option Int) : (sliceD (sq b xs) lo hi).bind Sl.data = some (sq b (cutL xs lo hi)) := by cases b <;> rfl
theorem slice_sq' (b : Bool) (xs : List D) (lo hi : Option Int) : ∃ s, sliceD (sq b xs) lo hi = some s ∧ s.data = some (sq b (cutL xs lo hi)) := by cases b <;> exact ⟨_, rfl, rfl⟩
theorem is_rising_ok {b : Bool} {ys : List Str} (hl : ys.length < 100000) : m_is_rising [.val (sq b (ys.map D.str))] = some (.val (.bl (risS ys)), [.none]) := by
  refine Op.eq ?_
  obtain ⟨s, h1, h2⟩ := slice_sq' b (ys.map D.str) (some 1) none
  rw [cutL_map, cutL_from _ (by decide)] at h2
  have h2 : s.data = some (sq b ((ys.drop 1).map D.str)) := h2
  have h3 := zpD_sqS b ys
  have hz : (ys.zip (ys.drop 1)).length ≤ ys.length := by simp
  unfold m_is_rising
  generalize hd : ys.drop 1 = zs at *
  simp [h1, h2, h3]
  unfold risS
  rw [hd]
  generalize ys.zip zs = ps at hz
  rw [lc_map (fun p : Str × Str => D.tup [.str p.1, .str p.2]) (fun p => .bl (decide (sLt p.1 p.2))) _ _ (fun p hp => by simp)]
  simp [sl_le (show ps.length < 10000000 by omega)]
theorem lot_iff {rooms ys : List Str} (hr : rooms.Pairwise sLt) (hy : ∀ y ∈ ys, y ∈ rooms) : ys = rooms.filter (fun r => decide (r ∈ ys)) ↔ ys.Pairwise sLt := by
  constructor
  · intro h
    rw [h]
    exact hr.filter _
  · intro h
    refine pw_ext (fun h => sLt_asymm h) h (hr.filter _) fun x => ?_
    rw [List.mem_filter]
    exact ⟨fun hx => ⟨hy x hx, by simpa using hx⟩, fun hx => by simpa using hx.2⟩
/-- what a lot is -/
def lotL (rooms : List Str) (xs : List D) : Bool := xs.all (isIn rooms) && (match asStrs xs with | some ys => risS ys | none => false)
def isLot (rooms : List Str) : D → Bool
  | .lst xs => lotL rooms xs
  | .tup xs => lotL rooms xs
  | _ => false
theorem isLot_sq (rooms : List Str) (b : Bool) (xs : List D) : isLot rooms (sq b xs) = lotL rooms xs := by cases b <;> rfl
theorem isLot_no (rooms : List Str) {d : D} (h : isSeq d = false) : isLot rooms d = false := by cases d <;> first | rfl | cases h
theorem lotL_strs {rooms ys : List Str} (h : ∀ y ∈ ys, y ∈ rooms) : lotL rooms (ys.map D.str) = risS ys := by
  unfold lotL
  have : (ys.map D.str).all (isIn rooms) = true := by rw [strs_isIn]; simpa using h
  rw [this, asStrs_map]; simp
theorem lotL_no {rooms : List Str} {xs : List D} (h : ¬ ∀ x ∈ xs, isIn rooms x = true) : lotL rooms xs = false := by
  unfold lotL
  have : xs.all (isIn rooms) = false := by
    rw [Bool.eq_false_iff]; exact fun z => h (List.all_eq_true.mp z)
  rw [this]; simp
theorem is_lot_of_ok {w : Wb} {d : D} (h : gd d = true) (hl : ∀ b xs, d = sq b xs → xs.length < 100000) : m_is_lot_of [.val w.o, .val d] = some (.val (.bl (isLot w.rooms d)), [.none, .none]) := by
  refine Op.eq ?_
  have his := is_list_ok (gd_noDit h)
  rcases seq_or d with ⟨b, xs, hd⟩ | hs
  · have hlen := hl b xs hd
    have hx : ∀ x ∈ xs, gd x = true := fun x hx => gdL_mem (by rw [← gd_sq b, ← hd]; exact h) hx
    have hit : itD d = some xs := by rw [hd]; exact itD_sq b xs
    have hse : isSeq d = true := by rw [hd]; exact isSeq_sq b xs
    have hri : isLot w.rooms d = lotL w.rooms xs := by rw [hd]; exact isLot_sq _ b xs
    rw [hri]
    by_cases ha : ∀ x ∈ xs, isIn w.rooms x = true
    · obtain ⟨ys, rfl, hy⟩ := all_isIn (List.all_eq_true.mpr ha)
      have hris : m_is_rising [.val d] = some (.val (.bl (risS ys)), [.none]) := by rw [hd]; exact is_rising_ok (by simpa using hlen)
      rw [lotL_strs hy]
      unfold m_is_lot_of
      clear hd h hl hri
      simp [his, hit, hse]
      rw [lc_map D.str (fun x => .bl (isIn w.rooms (.str x))) _ _ (fun x hx' => by simp [is_room_ok (w := w) (d := .str x) rfl])]
      have hall : (ys.all fun y => isIn w.rooms (.str y)) = true := by simpa [isIn] using hy
      simp at hlen
      simp only [op_some, List.length_map]
      simp [sl_le (show ys.length < 10000000 by omega), hris]
      have hall' : ∀ x ∈ ys, isIn w.rooms (.str x) = true := List.all_eq_true.mp hall
      exact fun x hx' e => by rw [hall' x hx'] at e; cases e
    · rw [lotL_no ha]
      unfold m_is_lot_of
      clear hd h hl hri
      simp [his, hit, hse]
      rw [lc_mapD (fun x => .bl (isIn w.rooms x)) _ _ (fun x hx' => by simp [is_room_ok (hx x hx')])]
      simp [sl_le (show xs.length < 10000000 by omega)]
      exact fun z => absurd z ha
  · rw [isLot_no _ hs]
    unfold m_is_lot_of
    simp [his, hs]
theorem law_is_lot_ok {w : Wb} (hw : w.Ok) {d : D} (h : gd d = true) (hl : ∀ b xs, d = sq b xs → xs.length < 100000) : m__law_is_lot [.val w.d, .val d] = some (.val (.bl (isLot w.rooms d)), [.none, .none]) := by
  refine Op.eq ?_
  have har := are_rooms_ok (w := w) h hl
  have hrl := hw.rl
  rcases seq_or d with ⟨b, xs, hd⟩ | hs
  · have hlen := hl b xs hd
    have hri : isLot w.rooms d = lotL w.rooms xs := by rw [hd]; exact isLot_sq _ b xs
    have hro : roomsIn w.rooms d = xs.all (isIn w.rooms) := by rw [hd]; exact roomsIn_sq _ b xs
    rw [hri]
    by_cases ha : ∀ x ∈ xs, isIn w.rooms x = true
    · obtain ⟨ys, rfl, hy⟩ := all_isIn (List.all_eq_true.mpr ha)
      rw [lotL_strs hy]
      have hlt : listTD d = some (.lst (ys.map D.str)) := by rw [hd]; cases b <;> rfl
      have hin : ∀ x : Str, inB (.str x) d = some (decide (x ∈ ys)) := fun x => by rw [hd]; cases b; exact inB_tS x ys; exact inB_lS x ys
      have hro' : roomsIn w.rooms d = true := by rw [hro]; exact List.all_eq_true.mpr ha
      rw [hro'] at har
      have heq := eqB_lS (xs := ys) (ys := w.rooms.filter fun r => decide (r ∈ ys)) (fun x hx => (hw.nm x (hy x hx)).okS) (fun x hx => (hw.nm x (List.mem_filter.mp hx).1).okS)
      have hiff := lot_iff hw.rs hy
      unfold m__law_is_lot
      clear hd h hl hri hro
      unfold Wb.d at *
      simp [har, hlt]
      rw [lc_plain D.str (fun x => decide (x ∈ ys)) D.str _ _ (fun x hx => by
        simp [hin])]
      have hf := List.length_filter_le (fun r => decide (r ∈ ys)) w.rooms
      generalize w.rooms.filter (fun r => decide (r ∈ ys)) = fs at *
      simp [sl_le (show fs.length < 10000000 by omega), eqD, heq]
      rw [Bool.eq_iff_iff, decide_eq_true_eq, hiff, risS_iff]
    · rw [lotL_no ha]
      have hro' : roomsIn w.rooms d = false := by rw [hro, Bool.eq_false_iff]; exact fun z => ha (List.all_eq_true.mp z)
      rw [hro'] at har
      unfold m__law_is_lot
      unfold Wb.d at *
      simp [har]
  · rw [isLot_no _ hs]
    rw [roomsIn_no _ hs] at har
    unfold m__law_is_lot
    unfold Wb.d at *
    simp [har]
end HU
set_option maxRecDepth 100000
set_option maxHeartbeats 800000
namespace HU
open PySem PySem.Spec L2
def m__law_within : Fn := runB 1
    (sSeq (sRet (mVal (mOp1 lenD (mFz (mLc (mOpt itD (mFz (mCallN 2 m__law_around (aCons (aVal (mNm 0)) (aCons (aVal (mNm 2)) aNil))))) (bNm 3 3) [3] (mTr (mOp2 inD (pN 3) (vN 3) (pN 1) (vN 1))) (mNm 3))) vE)))
    sNext)
def m__law_fault : Fn := runB 4
    (sSeq (sIf (mOr (mBnd (mTr (mOp1 (isiD' [.b "list", .b "tuple"]) (pN 2) (vN 2))) fun b => mRet (!b)) (mOr (mTr (mOp2 neD (mOp1 lenD (pN 2) (vN 2)) vE (mRet (.int 2)) vE)) (mOr (mBnd (mTr (mOp1 (isiD' [.b "str"]) (mOp2 itemD (pN 2) (vN 2) (mRet (.int 0)) vE) vE)) fun b => mRet (!b)) (mTr (mOp2 ninD (mOp2 itemD (pN 2) (vN 2) (mRet (.int 0)) vE) vE (mTup (mCons (mRet (.str "order")) (mCons (mRet (.str "core")) mNil))) vE)) true) true) true) (sSeq (sRet (mVal (mTup (mCons (mRet (.str "form")) mNil))))
    sNext) sNext)
    (sSeq (sAsg 3 3 (mVal (mOp2 itemD (pN 2) (vN 2) (mRet (.int 1)) vE)))
    (sSeq (sIf (mTr (mOp2 eqD (mOp2 itemD (pN 2) (vN 2) (mRet (.int 0)) vE) vE (mRet (.str "order")) vE)) (sSeq (sIf (mOr (mBnd (mTr (mFz (mCallN 2 m__law_are_rooms (aCons (aVal (mNm 0)) (aCons (aVal (mNm 3)) aNil))))) fun b => mRet (!b)) (mTr (mOp2 neD (mFz (mOp1 sortedD (pN 3) (vN 3))) vE (mOp2 itemD (pN 0) (vN 0) (mRet (.int 0)) vE) vE)) true) (sSeq (sRet (mVal (mTup (mCons (mRet (.str "order")) mNil))))
    sNext) sNext)
    (sSeq (sFor (mOpt enD (mNm 3)) (bTup 2 (bsCons (bNm 3 5) (bsCons (bNm 3 6) bsNil))) (sSeq (sIf (mTr (mOp2 gtD (mFz (mCallN 3 m__law_within (aCons (aVal (mNm 0)) (aCons (aVal (mFz (mSl (pN 3) (vN 3) (mRet none) (mOpt intO (mNm 5))))) (aCons (aVal (mNm 6)) aNil))))) vE (pN 1) (vN 1))) (sSeq (sRet (mVal (mTup (mCons (mRet (.str "ahead")) (mCons (mNm 6) mNil)))))
    sNext) sNext)
    sNext))
    (sSeq (sRet (mVal (mRet .non)))
    sNext))) sNext)
    (sSeq (sIf (mOr (mBnd (mTr (mFz (mCallN 2 m__law_is_lot (aCons (aVal (mNm 0)) (aCons (aVal (mNm 3)) aNil))))) fun b => mRet (!b)) (mTr (mOp2 eqD (mOp1 lenD (pN 3) (vN 3)) vE (mRet (.int 0)) vE)) true) (sSeq (sRet (mVal (mTup (mCons (mRet (.str "lot")) mNil))))
    sNext) sNext)
    (sSeq (sAsg 3 4 (mLc (mOpt itD (mNm 3)) (bNm 3 6) [6] (mTr (mOp2 leD (mFz (mCallN 3 m__law_within (aCons (aVal (mNm 0)) (aCons (aVal (mNm 3)) (aCons (aVal (mNm 6)) aNil))))) vE (pN 1) (vN 1))) (mNm 6)))
    (sSeq (sRet (mVal (mIf (mTr (mOp2 neD (pN 4) (vN 4) (mFz (mLst mNil)) vE)) (mTup (mCons (mRet (.str "few")) (mCons (mOp2 itemD (pN 4) (vN 4) (mRet (.int 0)) vE) mNil))) (mRet .non))))
    sNext))))))
def m_check_number : Fn := runB 0
    (sSeq (sDrop (mFz (mCallN 1 m_check_web (aCons (aVal (mNm 0)) aNil))))
    (sSeq (sIf (mBnd (mTr (mFz (mCallN 1 m_is_number (aCons (aVal (mNm 1)) aNil)))) fun b => mRet (!b)) (sSeq sFail
    sNext) sNext)
    sNext))
def m_within : Fn := runB 1
    (sSeq (sRet (mVal (mOp1 lenD (mFz (mLc (mOpt itD (mOp2 itemD (mOp1 (fldD "Web" "own_around") (pN 0) (vN 0)) vE (pN 2) (vN 2))) (bNm 3 3) [3] (mTr (mOp2 inD (pN 3) (vN 3) (pN 1) (vN 1))) (mNm 3))) vE)))
    sNext)
def m_core_fault : Fn := runB 3
    (sSeq (sDrop (mFz (mCallN 2 m_check_number (aCons (aVal (mNm 0)) (aCons (aVal (mNm 1)) aNil)))))
    (sSeq (sIf (mOr (mBnd (mTr (mFz (mCallN 2 m_is_row (aCons (aVal (mNm 2)) (aCons (aVal (mRet (.int 2))) aNil))))) fun b => mRet (!b)) (mOr (mBnd (mTr (mOp1 (isiD' [.b "str"]) (mOp2 itemD (pN 2) (vN 2) (mRet (.int 0)) vE) vE)) fun b => mRet (!b)) (mTr (mOp2 ninD (mOp2 itemD (pN 2) (vN 2) (mRet (.int 0)) vE) vE (mTup (mCons (mRet (.str "order")) (mCons (mRet (.str "core")) mNil))) vE)) true) true) (sSeq (sRet (mVal (mTup (mCons (mRet (.str "form")) mNil))))
    sNext) sNext)
    (sSeq (sIf (mTr (mOp2 eqD (mOp2 itemD (pN 2) (vN 2) (mRet (.int 0)) vE) vE (mRet (.str "order")) vE)) (sSeq (sIf (mBnd (mTr (mFz (mCallN 2 m_is_order_of (aCons (aVal (mNm 0)) (aCons (aVal (mOp2 itemD (pN 2) (vN 2) (mRet (.int 1)) vE)) aNil))))) fun b => mRet (!b)) (sSeq (sRet (mVal (mTup (mCons (mRet (.str "order")) mNil))))
    sNext) sNext)
    (sSeq (sFor (mOpt enD (mOp2 itemD (pN 2) (vN 2) (mRet (.int 1)) vE)) (bTup 2 (bsCons (bNm 3 4) (bsCons (bNm 3 5) bsNil))) (sSeq (sIf (mTr (mOp2 gtD (mFz (mCallN 3 m_within (aCons (aVal (mNm 0)) (aCons (aVal (mFz (mSl (mOp2 itemD (pN 2) (vN 2) (mRet (.int 1)) vE) vE (mRet none) (mOpt intO (mNm 4))))) (aCons (aVal (mNm 5)) aNil))))) vE (pN 1) (vN 1))) (sSeq (sRet (mVal (mTup (mCons (mRet (.str "ahead")) (mCons (mNm 5) mNil)))))
    sNext) sNext)
    sNext))
    (sSeq (sRet (mVal (mRet .non)))
    sNext))) sNext)
    (sSeq (sIf (mOr (mBnd (mTr (mFz (mCallN 2 m_is_lot_of (aCons (aVal (mNm 0)) (aCons (aVal (mOp2 itemD (pN 2) (vN 2) (mRet (.int 1)) vE)) aNil))))) fun b => mRet (!b)) (mTr (mOp2 eqD (mOp1 lenD (mOp2 itemD (pN 2) (vN 2) (mRet (.int 1)) vE) vE) vE (mRet (.int 0)) vE)) true) (sSeq (sRet (mVal (mTup (mCons (mRet (.str "lot")) mNil))))
    sNext) sNext)
    (sSeq (sAsg 3 3 (mLc (mOpt itD (mOp2 itemD (pN 2) (vN 2) (mRet (.int 1)) vE)) (bNm 3 5) [5] (mTr (mOp2 leD (mFz (mCallN 3 m_within (aCons (aVal (mNm 0)) (aCons (aVal (mOp2 itemD (pN 2) (vN 2) (mRet (.int 1)) vE)) (aCons (aVal (mNm 5)) aNil))))) vE (pN 1) (vN 1))) (mNm 5)))
    (sSeq (sRet (mVal (mIf (mTr (mOp2 neD (pN 3) (vN 3) (mFz (mLst mNil)) vE)) (mTup (mCons (mRet (.str "few")) (mCons (mOp2 itemD (pN 3) (vN 3) (mRet (.int 0)) vE) mNil))) (mRet .non))))
    sNext))))))
theorem is_number_ok {n : Int} (h : 0 ≤ n) : m_is_number [.val (.int n)] = some (.val (.bl true), [.none]) := by
  refine Op.eq ?_
  have e : m_is_whole [.val (.int n)] = some (.val (.bl true), [.none]) := by
    refine Op.eq ?_
    unfold m_is_whole
    simp
  unfold m_is_number
  simp [e, h]
theorem check_number_ok {w : Wb} {n : Int} (h : 0 ≤ n) : m_check_number [.val w.o, .val (.int n)] = some (.val .non, [.none, .none]) := by
  refine Op.eq ?_
  unfold m_check_number
  simp [check_web_ok w, is_number_ok h]
def wi (w : Wb) (ys : List Str) (r : Str) : Int := ((arW w.wires r).filter fun o => decide (o ∈ ys)).length
theorem inB_sqS (x : Str) (b : Bool) (ys : List Str) : inB (.str x) (sq b (ys.map D.str)) = some (decide (x ∈ ys)) := by
  cases b
  · exact inB_tS x ys
  · exact inB_lS x ys
theorem arW_len {w : Wb} (hw : w.Ok) (r : Str) : (arW w.wires r).length ≤ 10000 := by
  unfold arW
  rw [(srtS_perm _).length_eq]
  exact Nat.le_trans (nbW_len _ _) hw.wl
theorem within_ok {w : Wb} (hw : w.Ok) {d : D} {b : Bool} {ys : List Str} (hd : d = sq b (ys.map D.str)) {r : Str} (hr : r ∈ w.rooms) : m_within [.val w.o, .val d, .val (.str r)] = some (.val (.int (wi w ys r)), [.none, .none, .none]) := by
  refine Op.eq ?_
  have hin : ∀ x : Str, inB (.str x) d = some (decide (x ∈ ys)) := fun x => by rw [hd]; exact inB_sqS x b ys
  have hl := arW_len hw r
  unfold m_within wi
  clear hd
  simp [item_around hr]
  rw [lc_plain D.str (fun x => decide (x ∈ ys)) D.str _ _ (fun x hx => by simp [hin])]
  have hf := List.length_filter_le (fun o => decide (o ∈ ys)) (arW w.wires r)
  generalize (arW w.wires r).filter (fun o => decide (o ∈ ys)) = fs at *
  simp [sl_le (show fs.length < 10000000 by omega)]
theorem law_within_ok {w : Wb} (hw : w.Ok) {d : D} {b : Bool} {ys : List Str} (hd : d = sq b (ys.map D.str)) (r : Str) : m__law_within [.val w.d, .val d, .val (.str r)] = some (.val (.int (wi w ys r)), [.none, .none, .none]) := by
  refine Op.eq ?_
  have hin : ∀ x : Str, inB (.str x) d = some (decide (x ∈ ys)) := fun x => by rw [hd]; exact inB_sqS x b ys
  have hl := arW_len hw r
  unfold m__law_within wi
  clear hd
  simp [around_ok hw.wl r]
  rw [lc_plain D.str (fun x => decide (x ∈ ys)) D.str _ _ (fun x hx => by simp [hin])]
  have hf := List.length_filter_le (fun o => decide (o ∈ ys)) (arW w.wires r)
  generalize (arW w.wires r).filter (fun o => decide (o ∈ ys)) = fs at *
  simp [sl_le (show fs.length < 10000000 by omega)]
theorem is_order_ok {w : Wb} (hw : w.Ok) {d : D} {b : Bool} {ys : List Str} (hd : d = sq b (ys.map D.str)) (hl : ys.length < 100000) (hy : ∀ y ∈ ys, y ∈ w.rooms) : m_is_order_of [.val w.o, .val d] = some (.val (.bl (decide (srtS ys = w.rooms))), [.none, .none]) := by
  refine Op.eq ?_
  have hit : itD d = some (ys.map D.str) := by rw [hd]; exact itD_sq b _
  have his : m_is_list [.val d] = some (.val (.bl true), [.none]) := by rw [hd, is_list_ok (noDit_sq b _), isSeq_sq]
  have hso : sortedD d = some (.lst ((srtS ys).map D.str)) := by rw [hd]; exact sorted_sq b ys
  have heq := eqB_lS (xs := srtS ys) (ys := w.rooms) (fun x hx => (hw.nm x (hy x ((srtS_perm ys).mem_iff.mp hx))).okS) (fun x hx => (hw.nm x hx).okS)
  unfold m_is_order_of
  clear hd
  simp [his, hit]
  rw [lc_map D.str (fun x => .bl (isIn w.rooms (.str x))) _ _ (fun x hx' => by simp [is_room_ok (w := w) (d := .str x) rfl])]
  have hall' : ∀ x ∈ ys, isIn w.rooms (.str x) = true := fun x hx => by simp [isIn, hy x hx]
  have hall : (∃ x, x ∈ ys ∧ isIn w.rooms (.str x) = false) = False := by
    simp only [eq_iff_iff, iff_false]
    rintro ⟨x, hx, e⟩
    rw [hall' x hx] at e; cases e
  simp [sl_le (show ys.length < 10000000 by omega), hall]
  generalize srtS ys = zs at *
  simp [hso, eqD, heq]
theorem is_order_no {w : Wb} {d : D} (h : gd d = true) (hl : ∀ b xs, d = sq b xs → xs.length < 100000) (hr : roomsIn w.rooms d = false) : m_is_order_of [.val w.o, .val d] = some (.val (.bl false), [.none, .none]) := by
  refine Op.eq ?_
  have his := is_list_ok (gd_noDit h)
  rcases seq_or d with ⟨b, xs, hd⟩ | hs
  · have hlen := hl b xs hd
    have hx : ∀ x ∈ xs, gd x = true := fun x hx => gdL_mem (by rw [← gd_sq b, ← hd]; exact h) hx
    have hit : itD d = some xs := by rw [hd]; exact itD_sq b xs
    have hse : isSeq d = true := by rw [hd]; exact isSeq_sq b xs
    have hall : ∃ x, x ∈ xs ∧ isIn w.rooms x = false := by
      rw [hd, roomsIn_sq] at hr
      simpa using hr
    unfold m_is_order_of
    clear hd h hl hr
    simp [his, hit, hse]
    rw [lc_mapD (fun x => .bl (isIn w.rooms x)) _ _ (fun x hx' => by simp [is_room_ok (hx x hx')])]
    simp [sl_le (show xs.length < 10000000 by omega), hall]
  · unfold m_is_order_of
    simp [his, hs]
/-- the first room with too many ahead -/
def ahead (w : Wb) (n : Int) : List Str → List Str → Option Str
  | _, [] => none
  | done, r :: rest => if n < wi w done r then some r else ahead w n (done ++ [r]) rest
def optAh : Option Str → D
  | some r => .tup [.str "ahead", .str r]
  | none => .non
def aheadD (w : Wb) (n : Int) (ys : List Str) : D := optAh (ahead w n [] ys)
def fewD (w : Wb) (n : Int) (ys : List Str) : D := match ys.filter fun r => decide (wi w ys r ≤ n) with
  | r :: _ => .tup [.str "few", .str r]
  | [] => .non
@[simp] theorem inB_t2 (x a b : Str) : inB (.str x) (.tup [.str a, .str b]) = some (decide (x = a ∨ x = b)) := by
  have := inB_tS x [a, b]
  simpa using this
end HU
set_option maxRecDepth 100000
set_option maxHeartbeats 1000000
namespace HU
open PySem PySem.Spec L2
theorem zipIdx_at {α : Type} {ys : List α} {done rest : List (α × Nat)} {r : α} {i : Nat} (he : ys.zipIdx = done ++ (r, i) :: rest) :
    i = done.length ∧ i < ys.length ∧ done.map (·.1) = ys.take i ∧ ys[i]? = some r ∧ rest.map (·.1) = ys.drop (i + 1) := by
  have h1 : ys.zipIdx[done.length]? = some (r, i) := by rw [he]; simp
  have h2 : ys = done.map (·.1) ++ r :: rest.map (·.1) := by
    have h4 : ys.zipIdx.map (·.1) = ys := by simp
    rw [he] at h4
    simpa using h4.symm
  have h3 : i = done.length := by
    rw [List.getElem?_zipIdx] at h1
    cases h : ys[done.length]? with
    | none => rw [h] at h1; cases h1
    | some a => rw [h] at h1; simp at h1; exact h1.2.symm
  have hl : (done.map (·.1)).length = i := by simp [h3]
  subst h3
  refine ⟨rfl, ?_, ?_, ?_, ?_⟩
  · rw [h2]; simp
  · rw [h2, List.take_append_of_le_length (by simp), List.take_of_length_le (by simp)]
  · rw [h2]; simp
  · rw [h2]; simp [List.drop_append]
theorem ne_oc : ¬ (("order" : Str) = "core") := by decide +kernel
theorem ne_co : ¬ (("core" : Str) = "order") := by decide +kernel
/-- a pair: what is looked at of it -/
structure Pr2 (d h t : D) : Prop where
  i : isiD' [.b "list", .b "tuple"] d = some (.bl true)
  l : lenD d = some (.int 2)
  a : itemD d (.int 0) = some h
  b : itemD d (.int 1) = some t
  r : m_is_row [.val d, .val (.int 2)] = some (.val (.bl true), [.none, .none])
theorem pr2_of (b : Bool) (h t : D) : Pr2 (sq b [h, t]) h t := by
  cases b
  · exact ⟨rfl, rfl, by simp [sq], by simp [sq], by rw [show sq false [h, t] = .tup [h, t] from rfl, is_row_tup]; rfl⟩
  · exact ⟨rfl, rfl, by simp [sq], by simp [sq], by rw [show sq true [h, t] = .lst [h, t] from rfl, is_row_lst]; rfl⟩
section
variable {w : Wb} {n : Int} {d h t : D}
def lf (w : Wb) (n : Int) (d due : D) : Prop := m__law_fault [.val w.d, .val (.int n), .val d] = some (.val due, [.none, .none, .none])
def pf (w : Wb) (n : Int) (d due : D) : Prop := m_core_fault [.val w.o, .val (.int n), .val d] = some (.val due, [.none, .none, .none])
theorem lf_form1 (hg : gd d = true) (hs : isSeq d = false) : lf w n d (.tup [.str "form"]) := by
  refine Op.eq ?_
  unfold m__law_fault
  simp [isi_seq (gd_noDit hg), hs, sl_le (show 1 < 10000000 by decide)]
theorem pf_form1 (hn : 0 ≤ n) (hg : gd d = true) (hs : isSeq d = false) : pf w n d (.tup [.str "form"]) := by
  refine Op.eq ?_
  unfold m_core_fault
  simp [check_number_ok hn, is_row_no (gd_noDit hg) hs, sl_le (show 1 < 10000000 by decide)]
theorem lf_form2 {b : Bool} {xs : List D} (hl : xs.length ≠ 2) : lf w n (sq b xs) (.tup [.str "form"]) := by
  refine Op.eq ?_
  have hi : isiD' [.b "list", .b "tuple"] (sq b xs) = some (.bl true) := by cases b <;> rfl
  have hl' : ¬ (xs.length : Int) = 2 := by omega
  unfold m__law_fault
  simp [hi, hl', sl_le (show 1 < 10000000 by decide)]
theorem pf_form2 (hn : 0 ≤ n) {b : Bool} {xs : List D} (hl : xs.length ≠ 2) : pf w n (sq b xs) (.tup [.str "form"]) := by
  refine Op.eq ?_
  have hr := is_row_sq b xs 2
  have hl' : ¬ (xs.length : Int) = 2 := by omega
  unfold m_core_fault
  simp [check_number_ok hn, hr, hl', sl_le (show 1 < 10000000 by decide)]
theorem lf_form3 (p : Pr2 d h t) (hg : gd h = true) (hs : isStr h = false) : lf w n d (.tup [.str "form"]) := by
  refine Op.eq ?_
  unfold m__law_fault
  simp [p.i, p.l, p.a, isi_s (gd_noDit hg), hs, sl_le (show 1 < 10000000 by decide)]
theorem pf_form3 (hn : 0 ≤ n) (p : Pr2 d h t) (hg : gd h = true) (hs : isStr h = false) : pf w n d (.tup [.str "form"]) := by
  refine Op.eq ?_
  unfold m_core_fault
  simp [check_number_ok hn, p.r, p.a, isi_s (gd_noDit hg), hs, sl_le (show 1 < 10000000 by decide)]
theorem lf_form4 {s : Str} (p : Pr2 d (.str s) t) (h1 : s ≠ "order") (h2 : s ≠ "core") : lf w n d (.tup [.str "form"]) := by
  refine Op.eq ?_
  unfold m__law_fault
  simp [p.i, p.l, p.a, h1, h2, sl_le (show 1 < 10000000 by decide), sl_le (show 2 < 10000000 by decide)]
theorem pf_form4 (hn : 0 ≤ n) {s : Str} (p : Pr2 d (.str s) t) (h1 : s ≠ "order") (h2 : s ≠ "core") : pf w n d (.tup [.str "form"]) := by
  refine Op.eq ?_
  unfold m_core_fault
  simp [check_number_ok hn, p.r, p.a, h1, h2, sl_le (show 1 < 10000000 by decide), sl_le (show 2 < 10000000 by decide)]
variable (hw : w.Ok)
include hw
theorem lf_order1 (p : Pr2 d (.str "order") t) (hg : gd t = true) (hl : ∀ b xs, t = sq b xs → xs.length < 100000) (hr : roomsIn w.rooms t = false) : lf w n d (.tup [.str "order"]) := by
  refine Op.eq ?_
  have har := are_rooms_ok (w := w) hg hl
  unfold Wb.d at har
  unfold m__law_fault Wb.d
  clear hl
  simp [p.i, p.l, p.a, p.b, har, hr, sl_le (show 1 < 10000000 by decide), sl_le (show 2 < 10000000 by decide)]
theorem pf_order1 (hn : 0 ≤ n) (p : Pr2 d (.str "order") t) (hg : gd t = true) (hl : ∀ b xs, t = sq b xs → xs.length < 100000) (hr : roomsIn w.rooms t = false) : pf w n d (.tup [.str "order"]) := by
  refine Op.eq ?_
  have har := is_order_no (w := w) hg hl hr
  unfold m_core_fault
  clear hl
  simp [check_number_ok hn, p.r, p.a, p.b, har, sl_le (show 1 < 10000000 by decide), sl_le (show 2 < 10000000 by decide)]
theorem lf_order2 {b : Bool} {ys : List Str} (p : Pr2 d (.str "order") t) (ht : t = sq b (ys.map D.str)) (hl : ys.length < 100000) (hy : ∀ y ∈ ys, y ∈ w.rooms) (ho : srtS ys ≠ w.rooms) : lf w n d (.tup [.str "order"]) := by
  refine Op.eq ?_
  have har : m__law_are_rooms [.val w.d, .val t] = some (.val (.bl true), [.none, .none]) := by
    rw [are_rooms_ok (w := w) (by rw [ht, gd_sq]; exact gdL_strs ys) (fun b' xs e => by rw [ht] at e; cases b <;> cases b' <;> simp [sq] at e <;> (subst e; simpa using hl)), ht, roomsIn_sq, strs_isIn]
    have : (ys.all fun y => decide (y ∈ w.rooms)) = true := by simpa using hy
    rw [this]
  have hso : sortedD t = some (.lst ((srtS ys).map D.str)) := by rw [ht]; exact sorted_sq b ys
  have heq := eqB_lS (xs := srtS ys) (ys := w.rooms) (fun x hx => (hw.nm x (hy x ((srtS_perm ys).mem_iff.mp hx))).okS) (fun x hx => (hw.nm x hx).okS)
  unfold m__law_fault
  clear ht
  unfold Wb.d at *
  simp [p.i, p.l, p.a, p.b, har, hso, sl_le (show 1 < 10000000 by decide), sl_le (show 2 < 10000000 by decide)]
  generalize srtS ys = zs at *
  simp [neD, heq, ho, sl_le (show 1 < 10000000 by decide)]
theorem pf_order2 (hn : 0 ≤ n) {b : Bool} {ys : List Str} (p : Pr2 d (.str "order") t) (ht : t = sq b (ys.map D.str)) (hl : ys.length < 100000) (hy : ∀ y ∈ ys, y ∈ w.rooms) (ho : srtS ys ≠ w.rooms) : pf w n d (.tup [.str "order"]) := by
  refine Op.eq ?_
  have har := is_order_ok hw ht hl hy
  unfold m_core_fault
  clear ht
  simp [check_number_ok hn, p.r, p.a, p.b, har, ho, sl_le (show 1 < 10000000 by decide), sl_le (show 2 < 10000000 by decide)]
theorem lf_order3 {b : Bool} {ys : List Str} (p : Pr2 d (.str "order") t) (ht : t = sq b (ys.map D.str)) (hl : ys.length < 100000) (hy : ∀ y ∈ ys, y ∈ w.rooms) (ho : srtS ys = w.rooms) : lf w n d (aheadD w n ys) := by
  refine Op.eq ?_
  have har : m__law_are_rooms [.val w.d, .val t] = some (.val (.bl true), [.none, .none]) := by
    rw [are_rooms_ok (w := w) (by rw [ht, gd_sq]; exact gdL_strs ys) (fun b' xs e => by rw [ht] at e; cases b <;> cases b' <;> simp [sq] at e <;> (subst e; simpa using hl)), ht, roomsIn_sq, strs_isIn]
    have : (ys.all fun y => decide (y ∈ w.rooms)) = true := by simpa using hy
    rw [this]
  have hso : sortedD t = some (.lst ((srtS ys).map D.str)) := by rw [ht]; exact sorted_sq b ys
  have heq := eqB_lS (xs := srtS ys) (ys := w.rooms) (fun x hx => (hw.nm x (hy x ((srtS_perm ys).mem_iff.mp hx))).okS) (fun x hx => (hw.nm x hx).okS)
  have hne : neD (.lst ((srtS ys).map D.str)) (.lst (w.rooms.map D.str)) = some (.bl (!decide (srtS ys = w.rooms))) := by unfold neD; rw [heq]; rfl
  have hen : enD t = some (ys.zipIdx.map fun q => D.tup [.int q.2, .str q.1]) := by rw [ht]; exact enD_sq D.str b ys
  have hsl : ∀ i : Nat, i ≤ ys.length → ∃ s, sliceD t none (some (i : Int)) = some s ∧ s.data = some (sq b ((ys.take i).map D.str)) := fun i hi => by
    rw [ht]
    obtain ⟨s, h1, h2⟩ := slice_sq' b (ys.map D.str) none (some (i : Int))
    rw [cutL_map, cutL_to _ (by omega)] at h2
    exact ⟨s, h1, h2⟩
  have hwi : ∀ i : Nat, ∀ r, m__law_within [.val w.d, .val (sq b ((ys.map D.str).take i)), .val (.str r)] = some (.val (.int (wi w (ys.take i) r)), [.none, .none, .none]) := fun i r => law_within_ok hw (by rw [List.map_take]) r
  unfold m__law_fault
  clear ht
  unfold Wb.d at *
  rw [ho] at hso hne
  simp [p.i, p.l, p.a, p.b, har, hso, hne, sl_le (show 1 < 10000000 by decide), sl_le (show 2 < 10000000 by decide), -sFor_e]
  simp [hen]
  refine op_forL (fun q : Str × Nat => D.tup [.int q.2, .str q.1]) (fun done rest e => ∃ X5 X6, e = [.val (.tup [.lst (w.rooms.map D.str), .lst (w.wires.map wD)]), .val (.int n), .val d, .val t, .none, X5, X6] ∧ aheadD w n ys = optAh (ahead w n (done.map (·.1)) (rest.map (·.1)))) _ _ ?_ ?_ ?_
  · refine ⟨.none, .none, rfl, ?_⟩
    have : ys.zipIdx.map (·.1) = ys := by simp
    rw [this]; rfl
  · rintro done ⟨r, i⟩ rest e he ⟨X5, X6, rfl, ha⟩
    have hi := zipIdx_at he
    obtain ⟨s, hs1, hs2⟩ := hsl i (by omega)
    simp [hs1, hs2, hwi]
    have ha2 : aheadD w n ys = if n < wi w (ys.take i) r then .tup [.str "ahead", .str r] else optAh (ahead w n ((done ++ [(r, i)]).map (·.1)) (rest.map (·.1))) := by
      rw [ha, List.map_append, hi.2.2.1]
      simp only [List.map_cons, ahead, List.map_nil]
      split <;> rfl
    by_cases hb : n < wi w (ys.take i) r
    · simp [hb, sl_le (show 2 < 10000000 by decide)]
      rw [if_pos hb] at ha2
      exact ha2.symm
    · simp [hb]
      rw [if_neg hb] at ha2
      exact At.i ⟨_, _, rfl, ha2⟩
  · rintro e ⟨X5, X6, rfl, ha⟩
    simp
    exact ha.symm
theorem pf_order3 (hn : 0 ≤ n) {b : Bool} {ys : List Str} (p : Pr2 d (.str "order") t) (ht : t = sq b (ys.map D.str)) (hl : ys.length < 100000) (hy : ∀ y ∈ ys, y ∈ w.rooms) (ho : srtS ys = w.rooms) : pf w n d (aheadD w n ys) := by
  refine Op.eq ?_
  have har := is_order_ok hw ht hl hy
  have hen : enD t = some (ys.zipIdx.map fun q => D.tup [.int q.2, .str q.1]) := by rw [ht]; exact enD_sq D.str b ys
  have hsl : ∀ i : Nat, i ≤ ys.length → ∃ s, sliceD t none (some (i : Int)) = some s ∧ s.data = some (sq b ((ys.take i).map D.str)) := fun i hi => by
    rw [ht]
    obtain ⟨s, h1, h2⟩ := slice_sq' b (ys.map D.str) none (some (i : Int))
    rw [cutL_map, cutL_to _ (by omega)] at h2
    exact ⟨s, h1, h2⟩
  have hwi : ∀ i : Nat, ∀ r ∈ ys, m_within [.val w.o, .val (sq b ((ys.map D.str).take i)), .val (.str r)] = some (.val (.int (wi w (ys.take i) r)), [.none, .none, .none]) := fun i r hr => within_ok hw (by rw [List.map_take]) (hy r hr)
  unfold m_core_fault
  clear ht
  rw [decide_eq_true ho] at har
  simp [check_number_ok hn, p.r, p.a, p.b, har, sl_le (show 1 < 10000000 by decide), sl_le (show 2 < 10000000 by decide), -sFor_e]
  simp [hen, p.b]
  refine op_forL (fun q : Str × Nat => D.tup [.int q.2, .str q.1]) (fun done rest e => ∃ X5 X6, e = [.val w.o, .val (.int n), .val d, .none, X5, X6] ∧ aheadD w n ys = optAh (ahead w n (done.map (·.1)) (rest.map (·.1)))) _ _ ?_ ?_ ?_
  · refine ⟨.none, .none, rfl, ?_⟩
    have : ys.zipIdx.map (·.1) = ys := by simp
    rw [this]; rfl
  · rintro done ⟨r, i⟩ rest e he ⟨X5, X6, rfl, ha⟩
    have hi := zipIdx_at he
    have hr : r ∈ ys := List.mem_of_getElem? hi.2.2.2.1
    obtain ⟨s, hs1, hs2⟩ := hsl i (by omega)
    simp [p.b, hs1, hs2, hwi i r hr]
    have ha2 : aheadD w n ys = if n < wi w (ys.take i) r then .tup [.str "ahead", .str r] else optAh (ahead w n ((done ++ [(r, i)]).map (·.1)) (rest.map (·.1))) := by
      rw [ha, List.map_append, hi.2.2.1]
      simp only [List.map_cons, ahead, List.map_nil]
      split <;> rfl
    by_cases hb : n < wi w (ys.take i) r
    · simp [hb, sl_le (show 2 < 10000000 by decide)]
      rw [if_pos hb] at ha2
      exact ha2.symm
    · simp [hb]
      rw [if_neg hb] at ha2
      exact At.i ⟨_, _, rfl, ha2⟩
  · rintro e ⟨X5, X6, rfl, ha⟩
    simp
    exact ha.symm
theorem lf_core1 (p : Pr2 d (.str "core") t) (hg : gd t = true) (hl : ∀ b xs, t = sq b xs → xs.length < 100000) (hr : isLot w.rooms t = false) : lf w n d (.tup [.str "lot"]) := by
  refine Op.eq ?_
  have har := law_is_lot_ok hw hg hl
  unfold Wb.d at har
  unfold m__law_fault Wb.d
  clear hl
  simp [p.i, p.l, p.a, p.b, har, hr, ne_co, sl_le (show 1 < 10000000 by decide), sl_le (show 2 < 10000000 by decide)]
theorem pf_core1 (hn : 0 ≤ n) (p : Pr2 d (.str "core") t) (hg : gd t = true) (hl : ∀ b xs, t = sq b xs → xs.length < 100000) (hr : isLot w.rooms t = false) : pf w n d (.tup [.str "lot"]) := by
  refine Op.eq ?_
  have har := is_lot_of_ok (w := w) hg hl
  unfold m_core_fault
  clear hl
  simp [check_number_ok hn, p.r, p.a, p.b, har, hr, ne_co, sl_le (show 1 < 10000000 by decide), sl_le (show 2 < 10000000 by decide)]
theorem lf_core2 {b : Bool} (p : Pr2 d (.str "core") (sq b [])) : lf w n d (.tup [.str "lot"]) := by
  refine Op.eq ?_
  have har := law_is_lot_ok hw (d := sq b []) (by cases b <;> rfl) (fun b' xs e => by cases b <;> cases b' <;> simp [sq] at e <;> (subst e; simp))
  unfold Wb.d at har
  unfold m__law_fault Wb.d
  have : isLot w.rooms (sq b []) = true := by cases b <;> rfl
  simp [p.i, p.l, p.a, p.b, har, this, ne_co, sl_le (show 1 < 10000000 by decide), sl_le (show 2 < 10000000 by decide)]
theorem pf_core2 (hn : 0 ≤ n) {b : Bool} (p : Pr2 d (.str "core") (sq b [])) : pf w n d (.tup [.str "lot"]) := by
  refine Op.eq ?_
  have har := is_lot_of_ok (w := w) (d := sq b []) (by cases b <;> rfl) (fun b' xs e => by cases b <;> cases b' <;> simp [sq] at e <;> (subst e; simp))
  have : isLot w.rooms (sq b []) = true := by cases b <;> rfl
  unfold m_core_fault
  simp [check_number_ok hn, p.r, p.a, p.b, har, this, ne_co, sl_le (show 1 < 10000000 by decide), sl_le (show 2 < 10000000 by decide)]
theorem neD_nil (fs : List Str) (h : ∀ x ∈ fs, okS x) : neD (.lst (fs.map D.str)) (.lst []) = some (.bl (!decide (fs = []))) := by
  have := eqB_lS (xs := fs) (ys := []) h (by simp)
  unfold neD
  rw [show (D.lst [] : D) = .lst (([] : List Str).map D.str) from rfl, this]; rfl
theorem lf_core3 {b : Bool} {ys : List Str} (p : Pr2 d (.str "core") t) (ht : t = sq b (ys.map D.str)) (hl : ys.length < 100000) (hy : ∀ y ∈ ys, y ∈ w.rooms) (hr : risS ys = true) (hne : ys ≠ []) : lf w n d (fewD w n ys) := by
  refine Op.eq ?_
  have har : m__law_is_lot [.val w.d, .val t] = some (.val (.bl true), [.none, .none]) := by
    rw [law_is_lot_ok hw (by rw [ht, gd_sq]; exact gdL_strs ys) (fun b' xs e => by rw [ht] at e; cases b <;> cases b' <;> simp [sq] at e <;> (subst e; simpa using hl)), ht, isLot_sq, lotL_strs hy, hr]
  have hle : lenD t = some (.int ys.length) := by rw [ht]; simp
  have hit : itD t = some (ys.map D.str) := by rw [ht]; exact itD_sq b _
  have hwi : ∀ r, m__law_within [.val w.d, .val t, .val (.str r)] = some (.val (.int (wi w ys r)), [.none, .none, .none]) := fun r => law_within_ok hw ht r
  have hnn := neD_nil hw (ys.filter fun r => decide (wi w ys r ≤ n)) fun x hx => (hw.nm x (hy x (List.mem_filter.mp hx).1)).okS
  have hp : 0 < ys.length := List.length_pos_iff.mpr hne
  unfold m__law_fault fewD
  clear ht
  unfold Wb.d at *
  simp [p.i, p.l, p.a, p.b, har, hle, hit, hne, ne_co, sl_le (show 1 < 10000000 by decide), sl_le (show 2 < 10000000 by decide)]
  rw [lc_plain D.str (fun r => decide (wi w ys r ≤ n)) D.str _ _ (fun r hr => by simp [hwi])]
  have hf := List.length_filter_le (fun r => decide (wi w ys r ≤ n)) ys
  generalize ys.filter (fun r => decide (wi w ys r ≤ n)) = fs at *
  simp [sl_le (show fs.length < 10000000 by omega), hnn, sl_le (show 0 < 10000000 by decide), sl_le (show 2 < 10000000 by decide)]
  cases fs <;> simp [sl_le (show 2 < 10000000 by decide)]
theorem pf_core3 (hn : 0 ≤ n) {b : Bool} {ys : List Str} (p : Pr2 d (.str "core") t) (ht : t = sq b (ys.map D.str)) (hl : ys.length < 100000) (hy : ∀ y ∈ ys, y ∈ w.rooms) (hr : risS ys = true) (hne : ys ≠ []) : pf w n d (fewD w n ys) := by
  refine Op.eq ?_
  have har : m_is_lot_of [.val w.o, .val t] = some (.val (.bl true), [.none, .none]) := by
    rw [is_lot_of_ok (w := w) (by rw [ht, gd_sq]; exact gdL_strs ys) (fun b' xs e => by rw [ht] at e; cases b <;> cases b' <;> simp [sq] at e <;> (subst e; simpa using hl)), ht, isLot_sq, lotL_strs hy, hr]
  have hle : lenD t = some (.int ys.length) := by rw [ht]; simp
  have hit : itD t = some (ys.map D.str) := by rw [ht]; exact itD_sq b _
  have hwi : ∀ r ∈ ys, m_within [.val w.o, .val t, .val (.str r)] = some (.val (.int (wi w ys r)), [.none, .none, .none]) := fun r hr => within_ok hw ht (hy r hr)
  have hnn := neD_nil hw (ys.filter fun r => decide (wi w ys r ≤ n)) fun x hx => (hw.nm x (hy x (List.mem_filter.mp hx).1)).okS
  have hp : 0 < ys.length := List.length_pos_iff.mpr hne
  unfold m_core_fault fewD
  clear ht
  simp [check_number_ok hn, p.r, p.a, p.b, har, hle, hit, hne, ne_co, sl_le (show 1 < 10000000 by decide), sl_le (show 2 < 10000000 by decide)]
  rw [lc_plain D.str (fun r => decide (wi w ys r ≤ n)) D.str _ _ (fun r hr => by simp [p.b, hwi r hr])]
  have hf := List.length_filter_le (fun r => decide (wi w ys r ≤ n)) ys
  generalize ys.filter (fun r => decide (wi w ys r ≤ n)) = fs at *
  simp [sl_le (show fs.length < 10000000 by omega), hnn, sl_le (show 0 < 10000000 by decide), sl_le (show 2 < 10000000 by decide)]
  cases fs <;> simp [sl_le (show 2 < 10000000 by decide)]
/-- what a fault is: None, or a tuple of texts -/
def Due (d : D) : Prop := d = .non ∨ ∃ xs : List Str, xs.length ≤ 3 ∧ d = .tup (xs.map D.str)
omit hw in
theorem due1 (a : Str) : Due (.tup [.str a]) := .inr ⟨[a], by simp, rfl⟩
omit hw in
theorem due_ahead (o : Option Str) : Due (optAh o) := by
  cases o with
  | none => exact .inl rfl
  | some r => exact .inr ⟨["ahead", r], by simp, rfl⟩
omit hw in
theorem due_few (w : Wb) (n : Int) (ys : List Str) : Due (fewD w n ys) := by
  unfold fewD
  split
  · rename_i r _ _; exact .inr ⟨["few", r], by simp, rfl⟩
  · exact .inl rfl
omit hw in
theorem short_len {d : D} (h : shortD d = true) : ∀ b xs, d = sq b xs → xs.length < 100000 := fun b xs e => by
  subst e
  rw [short_sq, Bool.and_eq_true, decide_eq_true_eq] at h
  exact h.1
/-- the law's look and the program's are one -/
theorem fault_ok (hn : 0 ≤ n) (hg : gd d = true) (hs : shortD d = true) : ∃ due, Due due ∧ lf w n d due ∧ pf w n d due := by
  rcases seq_or d with ⟨b, xs, hd⟩ | hq
  · by_cases hl : xs.length = 2
    · obtain ⟨h, t, rfl⟩ : ∃ h t, xs = [h, t] := by
        match xs, hl with
        | [h, t], _ => exact ⟨h, t, rfl⟩
      have hgs : gd h = true ∧ gd t = true := by
        rw [hd, gd_sq] at hg
        simpa [gdL] using hg
      have hst : shortD t = true := by
        rw [hd] at hs
        cases b <;> (simp [sq, shortD, shortL] at hs; exact hs.2)
      have p : Pr2 d h t := hd ▸ pr2_of b h t
      by_cases hh : isStr h = true
      · obtain ⟨s, rfl⟩ : ∃ s, h = .str s := by cases h <;> first | exact ⟨_, rfl⟩ | (simp [isStr] at hh)
        by_cases h1 : s = "order"
        · subst h1
          by_cases hr : roomsIn w.rooms t = true
          · obtain ⟨b', zs, ht⟩ : ∃ b xs, t = sq b xs := by
              rcases seq_or t with h | h
              · exact h
              · rw [roomsIn_no _ h] at hr; cases hr
            rw [ht, roomsIn_sq] at hr
            obtain ⟨ys, rfl, hy⟩ := all_isIn hr
            have hyl : ys.length < 100000 := by have := short_len hst b' _ ht; simpa using this
            by_cases ho : srtS ys = w.rooms
            · exact ⟨_, due_ahead _, lf_order3 hw p ht hyl hy ho, pf_order3 hw hn p ht hyl hy ho⟩
            · exact ⟨_, due1 _, lf_order2 hw p ht hyl hy ho, pf_order2 hw hn p ht hyl hy ho⟩
          · have hr : roomsIn w.rooms t = false := by simpa using hr
            exact ⟨_, due1 _, lf_order1 hw p hgs.2 (short_len hst) hr, pf_order1 hw hn p hgs.2 (short_len hst) hr⟩
        · by_cases h2 : s = "core"
          · subst h2
            by_cases hr : isLot w.rooms t = true
            · obtain ⟨b', zs, ht⟩ : ∃ b xs, t = sq b xs := by
                rcases seq_or t with h | h
                · exact h
                · rw [isLot_no _ h] at hr; cases hr
              rw [ht, isLot_sq] at hr
              have hall : zs.all (isIn w.rooms) = true := by unfold lotL at hr; rw [Bool.and_eq_true] at hr; exact hr.1
              obtain ⟨ys, rfl, hy⟩ := all_isIn hall
              rw [lotL_strs hy] at hr
              have hyl : ys.length < 100000 := by have := short_len hst b' _ ht; simpa using this
              by_cases hne : ys = []
              · subst hne
                subst ht
                exact ⟨_, due1 _, lf_core2 hw p, pf_core2 hw hn p⟩
              · exact ⟨_, due_few _ _ _, lf_core3 hw p ht hyl hy hr hne, pf_core3 hw hn p ht hyl hy hr hne⟩
            · have hr : isLot w.rooms t = false := by simpa using hr
              exact ⟨_, due1 _, lf_core1 hw p hgs.2 (short_len hst) hr, pf_core1 hw hn p hgs.2 (short_len hst) hr⟩
          · exact ⟨_, due1 _, lf_form4 p h1 h2, pf_form4 hn p h1 h2⟩
      · have hh : isStr h = false := by simpa using hh
        exact ⟨_, due1 _, lf_form3 p hgs.1 hh, pf_form3 hn p hgs.1 hh⟩
    · subst hd
      exact ⟨_, due1 _, lf_form2 hl, pf_form2 hn hl⟩
  · exact ⟨_, due1 _, lf_form1 hg hq, pf_form1 hn hg hq⟩
end
end HU
set_option maxRecDepth 100000
set_option maxHeartbeats 800000
namespace HU
open PySem PySem.Spec L2
/-! ### copies and sameness of any object -/
theorem dic_nil {kvs : List (Key × D)} (h : gd (.dic kvs) = true) : kvs = [] := by
  have : kvs.isEmpty = true := h
  simpa using this
theorem cp_gd : ∀ (c : Nat) (d : D), gd d = true → shortD d = true → depthD d < c → Cp c d
  | 0, d, _, _, h => absurd h (Nat.not_lt_zero _)
  | c + 1, d, hp, hs, hd => by
    have mem : ∀ (ds : List D), gdL ds = true → shortL ds = true → depthL ds < c → ∀ x ∈ ds, Cp c x := fun ds => by
      induction ds with
      | nil => intro _ _ _ x hx; cases hx
      | cons y ds ih =>
        intro h1 h2 h3 x hx
        simp only [gdL, Bool.and_eq_true] at h1
        simp only [shortL, Bool.and_eq_true] at h2
        simp only [depthL] at h3
        rcases List.mem_cons.mp hx with e | hx
        · subst e; exact cp_gd c x h1.1 h2.1 (by omega)
        · exact ih h1.2 h2.2 (by omega) x hx
    have leaf : isiD' [.b "list", .b "tuple"] d = some (.bl false) → isiD' [.b "dict"] d = some (.bl false) → Cp (c + 1) d := fun h1 h2 => ⟨_, _, copied_leaf h1 h2, rfl, rfl⟩
    cases d with
    | lst ds =>
      simp only [shortD, Bool.and_eq_true, decide_eq_true_eq] at hs
      simp only [depthD] at hd
      exact ⟨_, _, copied_seq (.inl rfl) hs.1 (mem ds hp hs.2 (by omega)), rfl, rfl⟩
    | tup ds =>
      simp only [shortD, Bool.and_eq_true, decide_eq_true_eq] at hs
      simp only [depthD] at hd
      exact ⟨_, _, copied_seq (.inr rfl) hs.1 (mem ds hp hs.2 (by omega)), rfl, rfl⟩
    | str x => exact leaf (isi_lt_str x) (isi_d_str x)
    | int x => exact leaf (isi_lt_int x) (isi_d_int x)
    | bl x => exact leaf (isi_lt_bl x) (isi_d_bl x)
    | non => exact leaf isi_lt_non isi_d_non
    | dic x => rw [dic_nil hp]; exact ⟨_, _, copied_dic0, rfl, rfl⟩
    | dit x => cases hp
    | ins c x => cases hp
theorem same_bl {c : Nat} (x : Bool) : Sm (c + 1) (.bl x) := by
  obtain ⟨s1, s2, e⟩ : ∃ s1 s2, m__law_same (c + 1) [.val (.bl x), .val (.bl x)] = some (.val (.bl true), [s1, s2]) := by
    refine ⟨.none, .none, Op.eq ?_⟩
    show Op (mSame (c + 1) _) _
    unfold mSame
    simp
  exact ⟨s1, s2, e⟩
theorem sm_gd : ∀ (c : Nat) (d : D), gd d = true → shortD d = true → depthD d + 1 < c → Sm c d
  | 0, d, _, _, h => absurd h (Nat.not_lt_zero _)
  | c + 1, d, hp, hs, hd => by
    have mem : ∀ (ds : List D), gdL ds = true → shortL ds = true → depthL ds + 1 < c → ∀ x ∈ ds, Sm c x := fun ds => by
      induction ds with
      | nil => intro _ _ _ x hx; cases hx
      | cons y ds ih =>
        intro h1 h2 h3 x hx
        simp only [gdL, Bool.and_eq_true] at h1
        simp only [shortL, Bool.and_eq_true] at h2
        simp only [depthL] at h3
        rcases List.mem_cons.mp hx with e | hx
        · subst e; exact sm_gd c x h1.1 h2.1 (by omega)
        · exact ih h1.2 h2.2 (by omega) x hx
    cases d with
    | lst ds =>
      simp only [shortD, Bool.and_eq_true, decide_eq_true_eq] at hs
      simp only [depthD] at hd
      exact same_seq (.inl rfl) hs.1 (mem ds hp hs.2 (by omega))
    | tup ds =>
      simp only [shortD, Bool.and_eq_true, decide_eq_true_eq] at hs
      simp only [depthD] at hd
      exact same_seq (.inr rfl) hs.1 (mem ds hp hs.2 (by omega))
    | str x => exact same_str x
    | int x => exact same_int x
    | bl x => exact same_bl x
    | non => exact same_non
    | dic x =>
      rw [dic_nil hp]
      obtain ⟨c', rfl⟩ : ∃ c', c = c' + 1 := ⟨c - 1, by omega⟩
      exact same_dic0
    | dit x => cases hp
    | ins c x => cases hp
/-- an object that the law hands in -/
structure Th (d : D) : Prop where
  g : gd d = true
  s : shortD d = true
  d : depthD d < 6
theorem op_copied {d : D} {Q : Sl × List Sl → Prop} (h : Th d) (q : ∀ r s, r.res = true → r.data = some d → Q (r, [s])) : Op (m__law_copied 8 [.val d]) Q := by
  obtain ⟨r, s, e, h1, h2⟩ := cp_gd 8 d h.g h.s (by have := h.d; omega)
  exact ⟨_, e, q r s h1 h2⟩
theorem op_same {d : D} {Q : Sl × List Sl → Prop} (h : Th d) (q : ∀ s1 s2, Q (.val (.bl true), [s1, s2])) : Op (m__law_same 8 [.val d, .val d]) Q := by
  obtain ⟨s1, s2, e⟩ := sm_gd 8 d h.g h.s (by have := h.d; omega)
  exact ⟨_, e, q s1 s2⟩
theorem Th.sq {b : Bool} {xs : List D} (hl : xs.length < 100000) (h : ∀ x ∈ xs, gd x = true ∧ shortD x = true ∧ depthD x < 5) : Th (sq b xs) := by
  have h1 : gdL xs = true := gdL_of fun x hx => (h x hx).1
  have h2 : shortL xs = true := by
    clear hl h1
    induction xs with
    | nil => rfl
    | cons x xs ih =>
      rw [shortL, (h x List.mem_cons_self).2.1, ih fun y hy => h y (List.mem_cons_of_mem _ hy)]; rfl
  have h3 : depthL xs < 5 := by
    clear hl h1 h2
    induction xs with
    | nil => simp [depthL]
    | cons x xs ih =>
      have := (h x List.mem_cons_self).2.2
      have := ih fun y hy => h y (List.mem_cons_of_mem _ hy)
      rw [depthL]; omega
  refine ⟨by rw [gd_sq]; exact h1, by rw [short_sq, h2]; simp [hl], by rw [depth_sq]; omega⟩
end HU
set_option maxRecDepth 100000
set_option maxHeartbeats 2000000
namespace HU
open PySem PySem.Spec L2
def m_law : Ms :=
    (sSeq (sFor (mOpt rng1D (mRet (.int 4))) (bNm 1 2) (sSeq (sAsg 1 3 (mVal (mFz (mCallN 3 m__law_web (aCons (aRf 1) (aCons (aVal (mIf (mTr (mOp2 eqD (pN 2) (vN 2) (mRet (.int 0)) vE)) (mRet (.int 12)) (mFz (mCallN 2 m__law_pick (aCons (aRf 1) (aCons (aVal (mFz (mLst (mCons (mRet (.int 3)) (mCons (mRet (.int 5)) (mCons (mRet (.int 8)) mNil)))))) aNil)))))) (aCons (aVal (mRet (.int 24))) aNil)))))))
    (sSeq (sPar 1 [4, 5] (fCons (mVal (mFz (mCallN 2 m__law_made (aCons (aRf 1) (aCons (aVal (mNm 3)) aNil))))) (fCons (mVal (mFz (mCallN 2 m__law_draw (aCons (aRf 1) (aCons (aVal (mRet (.int 4))) aNil))))) fNil)))
    (sSeq (sAsg 1 6 (mLc (mOpt rng1D (mRet (.int 4))) (bNm 1 13) [13] (mRet true) (mFz (mCallN 2 m__law_mixed (aCons (aRf 1) (aCons (aVal (mOp2 itemD (pN 3) (vN 3) (mRet (.int 0)) vE)) aNil))))))
    (sSeq (sAsg 1 7 (mLc (mOpt rng1D (mRet (.int 5))) (bNm 1 13) [13] (mRet true) (mFz (mOp1 sortedD (mFz (mSl (mFz (mCallN 2 m__law_mixed (aCons (aRf 1) (aCons (aVal (mOp2 itemD (pN 3) (vN 3) (mRet (.int 0)) vE)) aNil)))) vE (mRet none) (mOpt intO (mFz (mOp2 addD (mRet (.int 1)) vE (mFz (mCallN 2 m__law_draw (aCons (aRf 1) (aCons (aVal (mOp1 lenD (mOp2 itemD (pN 3) (vN 3) (mRet (.int 0)) vE) vE)) aNil)))) vE))))) vE))))
    (sSeq (sAsg 1 8 (mLc (mOpt itD (mFz (mOp2 addD (pN 6) (vN 6) (mFz (mLst (mCons (mFz (mSl (mOp2 itemD (pN 6) (vN 6) (mRet (.int 0)) vE) vE (mOpt intO (mRet (.int 1))) (mRet none))) (mCons (mFz (mOp2 addD (mOp2 itemD (pN 6) (vN 6) (mRet (.int 0)) vE) vE (mFz (mSl (mOp2 itemD (pN 6) (vN 6) (mRet (.int 0)) vE) vE (mRet none) (mOpt intO (mRet (.int 1))))) vE)) (mCons (mFz (mOp2 addD (mFz (mSl (mOp2 itemD (pN 6) (vN 6) (mRet (.int 0)) vE) vE (mRet none) (mOpt intO (mOpt negD (mRet (.int 1)))))) vE (mFz (mLst (mCons (mRet (.str "nosuchhs")) mNil))) vE)) (mCons (mFz (mOp1 tupleD (mOp2 itemD (pN 6) (vN 6) (mRet (.int 1)) vE) vE)) (mCons (mRet .non) (mCons (mRet (.str "a")) (mCons (mFz (mRet (.dic []))) mNil))))))))) vE))) (bNm 1 14) [14] (mRet true) (mTup (mCons (mRet (.str "order")) (mCons (mNm 14) mNil)))))
    (sSeq (sDrop (mLM 8 extG (mCons (mFz (mLc (mOpt itD (mFz (mOp2 addD (pN 7) (vN 7) (mFz (mLst (mCons (mOp2 itemD (pN 3) (vN 3) (mRet (.int 0)) vE) (mCons (mFz (mOp1 revD (mOp2 itemD (pN 7) (vN 7) (mRet (.int 0)) vE) vE)) (mCons (mFz (mLst mNil)) (mCons (mRet .non) (mCons (mRet (.str "ab")) (mCons (mFz (mLst (mCons (mRet .non) mNil))) (mCons (mFz (mOp1 tupleD (mOp2 itemD (pN 7) (vN 7) (mRet (.int 1)) vE) vE)) (mCons (mFz (mOp2 addD (mOp2 itemD (pN 7) (vN 7) (mRet (.int 0)) vE) vE (mFz (mSl (mOp2 itemD (pN 7) (vN 7) (mRet (.int 0)) vE) vE (mRet none) (mOpt intO (mRet (.int 1))))) vE)) mNil)))))))))) vE))) (bNm 1 14) [14] (mRet true) (mTup (mCons (mRet (.str "core")) (mCons (mNm 14) mNil))))) mNil)))
    (sSeq (sFor (mOpt itD (mFz (mOp2 addD (mFz (mCallN 2 m__law_mixed (aCons (aRf 1) (aCons (aVal (mNz 1 8)) aNil)))) vE (mFz (mLst (mCons (mRet .non) (mCons (mTup mNil) (mCons (mTup (mCons (mRet (.str "order")) mNil)) (mCons (mTup (mCons (mRet (.str "other")) (mCons (mOp2 itemD (pN 3) (vN 3) (mRet (.int 0)) vE) mNil))) (mCons (mFz (mLst (mCons (mRet (.str "core")) (mCons (mOp2 itemD (pN 3) (vN 3) (mRet (.int 0)) vE) mNil)))) (mCons (mRet (.str "core")) (mCons (mTup (mCons (mRet .non) (mCons (mOp2 itemD (pN 3) (vN 3) (mRet (.int 0)) vE) mNil))) (mCons (mTup (mCons (mRet (.str "order")) (mCons (mOp2 itemD (pN 6) (vN 6) (mRet (.int 0)) vE) (mCons (mRet (.int 1)) mNil)))) mNil)))))))))) vE))) (bNm 1 9) (sSeq (sPar 1 [10, 11] (fCons (mVal (mFz (mCallN 3 m__law_fault (aCons (aVal (mNm 3)) (aCons (aVal (mNm 5)) (aCons (aVal (mNm 9)) aNil)))))) (fCons (mVal (mFz (mCallN 1 (m__law_copied 8) (aCons (aVal (mNm 9)) aNil)))) fNil)))
    (sSeq (sAsg 1 12 (mVal (mFz (mLst (mCons (mFz (mCallN 3 m_core_fault (aCons (aVal (mNm 4)) (aCons (aVal (mNm 5)) (aCons (aVal (mNm 11)) aNil))))) (mCons (mFz (mCallK 3 m_core_fault [2, 1, 0] (aCons (aVal (mFz (mCallN 1 (m__law_copied 8) (aCons (aVal (mNm 9)) aNil)))) (aCons (aVal (mNm 5)) (aCons (aVal (mNm 4)) aNil))))) mNil))))))
    (sSeq (sIf (mOr (mBnd (mTr (mFz (mCallN 2 (m__law_same 8) (aCons (aVal (mNm 12)) (aCons (aVal (mFz (mLst (mCons (mNm 10) (mCons (mNm 10) mNil))))) aNil))))) fun b => mRet (!b)) (mBnd (mTr (mFz (mCallN 2 (m__law_same 8) (aCons (aVal (mNm 11)) (aCons (aVal (mNm 9)) aNil))))) fun b => mRet (!b)) true) (sSeq (sRet (mVal (mRet (.bl false))))
    sNext) sNext)
    sNext))))
    sNext))))))))
    (sSeq (sRet (mVal (mRet (.bl true))))
    sNext))
@[simp] theorem mCallK_e {n : Nat} {f : Fn} {pm : List Nat} {ms : Mr (List Ag)} {e : List Sl} : mCallK n f pm ms e = (ms e).bind fun g => if g.1.length = n then callOf n f (perm pm g.1) g.2 else none := rfl
@[simp] theorem addD_lst (xs ys : List D) : addD (.lst xs) (.lst ys) = if xs.length + ys.length ≤ sizeLine then some (.lst (xs ++ ys)) else none := rfl
@[simp] theorem revD_lst (xs : List D) : revD (.lst xs) = some (.lst xs.reverse) := rfl
theorem cutL_len {α : Type} (xs : List α) (lo hi : Option Int) : (cutL xs lo hi).length ≤ xs.length := by
  unfold cutL; simp; omega
theorem op_forLD {b : Bd} {body : Ms} {Q : Out → Prop} (I : List D → List D → List Sl → Prop) (xs : List D) (e : List Sl) (i0 : I [] xs e) (st : ∀ done x rest e, xs = done ++ x :: rest → I done (x :: rest) e → Op (b x e) fun e1 => Op (body e1) fun o => loopE (I (done ++ [x]) rest) Q o) (en : ∀ e, I xs [] e → Q (.next e)) : Op (forL b body xs e) Q := by
  have := op_forL (Q := Q) (fun d : D => d) I xs e i0 st en
  simpa using this
/-- good to be handed in within a tuple -/
structure Th4 (d : D) : Prop where
  g : gd d = true
  s : shortD d = true
  d : depthD d < 4
theorem op_lcP {b : Bd} {vs : List Nat} {tt : Mr Bool} {me : Mr D} {ds : List D} {e : List Sl} {Q : List D × List Sl → Prop} (g : D → D) (h : ∀ x ∈ ds, Op (b x e) fun e1 => Op (tt e1) fun r => r.1 = true ∧ Op (me r.2) fun y => y.1 = g x ∧ wipeE y.2 vs = e) (q : ∀ ys, ys = ds → Q (ys.map g, e)) : Op (lcL b vs tt me ds e) Q := by
  rw [lc_mapD g _ _ h]
  exact ⟨_, rfl, q ds rfl⟩
structure Th0 (d : D) : Prop where
  g : gd d = true
  s : shortD d = true
  d : depthD d = 0
theorem th0_str (x : Str) : Th0 (.str x) := ⟨rfl, rfl, rfl⟩
theorem th4_strs {xs : List Str} (h : xs.length < 100000) : Th4 (.lst (xs.map D.str)) := ⟨by simp only [gd]; exact gdL_strs xs, by simp only [shortD]; rw [short_strs]; simp [h], by simp only [depthD]; rw [depth_strs']; decide⟩
theorem th4_strsT {xs : List Str} (h : xs.length < 100000) : Th4 (.tup (xs.map D.str)) := ⟨by simp only [gd]; exact gdL_strs xs, by simp only [shortD]; rw [short_strs]; simp [h], by simp only [depthD]; rw [depth_strs']; decide⟩
theorem th4_lst {xs : List D} (hl : xs.length < 100000) (h : ∀ d ∈ xs, Th0 d) : Th4 (.lst xs) := by
  have h1 : gdL xs = true := gdL_of fun x hx => (h x hx).g
  have h2 : shortL xs = true ∧ depthL xs = 0 := by
    clear hl h1
    induction xs with
    | nil => exact ⟨rfl, rfl⟩
    | cons x xs ih =>
      have a := h x List.mem_cons_self
      have b := ih fun y hy => h y (List.mem_cons_of_mem _ hy)
      exact ⟨by rw [shortL, a.s, b.1]; rfl, by rw [depthL, a.d, b.2]; rfl⟩
  exact ⟨by simpa [gd] using h1, by simp [shortD, h2.1, hl], by simp [depthD, h2.2]⟩
theorem th_pair {s d : D} (hs : Th4 s) (h : Th4 d) : Th (.tup [s, d]) := ⟨by simp [gd, gdL, hs.g, h.g], by simp [shortD, shortL, hs.s, h.s], by have := hs.d; have := h.d; simp only [depthD, depthL]; omega⟩
theorem th_trip {s d t : D} (hs : Th4 s) (h : Th4 d) (ht : Th4 t) : Th (.tup [s, d, t]) := ⟨by simp [gd, gdL, hs.g, h.g, ht.g], by simp [shortD, shortL, hs.s, h.s, ht.s], by have := hs.d; have := h.d; have := ht.d; simp only [depthD, depthL]; omega⟩
theorem th_pairL {s d : D} (hs : Th4 s) (h : Th4 d) : Th (.lst [s, d]) := ⟨by simp [gd, gdL, hs.g, h.g], by simp [shortD, shortL, hs.s, h.s], by have := hs.d; have := h.d; simp only [depthD, depthL]; omega⟩
theorem th4_str (x : Str) : Th4 (.str x) := ⟨rfl, rfl, by simp [depthD]⟩
theorem th4_non : Th4 .non := ⟨rfl, rfl, by simp [depthD]⟩
theorem th4_dic : Th4 (.dic []) := ⟨rfl, rfl, by simp [depthD]⟩
theorem th_due {d : D} (h : Due d) : Th (.lst [d, d]) := by
  rcases h with rfl | ⟨xs, hx, rfl⟩
  · exact th_pairL th4_non th4_non
  · exact th_pairL (th4_strsT (by omega)) (th4_strsT (by omega))
theorem due_th4 {d : D} (h : Due d) : gd d = true := by
  rcases h with rfl | ⟨xs, hx, rfl⟩
  · rfl
  · exact (th4_strsT (by omega)).g
theorem law_pure (ns : List Int) (h : ns.length ≤ 63) : ∃ e, m_law ((List.replicate 15 Sl.none).set 1 (.stm (.s ns 0 0 19))) = some (.ret (.val (.bl true)) e) := by
  suffices H : Op (m_law [.none, .stm (.s ns 0 0 19), .none, .none, .none, .none, .none, .none, .none, .none, .none, .none, .none, .none, .none]) fun o => ∃ e, o = .ret (.val (.bl true)) e by
    obtain ⟨o, e1, e, rfl⟩ := H
    exact ⟨e, e1⟩
  have g0 : GSt (.s ns 0 0 19) 1000000 := ⟨by omega, by decide, by decide, by decide, by decide, by decide⟩
  unfold m_law
  simp
  refine op_rng1 (by decide) (by decide) ?_
  simp [-List.map_map]
  refine op_forL (fun i : Nat => D.int i) (fun done rest e => ∃ (S : Stm) (X2 X3 X4 X5 X6 X7 X8 X9 X10 X11 X12 : Sl), e = [.none, .stm S, X2, X3, X4, X5, X6, X7, X8, X9, X10, X11, X12, .none, .none] ∧ GSt S (200000 * rest.length)) (List.range 4) _ ?_ ?_ ?_
  · exact ⟨_, _, _, _, _, _, _, _, _, _, _, _, rfl, g0.le (by simp)⟩
  · rintro done turn rest e he ⟨S, X2, X3, X4, X5, X6, X7, X8, X9, X10, X11, X12, rfl, g⟩
    simp only [List.length_cons] at g
    have gk : GSt S (200000 * rest.length + 200000) := g.le (by omega)
    generalize 200000 * rest.length = k at gk
    clear g he
    simp [-sAsg_e]
    -- the web
    refine Op.imp (Q := fun o => ∃ (w : Wb) (S' : Stm), o = Out.next [.none, .stm S', .val (.int turn), .val w.d, X4, X5, X6, X7, X8, X9, X10, X11, X12, .none, .none] ∧ w.Ok ∧ (w.rooms.length : Int) ≤ 12 ∧ GSt S' (k + 170000)) ?_ ?_
    · have web : ∀ (S : Stm) (n : Int), GSt S (k + 190000) → 0 < n → n ≤ 12 → ∀ {R : Sl × List Sl → Prop}, (∀ (w : Wb) S', w.Ok → (w.rooms.length : Int) ≤ 12 → GSt S' (k + 170000) → R (.val w.d, [.stm S', .none, .none])) → Op (m__law_web [.stm S, .val (.int n), .val (.int 24)]) R := fun S n g h0 h1 R q =>
        op_web (k := k + 170000) (g.le (by omega)) h0 (by omega) (by decide) (by decide) fun w S' hw hr _ g' => q w S' hw (by omega) g'
      simp
      by_cases ht : turn = 0
      · simp [ht]
        refine web S 12 (gk.le (by omega)) (by decide) (by decide) fun w S' hw hr g' => ?_
        simp
        exact ⟨w, S', ⟨rfl, rfl⟩, hw, by omega, g'⟩
      · simp [ht, sl_le (show 3 < 10000000 by decide)]
        refine op_pickL (k := k + 190000) (gk.le (by omega)) (by simp) (by simp) fun y S2 hy g2 => ?_
        obtain ⟨m, rfl, m0, m1⟩ : ∃ m : Int, y = .int m ∧ 0 < m ∧ m ≤ 12 := by
          simp at hy
          rcases hy with rfl | rfl | rfl <;> exact ⟨_, rfl, by decide, by decide⟩
        simp
        refine web S2 m g2 m0 m1 fun w S' hw hr g' => ?_
        simp
        exact ⟨w, S', ⟨rfl, rfl⟩, hw, by omega, g'⟩
    rintro o ⟨w, S1, rfl, hw, hwr, g1⟩
    have hne : 0 < w.rooms.length := List.length_pos_iff.mpr hw.ne
    simp [-sAsg_e]
    refine op_made (k := k + 110000) hw (g1.le (by omega)) fun S2 g2 => ?_
    simp [-sAsg_e]
    refine op_draw (k := k + 109000) (n := 4) (g2.le (by omega)) (by decide) (by decide) fun n S3 n0 n1 g3 => ?_
    simp [-sAsg_e]
    have it0 : itemD w.d (.int 0) = some (.lst (w.rooms.map D.str)) := by simp [Wb.d]
    -- the orders
    refine Op.imp (Q := fun o => ∃ (o0 o1 o2 o3 : List Str) (S' : Stm), o = Out.next [.none, .stm S', .val (.int turn), .val w.d, .val w.o, .val (.int n), .lst [.lst (o0.map D.str), .lst (o1.map D.str), .lst (o2.map D.str), .lst (o3.map D.str)], X7, X8, X9, X10, X11, X12, .none, .none] ∧ (o0.length ≤ 12 ∧ o1.length ≤ 12 ∧ o2.length ≤ 12 ∧ o3.length ≤ 12) ∧ GSt S' (k + 100000)) ?_ ?_
    · simp
      refine op_rng1 (by decide) (by decide) ?_
      simp
      refine op_lc (fun i : Nat => D.int i) (fun dn out rs e => ∃ (S' : Stm) (os : List (List Str)), e = [.none, .stm S', .val (.int turn), .val w.d, .val w.o, .val (.int n), X6, X7, X8, X9, X10, X11, X12, .none, .none] ∧ out = os.map (fun o => D.lst (o.map D.str)) ∧ os.length = dn.length ∧ (∀ o ∈ os, o.length ≤ 12) ∧ GSt S' (k + 100000 + 200 * rs.length)) _ _ ?_ ?_ ?_
      · exact ⟨S3, [], rfl, rfl, rfl, by simp, g3.le (by simp)⟩
      · rintro dn out x rs e he ⟨S', os, rfl, rfl, hol, hos, g⟩
        simp only [List.length_cons] at g
        simp [it0]
        refine op_mixedS (k := k + 100000 + 200 * rs.length) (xs := w.rooms) rfl (g.le (by omega)) (by omega) fun ys S4 hy g4 => ?_
        have hyl := hy.length_eq
        simp
        refine At.i ⟨S4, os ++ [ys], rfl, by simp, by simp [hol], fun o ho => ?_, g4⟩
        rcases List.mem_append.mp ho with h | h
        · exact hos o h
        · rw [List.mem_singleton.mp h]; omega
      · rintro out e ⟨S', os, rfl, rfl, hol, hos, g⟩
        obtain ⟨o0, o1, o2, o3, rfl⟩ : ∃ o0 o1 o2 o3, os = [o0, o1, o2, o3] := by
          match os, hol with
          | [a, b, c, d], _ => exact ⟨a, b, c, d, rfl⟩
        simp [sl_le (show 4 < 10000000 by decide)]
        refine ⟨o0, o1, o2, o3, S', ⟨rfl, rfl, rfl, rfl, rfl⟩, ?_, g.le (by simp)⟩
        simp at hos
        exact hos
    clear g3 g2 g1 gk
    rintro o ⟨o0, o1, o2, o3, S3, rfl, ho, g3⟩
    simp [-sAsg_e]
    refine Op.imp (Q := fun o => ∃ (l0 l1 l2 l3 l4 : List Str) (S' : Stm), o = Out.next [.none, .stm S', .val (.int turn), .val w.d, .val w.o, .val (.int n), .lst [.lst (o0.map D.str), .lst (o1.map D.str), .lst (o2.map D.str), .lst (o3.map D.str)], .lst [.lst (l0.map D.str), .lst (l1.map D.str), .lst (l2.map D.str), .lst (l3.map D.str), .lst (l4.map D.str)], X8, X9, X10, X11, X12, .none, .none] ∧ (l0.length ≤ 12 ∧ l1.length ≤ 12 ∧ l2.length ≤ 12 ∧ l3.length ≤ 12 ∧ l4.length ≤ 12) ∧ GSt S' (k + 90000)) ?_ ?_
    · simp
      refine op_rng1 (by decide) (by decide) ?_
      simp
      refine op_lc (fun i : Nat => D.int i) (fun dn out rs e => ∃ (S' : Stm) (os : List (List Str)), e = [.none, .stm S', .val (.int turn), .val w.d, .val w.o, .val (.int n), .lst [.lst (o0.map D.str), .lst (o1.map D.str), .lst (o2.map D.str), .lst (o3.map D.str)], X7, X8, X9, X10, X11, X12, .none, .none] ∧ out = os.map (fun o => D.lst (o.map D.str)) ∧ os.length = dn.length ∧ (∀ o ∈ os, o.length ≤ 12) ∧ GSt S' (k + 90000 + 200 * rs.length)) _ _ ?_ ?_ ?_
      · exact ⟨S3, [], rfl, rfl, rfl, by simp, g3.le (by simp)⟩
      · rintro dn out x rs e he ⟨S', os, rfl, rfl, hol, hos, g⟩
        simp only [List.length_cons] at g
        simp [it0]
        refine op_mixedS (k := k + 90000 + 200 * rs.length + 1) (xs := w.rooms) rfl (g.le (by omega)) (by omega) fun ys S4 hy g4 => ?_
        have hyl := hy.length_eq
        simp [it0]
        refine op_draw (k := k + 90000 + 200 * rs.length) (n := w.rooms.length) g4 (by omega) (by omega) fun j S5 j0 j1 g5 => ?_
        simp
        rw [cutL_map, cutL_to _ (by omega)]
        have hsl : (srtS (ys.take (1 + j).toNat)).length ≤ 12 := by rw [(srtS_perm _).length_eq]; simp; omega
        simp only [sorted_lS, op_some]
        generalize srtS (ys.take (1 + j).toNat) = zs at hsl
        simp
        refine At.i ⟨S5, os ++ [zs], rfl, by simp, by simp [hol], fun o ho => ?_, g5⟩
        rcases List.mem_append.mp ho with h | h
        · exact hos o h
        · rw [List.mem_singleton.mp h]; exact hsl
      · rintro out e ⟨S', os, rfl, rfl, hol, hos, g⟩
        obtain ⟨o0, o1, o2, o3, o4, rfl⟩ : ∃ o0 o1 o2 o3 o4, os = [o0, o1, o2, o3, o4] := by
          match os, hol with
          | [a, b, c, d, e], _ => exact ⟨a, b, c, d, e, rfl⟩
        simp [sl_le (show 5 < 10000000 by decide)]
        refine ⟨o0, o1, o2, o3, o4, S', ⟨rfl, rfl, rfl, rfl, rfl, rfl⟩, ?_, g.le (by simp)⟩
        simp at hos
        exact hos
    clear g3
    rintro o ⟨l0, l1, l2, l3, l4, S3, rfl, hl, g3⟩
    simp [-sAsg_e]
    have pairs : ∀ (s : Str) (ds : List D), (∀ d ∈ ds, Th4 d) → ∀ d ∈ ds.map (fun d => D.tup [.str s, d]), Th d := fun s ds h d hd => by
      obtain ⟨x, hx, rfl⟩ := List.mem_map.mp hd
      exact th_pair (th4_str s) (h x hx)
    refine Op.imp (Q := fun o => ∃ (ths : List D), o = Out.next [.none, .stm S3, .val (.int turn), .val w.d, .val w.o, .val (.int n), .lst [.lst (o0.map D.str), .lst (o1.map D.str), .lst (o2.map D.str), .lst (o3.map D.str)], .lst [.lst (l0.map D.str), .lst (l1.map D.str), .lst (l2.map D.str), .lst (l3.map D.str), .lst (l4.map D.str)], .lst ths, X9, X10, X11, X12, .none, .none] ∧ (∀ d ∈ ths, Th d) ∧ ths.length ≤ 20) ?_ ?_
    · have len : ∀ {xs : List Str}, xs.length ≤ 12 → ∀ lo hi, (cutL xs lo hi).length ≤ 12 := fun h lo hi => Nat.le_trans (cutL_len _ lo hi) h
      have c1 := len ho.1 (some 1) none
      have c2 := len ho.1 none (some 1)
      have c3 := len ho.1 none (some (-1))
      simp [cutL_map, sl_le (show o0.length + (cutL o0 none (some 1)).length < 10000000 by omega), sl_le (show 1 < 10000000 by decide), sl_le (show (cutL o0 none (some (-1))).length + 1 < 10000000 by omega), sl_le (show 7 < 10000000 by decide), sl_le (show 11 < 10000000 by decide)]
      refine op_lcP (fun d => .tup [.str "order", d]) (fun d hd => by simp [sl_le (show 2 < 10000000 by decide)]) fun ys hys => ?_
      have hyl : ys.length = 11 := by rw [hys]; rfl
      simp [hyl, sl_le (show 11 < 10000000 by decide)]
      refine fun d hd => th_pair (th4_str _) ?_
      rw [hys] at hd
      simp only [List.mem_cons, List.not_mem_nil, or_false] at hd
      rcases hd with rfl | rfl | rfl | rfl | rfl | rfl | rfl | rfl | rfl | rfl | rfl
      · exact th4_strs (by omega)
      · exact th4_strs (by omega)
      · exact th4_strs (by omega)
      · exact th4_strs (by omega)
      · exact th4_strs (by omega)
      · exact th4_lst (by simp; omega) fun d hd => by simp at hd; rcases hd with ⟨x, _, rfl⟩ | ⟨x, _, rfl⟩ <;> exact th0_str _
      · exact th4_lst (by simp; omega) fun d hd => by simp at hd; rcases hd with ⟨x, _, rfl⟩ | rfl <;> exact th0_str _
      · exact th4_strsT (by omega)
      · exact th4_non
      · exact th4_str _
      · exact th4_dic
    rintro o ⟨ths, rfl, hth, htl⟩
    simp [-sDrop_e]
    have len : ∀ {xs : List Str}, xs.length ≤ 12 → ∀ lo hi, (cutL xs lo hi).length ≤ 12 := fun h lo hi => Nat.le_trans (cutL_len _ lo hi) h
    have c1 := len hl.1 none (some 1)
    refine Op.imp (Q := fun o => ∃ (ths : List D), o = Out.next [.none, .stm S3, .val (.int turn), .val w.d, .val w.o, .val (.int n), .lst [.lst (o0.map D.str), .lst (o1.map D.str), .lst (o2.map D.str), .lst (o3.map D.str)], .lst [.lst (l0.map D.str), .lst (l1.map D.str), .lst (l2.map D.str), .lst (l3.map D.str), .lst (l4.map D.str)], .lst ths, X9, X10, X11, X12, .none, .none] ∧ (∀ d ∈ ths, Th d) ∧ ths.length ≤ 50) ?_ ?_
    · simp [it0, cutL_map, sl_le (show l0.length + (cutL l0 none (some 1)).length < 10000000 by omega), sl_le (show 0 < 10000000 by decide), sl_le (show 1 < 10000000 by decide), sl_le (show 8 < 10000000 by decide), sl_le (show 13 < 10000000 by decide)]
      refine op_lcP (fun d => .tup [.str "core", d]) (fun d hd => by simp [sl_le (show 2 < 10000000 by decide)]) fun ys hys => ?_
      have hyl : ys.length = 13 := by rw [hys]; rfl
      simp [hyl, sl_le (show 13 < 10000000 by decide), sl_le (show ths.length + 13 < 10000000 by omega)]
      refine ⟨fun d hd => ?_, by omega⟩
      rcases hd with hd | ⟨d, hd, rfl⟩
      · exact hth d hd
      refine th_pair (th4_str _) ?_
      rw [hys] at hd
      simp only [List.mem_cons, List.not_mem_nil, or_false] at hd
      rcases hd with rfl | rfl | rfl | rfl | rfl | rfl | rfl | rfl | rfl | rfl | rfl | rfl | rfl
      · exact th4_strs (by omega)
      · exact th4_strs (by omega)
      · exact th4_strs (by omega)
      · exact th4_strs (by omega)
      · exact th4_strs (by omega)
      · exact th4_strs (by omega)
      · exact th4_lst (by simp; omega) fun d hd => by simp at hd; obtain ⟨x, _, rfl⟩ := hd; exact th0_str _
      · exact th4_lst (by simp) fun d hd => by simp at hd
      · exact th4_non
      · exact th4_str _
      · exact th4_lst (by simp) fun d hd => by simp at hd; subst hd; exact ⟨rfl, rfl, rfl⟩
      · exact th4_strsT (by omega)
      · exact th4_lst (by simp; omega) fun d hd => by simp at hd; rcases hd with ⟨x, _, rfl⟩ | ⟨x, _, rfl⟩ <;> exact th0_str _
    clear hth htl
    rintro o ⟨ths, rfl, hth, htl⟩
    simp [-sFor_e]
    rw [sFor_e, op_bind]
    refine Op.imp (Q := fun r => ∃ (all : List D) (S4 : Stm), r = (all, [.none, .stm S4, .val (.int turn), .val w.d, .val w.o, .val (.int n), .lst [.lst (o0.map D.str), .lst (o1.map D.str), .lst (o2.map D.str), .lst (o3.map D.str)], .lst [.lst (l0.map D.str), .lst (l1.map D.str), .lst (l2.map D.str), .lst (l3.map D.str), .lst (l4.map D.str)], .val (.lst ths), X9, X10, X11, X12, .none, .none]) ∧ (∀ d ∈ all, Th d) ∧ GSt S4 k) ?_ ?_
    · simp
      refine op_mixed (k := k) (xs := ths) rfl (g3.le (by omega)) (by omega) fun ys S4 hy g4 => ?_
      have hyl := hy.length_eq
      simp [it0, sl_le (show 0 < 10000000 by decide), sl_le (show 1 < 10000000 by decide), sl_le (show 2 < 10000000 by decide), sl_le (show 3 < 10000000 by decide), sl_le (show 8 < 10000000 by decide), sl_le (show ys.length + 8 < 10000000 by omega)]
      refine ⟨_, S4, ⟨rfl, rfl⟩, fun d hd => ?_, g4⟩
      simp only [List.mem_append, List.mem_cons, List.not_mem_nil, or_false] at hd
      rcases hd with hd | rfl | rfl | rfl | rfl | rfl | rfl | rfl | rfl
      · exact hth d (hy.mem_iff.mp hd)
      · exact ⟨rfl, rfl, by decide⟩
      · exact ⟨rfl, rfl, by decide⟩
      · exact ⟨rfl, rfl, by decide⟩
      · exact th_pair (th4_str _) (th4_strs (by omega))
      · exact th_pairL (th4_str _) (th4_strs (by omega))
      · exact ⟨rfl, rfl, by decide⟩
      · exact th_pair th4_non (th4_strs (by omega))
      · exact th_trip (th4_str _) (th4_strs (by omega)) ⟨rfl, rfl, by simp [depthD]⟩
    rintro r ⟨all, S4, rfl, hall, g4⟩
    refine op_forLD (fun done rest e => ∃ (X9 X10 X11 X12 : Sl), e = [.none, .stm S4, .val (.int turn), .val w.d, .val w.o, .val (.int n), .lst [.lst (o0.map D.str), .lst (o1.map D.str), .lst (o2.map D.str), .lst (o3.map D.str)], .lst [.lst (l0.map D.str), .lst (l1.map D.str), .lst (l2.map D.str), .lst (l3.map D.str), .lst (l4.map D.str)], .val (.lst ths), X9, X10, X11, X12, .none, .none]) _ _ ?_ ?_ ?_
    · exact ⟨_, _, _, _, rfl⟩
    · rintro done d rest e he ⟨X9, X10, X11, X12, rfl⟩
      have he : all = done ++ d :: rest := he
      have hd : Th d := hall d (by rw [he]; simp)
      obtain ⟨due, hdue, h1, h2⟩ := fault_ok (n := n) hw n0 hd.g hd.s
      unfold lf at h1
      unfold pf at h2
      simp [h1]
      refine op_copied hd fun r s hr1 hr2 => ?_
      simp [hr1, hr2, h2]
      refine op_copied hd fun r s hr1 hr2 => ?_
      simp [hr1, hr2, h2, perm, sl_le (show 2 < 10000000 by decide)]
      refine op_same (th_due hdue) fun s1 s2 => ?_
      simp
      refine op_same hd fun s1 s2 => ?_
      simp
      exact At.i ⟨_, _, _, _, rfl⟩
    · rintro e ⟨X9, X10, X11, X12, rfl⟩
      simp
      exact At.i ⟨S4, _, _, _, _, _, _, _, _, _, _, _, rfl, g4⟩
  · rintro e ⟨S, X2, X3, X4, X5, X6, X7, X8, X9, X10, X11, X12, rfl, g⟩
    simp
end HU
set_option maxRecDepth 100000
set_option maxHeartbeats 0
namespace HX
open PySem PySem.Spec L2 HU
/-! ### the text -/
def top (i : Nat) : Stmt := PySem.Challenge.pw_huesapart_k13_whole_orders_and_cores_jud.main.body.getD i (.Pass ⟨0, 0, 0, 0⟩)
abbrev s_is_list : Stmt := top 2
abbrev s_is_whole : Stmt := top 3
abbrev s_is_number : Stmt := top 4
abbrev s_is_row : Stmt := top 5
abbrev s_is_name : Stmt := top 6
abbrev s_is_rising : Stmt := top 7
abbrev s_first_bad_room : Stmt := top 16
abbrev s_Web___init__ : Stmt := L2.inClass (top 17) 0
abbrev s_Web_is_wire : Stmt := L2.inClass (top 17) 1
abbrev s_Web_rooms : Stmt := L2.inClass (top 17) 2
abbrev s_Web_wires : Stmt := L2.inClass (top 17) 3
abbrev s_Web_around : Stmt := L2.inClass (top 17) 4
abbrev s_Web___eq__ : Stmt := L2.inClass (top 17) 5
abbrev s_check_web : Stmt := top 18
abbrev s_is_room : Stmt := top 19
abbrev s_check_room : Stmt := top 20
abbrev s_is_lot_of : Stmt := top 21
abbrev s_is_order_of : Stmt := top 23
abbrev s_within : Stmt := top 25
abbrev s_check_number : Stmt := top 26
abbrev s_core_fault : Stmt := top 27
abbrev s__law_stream : Stmt := top 29
abbrev s__law_draw : Stmt := top 30
abbrev s__law_pick : Stmt := top 31
abbrev s__law_mixed : Stmt := top 32
abbrev s__law_same : Stmt := top 33
abbrev s__law_loose : Stmt := top 34
abbrev s__law_copied : Stmt := top 35
abbrev s__law_names : Stmt := top 36
abbrev s__law_around : Stmt := top 37
abbrev s__law_are_rooms : Stmt := top 38
abbrev s__law_is_lot : Stmt := top 39
abbrev s__law_web : Stmt := top 40
abbrev s__law_made : Stmt := top 41
abbrev s__law_within : Stmt := top 42
abbrev s__law_fault : Stmt := top 43
abbrev s_law : Stmt := top 44
structure Pl where
  a__law_copied : Addr
  d__law_copied : FuncData
  a__law_draw : Addr
  d__law_draw : FuncData
  a__law_are_rooms : Addr
  d__law_are_rooms : FuncData
  a__law_is_lot : Addr
  d__law_is_lot : FuncData
  a__law_around : Addr
  d__law_around : FuncData
  a__law_within : Addr
  d__law_within : FuncData
  a__law_fault : Addr
  d__law_fault : FuncData
  a_is_list : Addr
  d_is_list : FuncData
  a_is_row : Addr
  d_is_row : FuncData
  a_Web_is_wire : Addr
  d_Web_is_wire : FuncData
  a_is_name : Addr
  d_is_name : FuncData
  a_first_bad_room : Addr
  d_first_bad_room : FuncData
  a_Web___init__ : Addr
  d_Web___init__ : FuncData
  a__law_loose : Addr
  d__law_loose : FuncData
  a__law_mixed : Addr
  d__law_mixed : FuncData
  a__law_made : Addr
  d__law_made : FuncData
  a__law_pick : Addr
  d__law_pick : FuncData
  a__law_same : Addr
  d__law_same : FuncData
  a__law_stream : Addr
  d__law_stream : FuncData
  a__law_names : Addr
  d__law_names : FuncData
  a__law_web : Addr
  d__law_web : FuncData
  a_check_web : Addr
  d_check_web : FuncData
  a_is_whole : Addr
  d_is_whole : FuncData
  a_is_number : Addr
  d_is_number : FuncData
  a_check_number : Addr
  d_check_number : FuncData
  a_is_rising : Addr
  d_is_rising : FuncData
  a_is_room : Addr
  d_is_room : FuncData
  a_is_lot_of : Addr
  d_is_lot_of : FuncData
  a_is_order_of : Addr
  d_is_order_of : FuncData
  a_within : Addr
  d_within : FuncData
  a_core_fault : Addr
  d_core_fault : FuncData
  a_law : Addr
  d_law : FuncData
  C_Web : Addr
structure Fc (P : Program) (w : World) (K : PySem.W.Frag) (mg : Str → Option Value) (pl : Pl) : Prop where
  F__law_copied : Fun K "_law_copied" "_law_copied" s__law_copied pl.a__law_copied pl.d__law_copied
  g__law_copied : mg "_law_copied" = some (.ref pl.a__law_copied)
  F__law_draw : Fun K "_law_draw" "_law_draw" s__law_draw pl.a__law_draw pl.d__law_draw
  g__law_draw : mg "_law_draw" = some (.ref pl.a__law_draw)
  F__law_are_rooms : Fun K "_law_are_rooms" "_law_are_rooms" s__law_are_rooms pl.a__law_are_rooms pl.d__law_are_rooms
  g__law_are_rooms : mg "_law_are_rooms" = some (.ref pl.a__law_are_rooms)
  F__law_is_lot : Fun K "_law_is_lot" "_law_is_lot" s__law_is_lot pl.a__law_is_lot pl.d__law_is_lot
  g__law_is_lot : mg "_law_is_lot" = some (.ref pl.a__law_is_lot)
  F__law_around : Fun K "_law_around" "_law_around" s__law_around pl.a__law_around pl.d__law_around
  g__law_around : mg "_law_around" = some (.ref pl.a__law_around)
  F__law_within : Fun K "_law_within" "_law_within" s__law_within pl.a__law_within pl.d__law_within
  g__law_within : mg "_law_within" = some (.ref pl.a__law_within)
  F__law_fault : Fun K "_law_fault" "_law_fault" s__law_fault pl.a__law_fault pl.d__law_fault
  g__law_fault : mg "_law_fault" = some (.ref pl.a__law_fault)
  F_is_list : Fun K "is_list" "is_list" s_is_list pl.a_is_list pl.d_is_list
  g_is_list : mg "is_list" = some (.ref pl.a_is_list)
  F_is_row : Fun K "is_row" "is_row" s_is_row pl.a_is_row pl.d_is_row
  g_is_row : mg "is_row" = some (.ref pl.a_is_row)
  F_Web_is_wire : Fun K "is_wire" "Web.is_wire" s_Web_is_wire pl.a_Web_is_wire pl.d_Web_is_wire
  me_Web_is_wire : Meth K pl.C_Web "is_wire" pl.a_Web_is_wire
  F_is_name : Fun K "is_name" "is_name" s_is_name pl.a_is_name pl.d_is_name
  g_is_name : mg "is_name" = some (.ref pl.a_is_name)
  F_first_bad_room : Fun K "first_bad_room" "first_bad_room" s_first_bad_room pl.a_first_bad_room pl.d_first_bad_room
  g_first_bad_room : mg "first_bad_room" = some (.ref pl.a_first_bad_room)
  F_Web___init__ : Fun K "__init__" "Web.__init__" s_Web___init__ pl.a_Web___init__ pl.d_Web___init__
  F__law_loose : Fun K "_law_loose" "_law_loose" s__law_loose pl.a__law_loose pl.d__law_loose
  g__law_loose : mg "_law_loose" = some (.ref pl.a__law_loose)
  F__law_mixed : Fun K "_law_mixed" "_law_mixed" s__law_mixed pl.a__law_mixed pl.d__law_mixed
  g__law_mixed : mg "_law_mixed" = some (.ref pl.a__law_mixed)
  F__law_made : Fun K "_law_made" "_law_made" s__law_made pl.a__law_made pl.d__law_made
  g__law_made : mg "_law_made" = some (.ref pl.a__law_made)
  F__law_pick : Fun K "_law_pick" "_law_pick" s__law_pick pl.a__law_pick pl.d__law_pick
  g__law_pick : mg "_law_pick" = some (.ref pl.a__law_pick)
  F__law_same : Fun K "_law_same" "_law_same" s__law_same pl.a__law_same pl.d__law_same
  g__law_same : mg "_law_same" = some (.ref pl.a__law_same)
  F__law_stream : Fun K "_law_stream" "_law_stream" s__law_stream pl.a__law_stream pl.d__law_stream
  g__law_stream : mg "_law_stream" = some (.ref pl.a__law_stream)
  F__law_names : Fun K "_law_names" "_law_names" s__law_names pl.a__law_names pl.d__law_names
  g__law_names : mg "_law_names" = some (.ref pl.a__law_names)
  F__law_web : Fun K "_law_web" "_law_web" s__law_web pl.a__law_web pl.d__law_web
  g__law_web : mg "_law_web" = some (.ref pl.a__law_web)
  F_check_web : Fun K "check_web" "check_web" s_check_web pl.a_check_web pl.d_check_web
  g_check_web : mg "check_web" = some (.ref pl.a_check_web)
  F_is_whole : Fun K "is_whole" "is_whole" s_is_whole pl.a_is_whole pl.d_is_whole
  g_is_whole : mg "is_whole" = some (.ref pl.a_is_whole)
  F_is_number : Fun K "is_number" "is_number" s_is_number pl.a_is_number pl.d_is_number
  g_is_number : mg "is_number" = some (.ref pl.a_is_number)
  F_check_number : Fun K "check_number" "check_number" s_check_number pl.a_check_number pl.d_check_number
  g_check_number : mg "check_number" = some (.ref pl.a_check_number)
  F_is_rising : Fun K "is_rising" "is_rising" s_is_rising pl.a_is_rising pl.d_is_rising
  g_is_rising : mg "is_rising" = some (.ref pl.a_is_rising)
  F_is_room : Fun K "is_room" "is_room" s_is_room pl.a_is_room pl.d_is_room
  g_is_room : mg "is_room" = some (.ref pl.a_is_room)
  F_is_lot_of : Fun K "is_lot_of" "is_lot_of" s_is_lot_of pl.a_is_lot_of pl.d_is_lot_of
  g_is_lot_of : mg "is_lot_of" = some (.ref pl.a_is_lot_of)
  F_is_order_of : Fun K "is_order_of" "is_order_of" s_is_order_of pl.a_is_order_of pl.d_is_order_of
  g_is_order_of : mg "is_order_of" = some (.ref pl.a_is_order_of)
  F_within : Fun K "within" "within" s_within pl.a_within pl.d_within
  g_within : mg "within" = some (.ref pl.a_within)
  F_core_fault : Fun K "core_fault" "core_fault" s_core_fault pl.a_core_fault pl.d_core_fault
  g_core_fault : mg "core_fault" = some (.ref pl.a_core_fault)
  F_law : Fun K "law" "law" s_law pl.a_law pl.d_law
  g_law : mg "law" = some (.ref pl.a_law)
  gC_Web : mg "Web" = some (.ref pl.C_Web)
  cl_Web : Cls K pl.C_Web
  mk_Web : Mk K pl.C_Web pl.a_Web___init__
  na_Web : ∀ f : Str, f ∈ (["own_around", "own_rooms", "own_wires"] : List Str) → NoAttr K pl.C_Web f
  ins : InsF K mg
  fr_abs : mg "abs" = none
  fr_all : mg "all" = none
  fr_bool : mg "bool" = none
  fr_dict : mg "dict" = none
  fr_enumerate : mg "enumerate" = none
  fr_int : mg "int" = none
  fr_isinstance : mg "isinstance" = none
  fr_len : mg "len" = none
  fr_list : mg "list" = none
  fr_max : mg "max" = none
  fr_min : mg "min" = none
  fr_range : mg "range" = none
  fr_sorted : mg "sorted" = none
  fr_str : mg "str" = none
  fr_tuple : mg "tuple" = none
  fr_zip : mg "zip" = none
  ls_LETTERS : ∃ u, mg "LETTERS" = some u ∧ RelV (.str "abcdefghijklmnopqrstuvwxyz") u
section
variable {P : Program} {w : World} {K : PySem.W.Frag} {mg : Str → Option Value} {base : Heap} {pl : Pl}
theorem sc__law_copied : FnScope (["thing", "some", "one", "key"] : List Str) (["thing"] : List Str) (defScope s__law_copied) := ⟨rfl, rfl, rfl, by decide, rfl, by decide +kernel, by decide +kernel⟩
theorem bi__law_copied (T : Fc P w K mg pl) : Binds K pl.d__law_copied (["thing"] : List Str) [] := T.F__law_copied.binds fun _ _ _ _ _ _ us hl => match us, hl with | [_], _ => rfl
theorem ok__law_copied (T : Fc P w K mg pl) : ∀ c : Nat, Cal P w K mg base (1 + c) pl.a__law_copied pl.d__law_copied (["thing"] : List Str) 1 (m__law_copied c)
  | 0 => ⟨(okF (k := 0) (m := sFail) T.F__law_copied sc__law_copied fun cdv A outer s H E hr => sss_fail).mono (by omega), bi__law_copied T, T.F__law_copied.kp⟩
  | c + 1 => by
    have ih := ok__law_copied T c
    refine ⟨okF (k := 1 + c) T.F__law_copied sc__law_copied fun cdv A outer s H E hr => ?_, bi__law_copied T, T.F__law_copied.kp⟩
    have nd := sc__law_copied.nd
    exact (sss_cons (ss_if (st_val (se_isiT T.ins (sv_nm 0 (pv 0)) (pty_cons (pe_tyb T.fr_list (by decide +kernel)) (pty_cons (pe_tyb T.fr_tuple (by decide +kernel)) pty_nil)) (by decide) (.cons (.b "list") (.cons (.b "tuple") .nil)) T.fr_isinstance rfl)) (sss_cons (ss_setLc (i := 1) (own := [("one", 2)]) rfl nd rfl rfl rfl (by decide) (by decide) (si_seq (se_nm 0 (pv 0))) (by kernel_rfl) (by decide) (fun _ _ _ _ _ => (sg_nm (i := 2) (pg_name nd rfl (by first | exact Or.inl rfl | exact Or.inr rfl)))) (fun _ _ _ _ _ => sts_nil) (fun _ _ _ _ _ => (SF.e (sf_call ih (hr.mono (by omega)) T.g__law_copied (aa_cons (a1_val (se_nm 2 (pv 2))) aa_nil)))))
    (sss_cons (ss_ret (SE.f (se_if (st_val (se_isi T.ins (sv_nm 0 (pv 0)) (pe_tyb T.fr_list (by decide +kernel)) (.b "list") T.fr_isinstance rfl)) (se_nz 1 (pv 1)) (SF.e (sf_callTy (g := tupleD) call_tuple_of fl_tuple (sv_nm 1 (pv 1)) T.fr_tuple (by decide +kernel))))))
    sss_nil)) sss_nil)
    (sss_cons (ss_if (st_val (se_isi T.ins (sv_nm 0 (pv 0)) (pe_tyb T.fr_dict (by decide +kernel)) (.b "dict") T.fr_isinstance rfl)) (sss_cons (ss_ret (sf_callTy (g := dictD) (call_dictP rfl) fl_dict (SE.v (SF.e (sf_lc (own := [("key", 3)]) rfl nd (si_seq (se_nm 0 (pv 0))) (by kernel_rfl) (by decide) (fun _ _ _ _ _ => (sg_nm (i := 3) (pg_name nd rfl (by first | exact Or.inl rfl | exact Or.inr rfl)))) (fun _ _ _ _ _ => sts_nil) (fun _ _ _ _ _ => (se_tup (sa_cons (se_nm 3 (pv 3)) (sa_cons (SF.e (sf_call ih (hr.mono (by omega)) T.g__law_copied (aa_cons (a1_val (se_ix (ix_A hr.u1) fl_item (sv_nm 0 (pv 0)) (sv_nm 3 (pv 3)) (by intro _ _; rfl))) aa_nil))) sa_nil))))))) T.fr_dict (by decide +kernel)))
    sss_nil) sss_nil)
    (sss_cons (ss_ret (SE.f (se_nm 0 (pv 0))))
    sss_nil)))
theorem sc__law_draw : FnScope (["stream", "many", "mixed", "cell", "digit"] : List Str) (["stream", "many"] : List Str) (defScope s__law_draw) := ⟨rfl, rfl, rfl, by decide, rfl, by decide +kernel, by decide +kernel⟩
theorem bi__law_draw (T : Fc P w K mg pl) : Binds K pl.d__law_draw (["stream", "many"] : List Str) [] := T.F__law_draw.binds fun _ _ _ _ _ _ us hl => match us, hl with | [_, _], _ => rfl
theorem ok__law_draw (T : Fc P w K mg pl) : Cal P w K mg base 1 pl.a__law_draw pl.d__law_draw (["stream", "many"] : List Str) 2 m__law_draw := by
  refine ⟨okF (k := 0) T.F__law_draw sc__law_draw fun cdv A outer s H E hr => ?_, bi__law_draw T, T.F__law_draw.kp⟩
  have nd := sc__law_draw.nd
  exact (sss_cons (ss_stmSet (SF.e (sf_bin (g := addD) op_addA fl_add (SE.v (se_stmIx (c := 2) (pv 0))) (SE.v se_int))) (pv 0))
    (sss_cons (ss_while PassesOwn.never (SW.t (sw_and (st_cmp (g := eqD) (op_eqA hr.units) fl_eq (SE.v (se_stmIx (c := 1) (pv 0))) (SE.v se_int) (by rfl)) (sw_and1 (st_stmMore hr.units (pv 0))))) (sss_cons (ss_set (i := 3) (SE.f (se_callB (g := absD) call_abs fl_abs (SE.v (se_stmPop (pv 0))) T.fr_abs (by decide +kernel))) nd rfl (by first | exact Or.inl rfl | exact Or.inr rfl))
    (sss_cons (ss_stmSet (se_bin op_modN fl_mod (SE.v (se_callTy (g := intD) call_int1 fl_int (SE.v (SF.e (sf_bin (g := addD) op_addA fl_add (SE.v (SF.e (sf_bin (g := addD) op_addA fl_add (SE.v (SF.e (sf_bin (g := mulD) op_mulA fl_mul (SE.v (se_stmIx (c := 3) (pv 0))) (SE.v se_int)))) (sv_nm 3 (pv 3))))) (SE.v se_int)))) T.fr_int (by decide +kernel))) (SE.v se_int)) (pv 0))
    (sss_cons (ss_stmSet (se_if (st_cmp (g := geD) op_geA fl_ord (sv_nm 3 (pv 3)) (SE.v (se_bin op_pow fl_pow (SE.v se_int) (SE.v se_int))) (by rfl)) (se_nm 3 (pv 3)) se_int) (pv 0))
    sss_nil))))
    (sss_cons (ss_if (st_cmp (g := gtD) op_gtA fl_ord (SE.v (se_stmIx (c := 1) (pv 0))) (SE.v se_int) (by rfl)) (sss_cons (ss_set (i := 4) (SE.f (se_bin op_modN fl_mod (SE.v (se_callTy (g := intD) call_int1 fl_int (SE.v (se_stmIx (c := 1) (pv 0))) T.fr_int (by decide +kernel))) (sv_nm 1 (pv 1)))) nd rfl (by first | exact Or.inl rfl | exact Or.inr rfl))
    (sss_cons (ss_stmSet (se_bin op_fdivN fl_fdiv (SE.v (se_stmIx (c := 1) (pv 0))) (sv_nm 1 (pv 1))) (pv 0))
    (sss_cons (ss_ret (SE.f (se_nm 4 (pv 4))))
    sss_nil))) sss_nil)
    (sss_cons (ss_set (i := 2) (SE.f (se_bin op_modN fl_mod (SE.v (se_callTy (g := intD) call_int1 fl_int (SE.v (se_bin op_pow fl_pow (SE.v (SF.e (sf_bin (g := addD) op_addA fl_add (SE.v (SF.e (sf_bin (g := addD) op_addA fl_add (SE.v (se_stmIx (c := 3) (pv 0))) (SE.v (SF.e (sf_bin (g := mulD) op_mulA fl_mul (SE.v se_int) (SE.v (se_stmIx (c := 2) (pv 0))))))))) (SE.v se_int)))) (SE.v se_int))) T.fr_int (by decide +kernel))) (SE.v se_int))) nd rfl (by first | exact Or.inl rfl | exact Or.inr rfl))
    (sss_cons (ss_ret (SE.f (se_bin op_modN fl_mod (SE.v (se_bin op_modN fl_mod (SE.v (se_callTy (g := intD) call_int1 fl_int (SE.v (se_bin op_pow fl_pow (SE.v (SF.e (sf_bin (g := addD) op_addA fl_add (SE.v (SF.e (sf_bin (g := addD) op_addA fl_add (SE.v (SF.e (sf_bin (g := mulD) op_mulA fl_mul (sv_nm 2 (pv 2)) (SE.v se_int)))) (SE.v (SF.e (sf_bin (g := mulD) op_mulA fl_mul (SE.v se_int) (SE.v (se_stmIx (c := 2) (pv 0))))))))) (SE.v se_int)))) (SE.v se_int))) T.fr_int (by decide +kernel))) (SE.v se_int))) (sv_nm 1 (pv 1)))))
    sss_nil)))))
theorem sc__law_are_rooms : FnScope (["web", "thing", "room"] : List Str) (["web", "thing"] : List Str) (defScope s__law_are_rooms) := ⟨rfl, rfl, rfl, by decide, rfl, by decide +kernel, by decide +kernel⟩
theorem bi__law_are_rooms (T : Fc P w K mg pl) : Binds K pl.d__law_are_rooms (["web", "thing"] : List Str) [] := T.F__law_are_rooms.binds fun _ _ _ _ _ _ us hl => match us, hl with | [_, _], _ => rfl
theorem ok__law_are_rooms (T : Fc P w K mg pl) : Cal P w K mg base 1 pl.a__law_are_rooms pl.d__law_are_rooms (["web", "thing"] : List Str) 2 m__law_are_rooms := by
  refine ⟨okF (k := 0) T.F__law_are_rooms sc__law_are_rooms fun cdv A outer s H E hr => ?_, bi__law_are_rooms T, T.F__law_are_rooms.kp⟩
  have nd := sc__law_are_rooms.nd
  exact (sss_cons (ss_ret (SE.f (se_and (se_isiT T.ins (sv_nm 1 (pv 1)) (pty_cons (pe_tyb T.fr_list (by decide +kernel)) (pty_cons (pe_tyb T.fr_tuple (by decide +kernel)) pty_nil)) (by decide) (.cons (.b "list") (.cons (.b "tuple") .nil)) T.fr_isinstance rfl) (se_one (se_callB (g := allD) (cr_all rfl) fl_all (SE.v (SF.e (sf_lc (own := [("room", 2)]) rfl nd (si_seq (se_nm 1 (pv 1))) (by kernel_rfl) (by decide) (fun _ _ _ _ _ => (sg_nm (i := 2) (pg_name nd rfl (by first | exact Or.inl rfl | exact Or.inr rfl)))) (fun _ _ _ _ _ => sts_nil) (fun _ _ _ _ _ => (se_and (se_isi T.ins (sv_nm 2 (pv 2)) (pe_tyb T.fr_str (by decide +kernel)) (.b "str") T.fr_isinstance rfl) (se_one (se_cmp (g := inD) (op_inA hr.u65) fl_in (sv_nm 2 (pv 2)) (SE.v (se_ix (ix_A hr.u1) fl_item (sv_nm 0 (pv 0)) (SE.v se_int) (by intro _ _; rfl))) (by rfl)))))))) T.fr_all (by decide +kernel))))))
    sss_nil)
theorem sc__law_is_lot : FnScope (["web", "thing", "room"] : List Str) (["web", "thing"] : List Str) (defScope s__law_is_lot) := ⟨rfl, rfl, rfl, by decide, rfl, by decide +kernel, by decide +kernel⟩
theorem bi__law_is_lot (T : Fc P w K mg pl) : Binds K pl.d__law_is_lot (["web", "thing"] : List Str) [] := T.F__law_is_lot.binds fun _ _ _ _ _ _ us hl => match us, hl with | [_, _], _ => rfl
theorem ok__law_is_lot (T : Fc P w K mg pl) : Cal P w K mg base 2 pl.a__law_is_lot pl.d__law_is_lot (["web", "thing"] : List Str) 2 m__law_is_lot := by
  refine ⟨okF (k := 1) T.F__law_is_lot sc__law_is_lot fun cdv A outer s H E hr => ?_, bi__law_is_lot T, T.F__law_is_lot.kp⟩
  have nd := sc__law_is_lot.nd
  exact (sss_cons (ss_ret (SE.f (se_and (SF.e (sf_call (ok__law_are_rooms T) (hr.mono (by omega)) T.g__law_are_rooms (aa_cons (a1_val (se_nm 0 (pv 0))) (aa_cons (a1_val (se_nm 1 (pv 1))) aa_nil)))) (se_one (se_cmp (g := eqD) (op_eqA hr.units) fl_eq (SE.v (SF.e (sf_callTyT (g := listTD) (cr_listT rfl) fl_listT (sv_nm 1 (pv 1)) T.fr_list (by decide +kernel)))) (SE.v (SF.e (sf_lc (own := [("room", 2)]) rfl nd (si_seq (se_ix (ix_A hr.u1) fl_item (sv_nm 0 (pv 0)) (SE.v se_int) (by intro _ _; rfl))) (by kernel_rfl) (by decide) (fun _ _ _ _ _ => (sg_nm (i := 2) (pg_name nd rfl (by first | exact Or.inl rfl | exact Or.inr rfl)))) (fun _ _ _ _ _ => (sts_one (st_cmp (g := inD) (op_inA hr.u65) fl_in (sv_nm 2 (pv 2)) (sv_nm 1 (pv 1)) (by rfl)))) (fun _ _ _ _ _ => (se_nm 2 (pv 2)))))) (by rfl))))))
    sss_nil)
theorem sc__law_around : FnScope (["web", "room", "wire"] : List Str) (["web", "room"] : List Str) (defScope s__law_around) := ⟨rfl, rfl, rfl, by decide, rfl, by decide +kernel, by decide +kernel⟩
theorem bi__law_around (T : Fc P w K mg pl) : Binds K pl.d__law_around (["web", "room"] : List Str) [] := T.F__law_around.binds fun _ _ _ _ _ _ us hl => match us, hl with | [_, _], _ => rfl
theorem ok__law_around (T : Fc P w K mg pl) : Cal P w K mg base 1 pl.a__law_around pl.d__law_around (["web", "room"] : List Str) 2 m__law_around := by
  refine ⟨okF (k := 0) T.F__law_around sc__law_around fun cdv A outer s H E hr => ?_, bi__law_around T, T.F__law_around.kp⟩
  have nd := sc__law_around.nd
  exact (sss_cons (ss_ret (sf_callBT (g := sortedD) (cr_sortA rfl) fl_sorted (SE.v (SF.e (sf_lc (own := [("wire", 2)]) rfl nd (si_seq (se_ix (ix_A hr.u1) fl_item (sv_nm 0 (pv 0)) (SE.v se_int) (by intro _ _; rfl))) (by kernel_rfl) (by decide) (fun _ _ _ _ _ => (sg_nm (i := 2) (pg_name nd rfl (by first | exact Or.inl rfl | exact Or.inr rfl)))) (fun _ _ _ _ _ => (sts_one (st_cmp (g := inD) (op_inA hr.u65) fl_in (sv_nm 1 (pv 1)) (sv_nm 2 (pv 2)) (by rfl)))) (fun _ _ _ _ _ => (se_if (st_cmp (g := eqD) (op_eqA hr.units) fl_eq (SE.v (se_ix (ix_A hr.u1) fl_item (sv_nm 2 (pv 2)) (SE.v se_int) (by intro _ _; rfl))) (sv_nm 1 (pv 1)) (by rfl)) (se_ix (ix_A hr.u1) fl_item (sv_nm 2 (pv 2)) (SE.v se_int) (by intro _ _; rfl)) (se_ix (ix_A hr.u1) fl_item (sv_nm 2 (pv 2)) (SE.v se_int) (by intro _ _; rfl))))))) T.fr_sorted (by decide +kernel)))
    sss_nil)
theorem sc__law_within : FnScope (["web", "lot", "room", "other"] : List Str) (["web", "lot", "room"] : List Str) (defScope s__law_within) := ⟨rfl, rfl, rfl, by decide, rfl, by decide +kernel, by decide +kernel⟩
theorem bi__law_within (T : Fc P w K mg pl) : Binds K pl.d__law_within (["web", "lot", "room"] : List Str) [] := T.F__law_within.binds fun _ _ _ _ _ _ us hl => match us, hl with | [_, _, _], _ => rfl
theorem ok__law_within (T : Fc P w K mg pl) : Cal P w K mg base 2 pl.a__law_within pl.d__law_within (["web", "lot", "room"] : List Str) 3 m__law_within := by
  refine ⟨okF (k := 1) T.F__law_within sc__law_within fun cdv A outer s H E hr => ?_, bi__law_within T, T.F__law_within.kp⟩
  have nd := sc__law_within.nd
  exact (sss_cons (ss_ret (SE.f (se_callB (g := lenD) cr_lenA fl_len (SE.v (SF.e (sf_lc (own := [("other", 3)]) rfl nd (si_seq (SF.e (sf_call (ok__law_around T) (hr.mono (by omega)) T.g__law_around (aa_cons (a1_val (se_nm 0 (pv 0))) (aa_cons (a1_val (se_nm 2 (pv 2))) aa_nil))))) (by kernel_rfl) (by decide) (fun _ _ _ _ _ => (sg_nm (i := 3) (pg_name nd rfl (by first | exact Or.inl rfl | exact Or.inr rfl)))) (fun _ _ _ _ _ => (sts_one (st_cmp (g := inD) (op_inA hr.u65) fl_in (sv_nm 3 (pv 3)) (sv_nm 1 (pv 1)) (by rfl)))) (fun _ _ _ _ _ => (se_nm 3 (pv 3)))))) T.fr_len (by decide +kernel))))
    sss_nil)
theorem sc__law_fault : FnScope (["web", "number", "thing", "some", "few", "at", "room"] : List Str) (["web", "number", "thing"] : List Str) (defScope s__law_fault) := ⟨rfl, rfl, rfl, by decide, rfl, by decide +kernel, by decide +kernel⟩
theorem bi__law_fault (T : Fc P w K mg pl) : Binds K pl.d__law_fault (["web", "number", "thing"] : List Str) [] := T.F__law_fault.binds fun _ _ _ _ _ _ us hl => match us, hl with | [_, _, _], _ => rfl
theorem ok__law_fault (T : Fc P w K mg pl) : Cal P w K mg base 3 pl.a__law_fault pl.d__law_fault (["web", "number", "thing"] : List Str) 3 m__law_fault := by
  refine ⟨okF (k := 2) T.F__law_fault sc__law_fault fun cdv A outer s H E hr => ?_, bi__law_fault T, T.F__law_fault.kp⟩
  have nd := sc__law_fault.nd
  exact (sss_cons (ss_if (SW.t (sw_or (st_not (st_val (se_isiT T.ins (sv_nm 2 (pv 2)) (pty_cons (pe_tyb T.fr_list (by decide +kernel)) (pty_cons (pe_tyb T.fr_tuple (by decide +kernel)) pty_nil)) (by decide) (.cons (.b "list") (.cons (.b "tuple") .nil)) T.fr_isinstance rfl))) (sw_or (st_cmp (g := neD) (op_neA hr.units) fl_ne (SE.v (se_callB (g := lenD) cr_lenA fl_len (sv_nm 2 (pv 2)) T.fr_len (by decide +kernel))) (SE.v se_int) (by rfl)) (sw_or (st_not (st_val (se_isi T.ins (SE.v (se_ix (ix_A hr.u1) fl_item (sv_nm 2 (pv 2)) (SE.v se_int) (by intro _ _; rfl))) (pe_tyb T.fr_str (by decide +kernel)) (.b "str") T.fr_isinstance rfl))) (sw_or1 (st_cmp (g := ninD) (op_ninA hr.u65) fl_nin (SE.v (se_ix (ix_A hr.u1) fl_item (sv_nm 2 (pv 2)) (SE.v se_int) (by intro _ _; rfl))) (SE.v (se_tup (sa_cons se_str (sa_cons se_str sa_nil)))) (by rfl))))))) (sss_cons (ss_ret (SE.f (se_tup (sa_cons se_str sa_nil))))
    sss_nil) sss_nil)
    (sss_cons (ss_set (i := 3) (SE.f (se_ix (ix_A hr.u1) fl_item (sv_nm 2 (pv 2)) (SE.v se_int) (by intro _ _; rfl))) nd rfl (by first | exact Or.inl rfl | exact Or.inr rfl))
    (sss_cons (ss_if (st_cmp (g := eqD) (op_eqA hr.units) fl_eq (SE.v (se_ix (ix_A hr.u1) fl_item (sv_nm 2 (pv 2)) (SE.v se_int) (by intro _ _; rfl))) (SE.v se_str) (by rfl)) (sss_cons (ss_if (SW.t (sw_or (st_not (st_val (SF.e (sf_call (ok__law_are_rooms T) (hr.mono (by omega)) T.g__law_are_rooms (aa_cons (a1_val (se_nm 0 (pv 0))) (aa_cons (a1_val (se_nm 3 (pv 3))) aa_nil)))))) (sw_or1 (st_cmp (g := neD) (op_neA hr.units) fl_ne (SE.v (SF.e (sf_callBT (g := sortedD) (cr_sortA rfl) fl_sorted (sv_nm 3 (pv 3)) T.fr_sorted (by decide +kernel)))) (SE.v (se_ix (ix_A hr.u1) fl_item (sv_nm 0 (pv 0)) (SE.v se_int) (by intro _ _; rfl))) (by rfl))))) (sss_cons (ss_ret (SE.f (se_tup (sa_cons se_str sa_nil))))
    sss_nil) sss_nil)
    (sss_cons (ss_for rfl PassesOwn.never (si_enum (se_nm 3 (pv 3)) T.fr_enumerate) (sg_tup (k := 2) rfl (sgs_cons (sg_nm (i := 5) (pg_name nd rfl (by first | exact Or.inl rfl | exact Or.inr rfl))) (sgs_cons (sg_nm (i := 6) (pg_name nd rfl (by first | exact Or.inl rfl | exact Or.inr rfl))) sgs_nil))) (sss_cons (ss_if (st_cmp (g := gtD) op_gtA fl_ord (SE.v (SF.e (sf_call (ok__law_within T) (hr.mono (by omega)) T.g__law_within (aa_cons (a1_val (se_nm 0 (pv 0))) (aa_cons (a1_val (SF.e (sf_slice (sv_nm 3 (pv 3)) so_none (so_some (se_nm 5 (pv 5)))))) (aa_cons (a1_val (se_nm 6 (pv 6))) aa_nil)))))) (sv_nm 1 (pv 1)) (by rfl)) (sss_cons (ss_ret (SE.f (se_tup (sa_cons se_str (sa_cons (se_nm 6 (pv 6)) sa_nil)))))
    sss_nil) sss_nil)
    sss_nil))
    (sss_cons (ss_ret (SE.f se_non))
    sss_nil))) sss_nil)
    (sss_cons (ss_if (SW.t (sw_or (st_not (st_val (SF.e (sf_call (ok__law_is_lot T) (hr.mono (by omega)) T.g__law_is_lot (aa_cons (a1_val (se_nm 0 (pv 0))) (aa_cons (a1_val (se_nm 3 (pv 3))) aa_nil)))))) (sw_or1 (st_cmp (g := eqD) (op_eqA hr.units) fl_eq (SE.v (se_callB (g := lenD) cr_lenA fl_len (sv_nm 3 (pv 3)) T.fr_len (by decide +kernel))) (SE.v se_int) (by rfl))))) (sss_cons (ss_ret (SE.f (se_tup (sa_cons se_str sa_nil))))
    sss_nil) sss_nil)
    (sss_cons (ss_setLc (i := 4) (own := [("room", 6)]) rfl nd rfl rfl rfl (by decide) (by decide) (si_seq (se_nm 3 (pv 3))) (by kernel_rfl) (by decide) (fun _ _ _ _ _ => (sg_nm (i := 6) (pg_name nd rfl (by first | exact Or.inl rfl | exact Or.inr rfl)))) (fun _ _ _ _ _ => (sts_one (st_cmp (g := leD) op_leA fl_ord (SE.v (SF.e (sf_call (ok__law_within T) (hr.mono (by omega)) T.g__law_within (aa_cons (a1_val (se_nm 0 (pv 0))) (aa_cons (a1_val (se_nm 3 (pv 3))) (aa_cons (a1_val (se_nm 6 (pv 6))) aa_nil)))))) (sv_nm 1 (pv 1)) (by rfl)))) (fun _ _ _ _ _ => (se_nm 6 (pv 6))))
    (sss_cons (ss_ret (SE.f (se_if (st_cmp (g := neD) (op_neA hr.units) fl_ne (sv_nm 4 (pv 4)) (SE.v (SF.e (sf_lst sa_nil))) (by rfl)) (se_tup (sa_cons se_str (sa_cons (se_ix (ix_A hr.u1) fl_item (sv_nm 4 (pv 4)) (SE.v se_int) (by intro _ _; rfl)) sa_nil))) se_non)))
    sss_nil))))))
theorem sc_is_list : FnScope (["thing"] : List Str) (["thing"] : List Str) (defScope s_is_list) := ⟨rfl, rfl, rfl, by decide, rfl, by decide +kernel, by decide +kernel⟩
theorem bi_is_list (T : Fc P w K mg pl) : Binds K pl.d_is_list (["thing"] : List Str) [] := T.F_is_list.binds fun _ _ _ _ _ _ us hl => match us, hl with | [_], _ => rfl
theorem ok_is_list (T : Fc P w K mg pl) : Cal P w K mg base 1 pl.a_is_list pl.d_is_list (["thing"] : List Str) 1 m_is_list := by
  refine ⟨okF (k := 0) T.F_is_list sc_is_list fun cdv A outer s H E hr => ?_, bi_is_list T, T.F_is_list.kp⟩
  have nd := sc_is_list.nd
  exact (sss_cons (ss_ret (SE.f (se_isiT T.ins (sv_nm 0 (pv 0)) (pty_cons (pe_tyb T.fr_list (by decide +kernel)) (pty_cons (pe_tyb T.fr_tuple (by decide +kernel)) pty_nil)) (by decide) (.cons (.b "list") (.cons (.b "tuple") .nil)) T.fr_isinstance rfl)))
    sss_nil)
theorem sc_is_row : FnScope (["thing", "many"] : List Str) (["thing", "many"] : List Str) (defScope s_is_row) := ⟨rfl, rfl, rfl, by decide, rfl, by decide +kernel, by decide +kernel⟩
theorem bi_is_row (T : Fc P w K mg pl) : Binds K pl.d_is_row (["thing", "many"] : List Str) [] := T.F_is_row.binds fun _ _ _ _ _ _ us hl => match us, hl with | [_, _], _ => rfl
theorem ok_is_row (T : Fc P w K mg pl) : Cal P w K mg base 2 pl.a_is_row pl.d_is_row (["thing", "many"] : List Str) 2 m_is_row := by
  refine ⟨okF (k := 1) T.F_is_row sc_is_row fun cdv A outer s H E hr => ?_, bi_is_row T, T.F_is_row.kp⟩
  have nd := sc_is_row.nd
  exact (sss_cons (ss_ret (SE.f (se_and (SF.e (sf_call (ok_is_list T) (hr.mono (by omega)) T.g_is_list (aa_cons (a1_val (se_nm 0 (pv 0))) aa_nil))) (se_one (se_cmp (g := eqD) (op_eqA hr.units) fl_eq (SE.v (se_callB (g := lenD) cr_lenA fl_len (sv_nm 0 (pv 0)) T.fr_len (by decide +kernel))) (sv_nm 1 (pv 1)) (by rfl))))))
    sss_nil)
theorem sc_Web_is_wire : FnScope (["self", "thing", "room"] : List Str) (["self", "thing"] : List Str) (defScope s_Web_is_wire) := ⟨rfl, rfl, rfl, by decide, rfl, by decide +kernel, by decide +kernel⟩
theorem bi_Web_is_wire (T : Fc P w K mg pl) : Binds K pl.d_Web_is_wire (["self", "thing"] : List Str) [] := T.F_Web_is_wire.binds fun _ _ _ _ _ _ us hl => match us, hl with | [_, _], _ => rfl
theorem ok_Web_is_wire (T : Fc P w K mg pl) : Cal P w K mg base 3 pl.a_Web_is_wire pl.d_Web_is_wire (["self", "thing"] : List Str) 2 m_Web_is_wire := by
  refine ⟨okF (k := 2) T.F_Web_is_wire sc_Web_is_wire fun cdv A outer s H E hr => ?_, bi_Web_is_wire T, T.F_Web_is_wire.kp⟩
  have nd := sc_Web_is_wire.nd
  exact (sss_cons (ss_if (SW.t (sw_or (st_not (st_val (SF.e (sf_call (ok_is_row T) (hr.mono (by omega)) T.g_is_row (aa_cons (a1_val (se_nm 1 (pv 1))) (aa_cons (a1_val se_int) aa_nil)))))) (sw_or1 (st_not (st_val (se_callB (g := allD) (cr_all rfl) fl_all (SE.v (SF.e (sf_lc (own := [("room", 2)]) rfl nd (si_seq (se_nm 1 (pv 1))) (by kernel_rfl) (by decide) (fun _ _ _ _ _ => (sg_nm (i := 2) (pg_name nd rfl (by first | exact Or.inl rfl | exact Or.inr rfl)))) (fun _ _ _ _ _ => sts_nil) (fun _ _ _ _ _ => (se_and (se_isi T.ins (sv_nm 2 (pv 2)) (pe_tyb T.fr_str (by decide +kernel)) (.b "str") T.fr_isinstance rfl) (se_one (se_cmp (g := inD) (op_inA hr.u65) fl_in (sv_nm 2 (pv 2)) (SE.v (se_fld (c := "Web") (sv_nm 0 (pv 0)) T.gC_Web T.cl_Web (T.na_Web _ (by decide)))) (by rfl)))))))) T.fr_all (by decide +kernel))))))) (sss_cons (ss_ret (SE.f se_bl))
    sss_nil) sss_nil)
    (sss_cons (ss_ret (SE.f (se_cmp (g := neD) (op_neA hr.units) fl_ne (SE.v (se_ix (ix_A hr.u1) fl_item (sv_nm 1 (pv 1)) (SE.v se_int) (by intro _ _; rfl))) (SE.v (se_ix (ix_A hr.u1) fl_item (sv_nm 1 (pv 1)) (SE.v se_int) (by intro _ _; rfl))) (by rfl))))
    sss_nil))
theorem sc_is_name : FnScope (["thing", "sign"] : List Str) (["thing"] : List Str) (defScope s_is_name) := ⟨rfl, rfl, rfl, by decide, rfl, by decide +kernel, by decide +kernel⟩
theorem bi_is_name (T : Fc P w K mg pl) : Binds K pl.d_is_name (["thing"] : List Str) [] := T.F_is_name.binds fun _ _ _ _ _ _ us hl => match us, hl with | [_], _ => rfl
theorem ok_is_name (T : Fc P w K mg pl) : Cal P w K mg base 1 pl.a_is_name pl.d_is_name (["thing"] : List Str) 1 m_is_name := by
  refine ⟨okF (k := 0) T.F_is_name sc_is_name fun cdv A outer s H E hr => ?_, bi_is_name T, T.F_is_name.kp⟩
  have nd := sc_is_name.nd
  exact (sss_cons (ss_ret (SE.f (se_and (se_isi T.ins (sv_nm 0 (pv 0)) (pe_tyb T.fr_str (by decide +kernel)) (.b "str") T.fr_isinstance rfl) (se_and (se_chain (g := ltD) (g' := ltD) op_ltA fl_ord op_ltA fl_ord se_int (se_callB (g := lenD) cr_lenA fl_len (sv_nm 0 (pv 0)) T.fr_len (by decide +kernel)) se_int) (se_one (se_callB (g := allD) (cr_all rfl) fl_all (SE.v (SF.e (sf_lc (own := [("sign", 1)]) rfl nd (si_seq (se_nm 0 (pv 0))) (by kernel_rfl) (by decide) (fun _ _ _ _ _ => (sg_nm (i := 1) (pg_name nd rfl (by first | exact Or.inl rfl | exact Or.inr rfl)))) (fun _ _ _ _ _ => sts_nil) (fun _ _ _ _ _ => (se_cmp (g := inD) (op_inA hr.u65) fl_in (sv_nm 1 (pv 1)) (SE.v (let ⟨_, h, r⟩ := T.ls_LETTERS; se_globS h r)) (by rfl)))))) T.fr_all (by decide +kernel)))))))
    sss_nil)
theorem sc_first_bad_room : FnScope (["rooms", "known", "index", "room"] : List Str) (["rooms"] : List Str) (defScope s_first_bad_room) := ⟨rfl, rfl, rfl, by decide, rfl, by decide +kernel, by decide +kernel⟩
theorem bi_first_bad_room (T : Fc P w K mg pl) : Binds K pl.d_first_bad_room (["rooms"] : List Str) [] := T.F_first_bad_room.binds fun _ _ _ _ _ _ us hl => match us, hl with | [_], _ => rfl
theorem ok_first_bad_room (T : Fc P w K mg pl) : Cal P w K mg base 2 pl.a_first_bad_room pl.d_first_bad_room (["rooms"] : List Str) 1 m_first_bad_room := by
  refine ⟨okF (k := 1) T.F_first_bad_room sc_first_bad_room fun cdv A outer s H E hr => ?_, bi_first_bad_room T, T.F_first_bad_room.kp⟩
  have nd := sc_first_bad_room.nd
  exact (sss_cons (ss_set (i := 1) sf_dicK nd rfl (by first | exact Or.inl rfl | exact Or.inr rfl))
    (sss_cons (ss_if (SW.t (sw_or (st_not (st_val (SF.e (sf_call (ok_is_list T) (hr.mono (by omega)) T.g_is_list (aa_cons (a1_val (se_nm 0 (pv 0))) aa_nil))))) (sw_or1 (st_cmp (g := eqD) (op_eqA hr.units) fl_eq (SE.v (se_callB (g := lenD) cr_lenA fl_len (sv_nm 0 (pv 0)) T.fr_len (by decide +kernel))) (SE.v se_int) (by rfl))))) (sss_cons (ss_ret (SE.f se_int))
    sss_nil) sss_nil)
    (sss_cons (ss_for rfl PassesOwn.never (si_enum (se_nm 0 (pv 0)) T.fr_enumerate) (sg_tup (k := 2) rfl (sgs_cons (sg_nm (i := 2) (pg_name nd rfl (by first | exact Or.inl rfl | exact Or.inr rfl))) (sgs_cons (sg_nm (i := 3) (pg_name nd rfl (by first | exact Or.inl rfl | exact Or.inr rfl))) sgs_nil))) (sss_cons (ss_if (SW.t (sw_or (st_not (st_val (SF.e (sf_call (ok_is_name T) (hr.mono (by omega)) T.g_is_name (aa_cons (a1_val (se_nm 3 (pv 3))) aa_nil))))) (sw_or1 (st_cmp (g := inD) (op_inA hr.u65) fl_in (sv_nm 3 (pv 3)) (sv_nm 1 (pv 1)) (by rfl))))) (sss_cons (ss_ret (SE.f (se_nm 2 (pv 2))))
    sss_nil) sss_nil)
    (sss_cons (ss_put hr.u1 (pv 1) (se_nm 3 (pv 3)) se_bl)
    sss_nil)))
    (sss_cons (ss_ret (SE.f se_non))
    sss_nil))))
theorem sc_Web___init__ : FnScope (["self", "rooms", "wires", "wrong", "known", "index", "wire", "around", "one", "other", "room", "others"] : List Str) (["self", "rooms", "wires"] : List Str) (defScope s_Web___init__) := ⟨rfl, rfl, rfl, by decide, rfl, by decide +kernel, by decide +kernel⟩
theorem bi_Web___init__ (T : Fc P w K mg pl) : Binds K pl.d_Web___init__ (["self", "rooms", "wires"] : List Str) [] := T.F_Web___init__.binds fun _ _ _ _ _ _ us hl => match us, hl with | [_, _, _], _ => rfl
theorem ok_Web___init__ (T : Fc P w K mg pl) : Cal P w K mg base 4 pl.a_Web___init__ pl.d_Web___init__ (["self", "rooms", "wires"] : List Str) 3 m_Web___init__ := by
  refine ⟨okF (k := 3) T.F_Web___init__ sc_Web___init__ fun cdv A outer s H E hr => ?_, bi_Web___init__ T, T.F_Web___init__.kp⟩
  have nd := sc_Web___init__.nd
  exact (sss_cons (ss_set (i := 3) (SE.f (SF.e (sf_call (ok_first_bad_room T) (hr.mono (by omega)) T.g_first_bad_room (aa_cons (a1_val (se_nm 1 (pv 1))) aa_nil)))) nd rfl (by first | exact Or.inl rfl | exact Or.inr rfl))
    (sss_cons (ss_if (st_cmp (g := notND) op_notN fl_notN (sv_nm 3 (pv 3)) (SE.v se_non) (by rfl)) (sss_cons ss_never
    sss_nil) sss_nil)
    (sss_cons (ss_fld (c := "Web") (pv 0) (SF.e (sf_callBT (g := sortedD) (cr_sortA rfl) fl_sorted (sv_nm 1 (pv 1)) T.fr_sorted (by decide +kernel))) T.gC_Web T.cl_Web (T.na_Web _ (by decide)))
    (sss_cons (ss_if (st_not (st_val (SF.e (sf_call (ok_is_list T) (hr.mono (by omega)) T.g_is_list (aa_cons (a1_val (se_nm 2 (pv 2))) aa_nil))))) (sss_cons ss_never
    sss_nil) sss_nil)
    (sss_cons (ss_set (i := 4) sf_dicT nd rfl (by first | exact Or.inl rfl | exact Or.inr rfl))
    (sss_cons (ss_for rfl PassesOwn.never (si_enum (se_nm 2 (pv 2)) T.fr_enumerate) (sg_tup (k := 2) rfl (sgs_cons (sg_nm (i := 5) (pg_name nd rfl (by first | exact Or.inl rfl | exact Or.inr rfl))) (sgs_cons (sg_nm (i := 6) (pg_name nd rfl (by first | exact Or.inl rfl | exact Or.inr rfl))) sgs_nil))) (sss_cons (ss_if (SW.t (sw_or (st_not (st_val (SF.e (sf_meth (a1_pk 0 (pv 0)) T.gC_Web T.cl_Web T.me_Web_is_wire (ok_Web_is_wire T) (hr.mono (by omega)) (aa_cons (a1_val (se_nm 6 (pv 6))) aa_nil))))) (sw_or1 (st_cmp (g := inD) (op_inA hr.u65) fl_in (SE.v (se_tup (sa_cons (se_callB (g := minA) (cr_minA rfl hr.units) fl_minA (sv_nm 6 (pv 6)) T.fr_min (by decide +kernel)) (sa_cons (se_callB (g := maxA) (cr_maxA rfl hr.units) fl_maxA (sv_nm 6 (pv 6)) T.fr_max (by decide +kernel)) sa_nil)))) (sv_nm 4 (pv 4)) (by rfl))))) (sss_cons ss_never
    sss_nil) sss_nil)
    (sss_cons (ss_put hr.u1 (pv 4) (se_tup (sa_cons (se_callB (g := minA) (cr_minA rfl hr.units) fl_minA (sv_nm 6 (pv 6)) T.fr_min (by decide +kernel)) (sa_cons (se_callB (g := maxA) (cr_maxA rfl hr.units) fl_maxA (sv_nm 6 (pv 6)) T.fr_max (by decide +kernel)) sa_nil))) se_bl)
    sss_nil)))
    (sss_cons (ss_fld (c := "Web") (pv 0) (SF.e (sf_callBT (g := sortedD) (cr_sortA rfl) fl_sorted (sv_nm 4 (pv 4)) T.fr_sorted (by decide +kernel))) T.gC_Web T.cl_Web (T.na_Web _ (by decide)))
    (sss_cons (ss_setDol (i := 7) (own := [("room", 10)]) rfl nd rfl rfl rfl (by decide) (by decide) (si_seq (se_fld (c := "Web") (sv_nm 0 (pv 0)) T.gC_Web T.cl_Web (T.na_Web _ (by decide)))) (by kernel_rfl) (by decide) (fun _ _ _ _ _ => (sg_nm (i := 10) (pg_name nd rfl (by first | exact Or.inl rfl | exact Or.inr rfl)))) (fun _ _ _ _ _ => (se_nm 10 (pv 10))))
    (sss_cons (ss_for rfl PassesOwn.never (si_seq (se_fld (c := "Web") (sv_nm 0 (pv 0)) T.gC_Web T.cl_Web (T.na_Web _ (by decide)))) (sg_tup (k := 2) rfl (sgs_cons (sg_nm (i := 8) (pg_name nd rfl (by first | exact Or.inl rfl | exact Or.inr rfl))) (sgs_cons (sg_nm (i := 9) (pg_name nd rfl (by first | exact Or.inl rfl | exact Or.inr rfl))) sgs_nil))) (sss_cons (ss_expr (se_dolApp hr.u1 (pv 7) (se_nm 8 (pv 8)) (by intro _ _; rfl) (pv 9)))
    (sss_cons (ss_expr (se_dolApp hr.u1 (pv 7) (se_nm 9 (pv 9)) (by intro _ _; rfl) (pv 8)))
    sss_nil)))
    (sss_cons (ss_fld (c := "Web") (pv 0) (SF.e (sf_dc (own := [("room", 10), ("others", 11)]) rfl nd (si_items (se_dolNz 7 (pv 7)) fun a h1 h2 => pi_items ((se_dolNz 7 (pv 7)).run a h1 h2)) (by kernel_rfl) (by decide) (fun _ _ _ _ _ => (sg_tup (k := 2) rfl (sgs_cons (sg_nm (i := 10) (pg_name nd rfl (by first | exact Or.inl rfl | exact Or.inr rfl))) (sgs_cons (sg_nm (i := 11) (pg_name nd rfl (by first | exact Or.inl rfl | exact Or.inr rfl))) sgs_nil)))) (fun _ _ _ _ _ => sts_nil) (fun _ _ _ _ _ => (se_nm 10 (pv 10))) (fun _ _ _ _ _ => (SF.e (sf_callBT (g := sortedD) (cr_sortA rfl) fl_sorted (sv_nm 11 (pv 11)) T.fr_sorted (by decide +kernel)))))) T.gC_Web T.cl_Web (T.na_Web _ (by decide)))
    sss_nil))))))))))
theorem sc__law_loose : FnScope (["stream", "thing", "some", "one"] : List Str) (["stream", "thing"] : List Str) (defScope s__law_loose) := ⟨rfl, rfl, rfl, by decide, rfl, by decide +kernel, by decide +kernel⟩
theorem bi__law_loose (T : Fc P w K mg pl) : Binds K pl.d__law_loose (["stream", "thing"] : List Str) [] := T.F__law_loose.binds fun _ _ _ _ _ _ us hl => match us, hl with | [_, _], _ => rfl
theorem ok__law_loose (T : Fc P w K mg pl) : ∀ c : Nat, Cal P w K mg base (2 + c) pl.a__law_loose pl.d__law_loose (["stream", "thing"] : List Str) 2 (m__law_loose c)
  | 0 => ⟨(okF (k := 1) (m := sFail) T.F__law_loose sc__law_loose fun cdv A outer s H E hr => sss_fail).mono (by omega), bi__law_loose T, T.F__law_loose.kp⟩
  | c + 1 => by
    have ih := ok__law_loose T c
    refine ⟨okF (k := 2 + c) T.F__law_loose sc__law_loose fun cdv A outer s H E hr => ?_, bi__law_loose T, T.F__law_loose.kp⟩
    have nd := sc__law_loose.nd
    exact (sss_cons (ss_if (st_val (se_isiT T.ins (sv_nm 1 (pv 1)) (pty_cons (pe_tyb T.fr_list (by decide +kernel)) (pty_cons (pe_tyb T.fr_tuple (by decide +kernel)) pty_nil)) (by decide) (.cons (.b "list") (.cons (.b "tuple") .nil)) T.fr_isinstance rfl)) (sss_cons (ss_setLc (i := 2) (own := [("one", 3)]) rfl nd rfl rfl rfl (by decide) (by decide) (si_seq (se_nm 1 (pv 1))) (by kernel_rfl) (by decide) (fun _ _ _ _ _ => (sg_nm (i := 3) (pg_name nd rfl (by first | exact Or.inl rfl | exact Or.inr rfl)))) (fun _ _ _ _ _ => sts_nil) (fun _ _ _ _ _ => (SF.e (sf_call ih (hr.mono (by omega)) T.g__law_loose (aa_cons (a1_rf 0 (pv 0)) (aa_cons (a1_val (se_nm 3 (pv 3))) aa_nil))))))
    (sss_cons (ss_ret (SE.f (se_if (st_cmp (g := eqD) (op_eqA hr.units) fl_eq (SE.v (SF.e (sf_call (ok__law_draw T) (hr.mono (by omega)) T.g__law_draw (aa_cons (a1_rf 0 (pv 0)) (aa_cons (a1_val se_int) aa_nil))))) (SE.v se_int) (by rfl)) (se_nz 2 (pv 2)) (SF.e (sf_callTy (g := tupleD) call_tuple_of fl_tuple (sv_nm 2 (pv 2)) T.fr_tuple (by decide +kernel))))))
    sss_nil)) sss_nil)
    (sss_cons (ss_ret (SE.f (se_nm 1 (pv 1))))
    sss_nil))
theorem sc__law_mixed : FnScope (["stream", "things", "left", "found", "k"] : List Str) (["stream", "things"] : List Str) (defScope s__law_mixed) := ⟨rfl, rfl, rfl, by decide, rfl, by decide +kernel, by decide +kernel⟩
theorem bi__law_mixed (T : Fc P w K mg pl) : Binds K pl.d__law_mixed (["stream", "things"] : List Str) [] := T.F__law_mixed.binds fun _ _ _ _ _ _ us hl => match us, hl with | [_, _], _ => rfl
theorem ok__law_mixed (T : Fc P w K mg pl) : Cal P w K mg base 2 pl.a__law_mixed pl.d__law_mixed (["stream", "things"] : List Str) 2 m__law_mixed := by
  refine ⟨okF (k := 1) T.F__law_mixed sc__law_mixed fun cdv A outer s H E hr => ?_, bi__law_mixed T, T.F__law_mixed.kp⟩
  have nd := sc__law_mixed.nd
  exact (sss_cons (ss_par (i := 2) (j := 3) rfl nd rfl rfl (by decide) rfl rfl (sfs_cons (sf_callTyT (g := listTD) (cr_listT rfl) fl_listT (sv_nm 1 (pv 1)) T.fr_list (by decide +kernel)) (sfs_cons (sf_lst sa_nil) sfs_nil)))
    (sss_cons (ss_for rfl PassesOwn.never (si_range1 (se_callB (g := lenD) cr_lenA fl_len (sv_nm 2 (pv 2)) T.fr_len (by decide +kernel)) T.fr_range) (sg_nm (i := 4) (pg_name nd rfl (by first | exact Or.inl rfl | exact Or.inr rfl))) (sss_cons (ss_expr (se_lm PySem.F.slot_list_append PySem.F.type_list_append mt_append lm_append (pv 3) (sa_cons (se_lm PySem.F.slot_list_pop PySem.F.type_list_pop mt_popAt lm_popAt (pv 2) (sa_cons (SF.e (sf_call (ok__law_draw T) (hr.mono (by omega)) T.g__law_draw (aa_cons (a1_rf 0 (pv 0)) (aa_cons (a1_val (se_callB (g := lenD) cr_lenA fl_len (sv_nm 2 (pv 2)) T.fr_len (by decide +kernel))) aa_nil)))) sa_nil)) sa_nil)))
    sss_nil))
    (sss_cons (ss_ret (sf_mv 3 (pv 3)))
    sss_nil)))
theorem sc__law_made : FnScope (["stream", "web", "wires", "wire"] : List Str) (["stream", "web"] : List Str) (defScope s__law_made) := ⟨rfl, rfl, rfl, by decide, rfl, by decide +kernel, by decide +kernel⟩
theorem bi__law_made (T : Fc P w K mg pl) : Binds K pl.d__law_made (["stream", "web"] : List Str) [] := T.F__law_made.binds fun _ _ _ _ _ _ us hl => match us, hl with | [_, _], _ => rfl
theorem ok__law_made (T : Fc P w K mg pl) : Cal P w K mg base 11 pl.a__law_made pl.d__law_made (["stream", "web"] : List Str) 2 m__law_made := by
  refine ⟨okF (k := 10) T.F__law_made sc__law_made fun cdv A outer s H E hr => ?_, bi__law_made T, T.F__law_made.kp⟩
  have nd := sc__law_made.nd
  exact (sss_cons (ss_setLc (i := 2) (own := [("wire", 3)]) rfl nd rfl rfl rfl (by decide) (by decide) (si_seq (se_ix (ix_A hr.u1) fl_item (sv_nm 1 (pv 1)) (SE.v se_int) (by intro _ _; rfl))) (by kernel_rfl) (by decide) (fun _ _ _ _ _ => (sg_nm (i := 3) (pg_name nd rfl (by first | exact Or.inl rfl | exact Or.inr rfl)))) (fun _ _ _ _ _ => sts_nil) (fun _ _ _ _ _ => (SF.e (sf_call (ok__law_loose T 8) (hr.mono (by omega)) T.g__law_loose (aa_cons (a1_rf 0 (pv 0)) (aa_cons (a1_val (SF.e (sf_callTy (g := tupleD) call_tuple_of fl_tuple (SE.v (SF.e (sf_call (ok__law_mixed T) (hr.mono (by omega)) T.g__law_mixed (aa_cons (a1_rf 0 (pv 0)) (aa_cons (a1_val (SF.e (sf_callTyT (g := listTD) (cr_listT rfl) fl_listT (sv_nm 3 (pv 3)) T.fr_list (by decide +kernel)))) aa_nil))))) T.fr_tuple (by decide +kernel)))) aa_nil))))))
    (sss_cons (ss_ret (sf_make T.mk_Web (ok_Web___init__ T) (hr.mono (by omega)) T.gC_Web rfl (aa_cons (a1_val (SF.e (sf_call (ok__law_loose T 8) (hr.mono (by omega)) T.g__law_loose (aa_cons (a1_rf 0 (pv 0)) (aa_cons (a1_val (SF.e (sf_call (ok__law_mixed T) (hr.mono (by omega)) T.g__law_mixed (aa_cons (a1_rf 0 (pv 0)) (aa_cons (a1_val (se_ix (ix_A hr.u1) fl_item (sv_nm 1 (pv 1)) (SE.v se_int) (by intro _ _; rfl))) aa_nil))))) aa_nil))))) (aa_cons (a1_val (SF.e (sf_call (ok__law_loose T 8) (hr.mono (by omega)) T.g__law_loose (aa_cons (a1_rf 0 (pv 0)) (aa_cons (a1_val (SF.e (sf_call (ok__law_mixed T) (hr.mono (by omega)) T.g__law_mixed (aa_cons (a1_rf 0 (pv 0)) (aa_cons (a1_val (se_nz 2 (pv 2))) aa_nil))))) aa_nil))))) aa_nil))))
    sss_nil))
theorem sc__law_pick : FnScope (["stream", "things"] : List Str) (["stream", "things"] : List Str) (defScope s__law_pick) := ⟨rfl, rfl, rfl, by decide, rfl, by decide +kernel, by decide +kernel⟩
theorem bi__law_pick (T : Fc P w K mg pl) : Binds K pl.d__law_pick (["stream", "things"] : List Str) [] := T.F__law_pick.binds fun _ _ _ _ _ _ us hl => match us, hl with | [_, _], _ => rfl
theorem ok__law_pick (T : Fc P w K mg pl) : Cal P w K mg base 2 pl.a__law_pick pl.d__law_pick (["stream", "things"] : List Str) 2 m__law_pick := by
  refine ⟨okF (k := 1) T.F__law_pick sc__law_pick fun cdv A outer s H E hr => ?_, bi__law_pick T, T.F__law_pick.kp⟩
  have nd := sc__law_pick.nd
  exact (sss_cons (ss_ret (SE.f (se_ix (ix_A hr.u1) fl_item (sv_nm 1 (pv 1)) (SE.v (SF.e (sf_call (ok__law_draw T) (hr.mono (by omega)) T.g__law_draw (aa_cons (a1_rf 0 (pv 0)) (aa_cons (a1_val (se_callB (g := lenD) cr_lenA fl_len (sv_nm 1 (pv 1)) T.fr_len (by decide +kernel))) aa_nil))))) (by intro _ _; rfl))))
    sss_nil)
theorem sc__law_same : FnScope (["found", "due", "mine", "theirs"] : List Str) (["found", "due"] : List Str) (defScope s__law_same) := ⟨rfl, rfl, rfl, by decide, rfl, by decide +kernel, by decide +kernel⟩
theorem bi__law_same (T : Fc P w K mg pl) : Binds K pl.d__law_same (["found", "due"] : List Str) [] := T.F__law_same.binds fun _ _ _ _ _ _ us hl => match us, hl with | [_, _], _ => rfl
theorem ok__law_same (T : Fc P w K mg pl) : ∀ c : Nat, Cal P w K mg base (1 + c) pl.a__law_same pl.d__law_same (["found", "due"] : List Str) 2 (m__law_same c)
  | 0 => ⟨(okF (k := 0) (m := sFail) T.F__law_same sc__law_same fun cdv A outer s H E hr => sss_fail).mono (by omega), bi__law_same T, T.F__law_same.kp⟩
  | c + 1 => by
    have ih := ok__law_same T c
    refine ⟨okF (k := 1 + c) T.F__law_same sc__law_same fun cdv A outer s H E hr => ?_, bi__law_same T, T.F__law_same.kp⟩
    have nd := sc__law_same.nd
    exact (sss_cons (ss_if (st_val (se_isiT T.ins (sv_nm 1 (pv 1)) (pty_cons (pe_tyb T.fr_list (by decide +kernel)) (pty_cons (pe_tyb T.fr_tuple (by decide +kernel)) pty_nil)) (by decide) (.cons (.b "list") (.cons (.b "tuple") .nil)) T.fr_isinstance rfl)) (sss_cons (ss_if (SW.t (sw_or (st_cmp (g := neD) (op_neA hr.units) fl_ne (SE.v (se_isi T.ins (sv_nm 0 (pv 0)) (pe_tyb T.fr_list (by decide +kernel)) (.b "list") T.fr_isinstance rfl)) (SE.v (se_isi T.ins (sv_nm 1 (pv 1)) (pe_tyb T.fr_list (by decide +kernel)) (.b "list") T.fr_isinstance rfl)) (by rfl)) (sw_or1 (st_cmp (g := neD) (op_neA hr.units) fl_ne (SE.v (se_isi T.ins (sv_nm 0 (pv 0)) (pe_tyb T.fr_tuple (by decide +kernel)) (.b "tuple") T.fr_isinstance rfl)) (SE.v (se_isi T.ins (sv_nm 1 (pv 1)) (pe_tyb T.fr_tuple (by decide +kernel)) (.b "tuple") T.fr_isinstance rfl)) (by rfl))))) (sss_cons (ss_ret (SE.f se_bl))
    sss_nil) sss_nil)
    (sss_cons (ss_ret (SE.f (se_and (se_cmp (g := eqD) (op_eqA hr.units) fl_eq (SE.v (se_callB (g := lenD) cr_lenA fl_len (sv_nm 0 (pv 0)) T.fr_len (by decide +kernel))) (SE.v (se_callB (g := lenD) cr_lenA fl_len (sv_nm 1 (pv 1)) T.fr_len (by decide +kernel))) (by rfl)) (se_one (se_callB (g := allD) (cr_all rfl) fl_all (SE.v (SF.e (sf_lc (own := [("mine", 2), ("theirs", 3)]) rfl nd (si_zip (se_nm 0 (pv 0)) (se_nm 1 (pv 1)) T.fr_zip (hpl := by rfl)) (by kernel_rfl) (by decide) (fun _ _ _ _ _ => (sg_tup (k := 2) rfl (sgs_cons (sg_nm (i := 2) (pg_name nd rfl (by first | exact Or.inl rfl | exact Or.inr rfl))) (sgs_cons (sg_nm (i := 3) (pg_name nd rfl (by first | exact Or.inl rfl | exact Or.inr rfl))) sgs_nil)))) (fun _ _ _ _ _ => sts_nil) (fun _ _ _ _ _ => (SF.e (sf_call ih (hr.mono (by omega)) T.g__law_same (aa_cons (a1_val (se_nm 2 (pv 2))) (aa_cons (a1_val (se_nm 3 (pv 3))) aa_nil)))))))) T.fr_all (by decide +kernel))))))
    sss_nil)) sss_nil)
    (sss_cons (ss_if (st_val (se_isi T.ins (sv_nm 1 (pv 1)) (pe_tyb T.fr_dict (by decide +kernel)) (.b "dict") T.fr_isinstance rfl)) (sss_cons (ss_ret (SE.f (se_and (se_isi T.ins (sv_nm 0 (pv 0)) (pe_tyb T.fr_dict (by decide +kernel)) (.b "dict") T.fr_isinstance rfl) (se_one (SF.e (sf_call ih (hr.mono (by omega)) T.g__law_same (aa_cons (a1_val (SF.e (sf_items rfl (sv_nm 0 (pv 0)) T.fr_list))) (aa_cons (a1_val (SF.e (sf_items rfl (sv_nm 1 (pv 1)) T.fr_list))) aa_nil))))))))
    sss_nil) sss_nil)
    (sss_cons (ss_if (SW.t (sw_or (st_val (se_isi T.ins (sv_nm 1 (pv 1)) (pe_tyb T.fr_bool (by decide +kernel)) (.b "bool") T.fr_isinstance rfl)) (sw_or1 (st_val (se_isi T.ins (sv_nm 0 (pv 0)) (pe_tyb T.fr_bool (by decide +kernel)) (.b "bool") T.fr_isinstance rfl))))) (sss_cons (ss_ret (SE.f (se_and (se_isi T.ins (sv_nm 1 (pv 1)) (pe_tyb T.fr_bool (by decide +kernel)) (.b "bool") T.fr_isinstance rfl) (se_and (se_isi T.ins (sv_nm 0 (pv 0)) (pe_tyb T.fr_bool (by decide +kernel)) (.b "bool") T.fr_isinstance rfl) (se_one (se_cmp (g := eqD) (op_eqA hr.units) fl_eq (sv_nm 0 (pv 0)) (sv_nm 1 (pv 1)) (by rfl)))))))
    sss_nil) sss_nil)
    (sss_cons (ss_if (SW.t (sw_or (st_cmp (g := isND) op_isN fl_isN (sv_nm 1 (pv 1)) (SE.v se_non) (by rfl)) (sw_or1 (st_cmp (g := isND) op_isN fl_isN (sv_nm 0 (pv 0)) (SE.v se_non) (by rfl))))) (sss_cons (ss_ret (SE.f (se_and (se_cmp (g := isND) op_isN fl_isN (sv_nm 1 (pv 1)) (SE.v se_non) (by rfl)) (se_one (se_cmp (g := isND) op_isN fl_isN (sv_nm 0 (pv 0)) (SE.v se_non) (by rfl))))))
    sss_nil) sss_nil)
    (sss_cons (ss_if (SW.t (sw_or (st_cmp (g := neD) (op_neA hr.units) fl_ne (SE.v (se_isi T.ins (sv_nm 1 (pv 1)) (pe_tyb T.fr_int (by decide +kernel)) (.b "int") T.fr_isinstance rfl)) (SE.v (se_isi T.ins (sv_nm 0 (pv 0)) (pe_tyb T.fr_int (by decide +kernel)) (.b "int") T.fr_isinstance rfl)) (by rfl)) (sw_or1 (st_cmp (g := neD) (op_neA hr.units) fl_ne (SE.v (se_isi T.ins (sv_nm 1 (pv 1)) (pe_tyb T.fr_str (by decide +kernel)) (.b "str") T.fr_isinstance rfl)) (SE.v (se_isi T.ins (sv_nm 0 (pv 0)) (pe_tyb T.fr_str (by decide +kernel)) (.b "str") T.fr_isinstance rfl)) (by rfl))))) (sss_cons (ss_ret (SE.f se_bl))
    sss_nil) sss_nil)
    (sss_cons (ss_ret (SE.f (se_and (se_not (se_isiT T.ins (sv_nm 0 (pv 0)) (pty_cons (pe_tyb T.fr_list (by decide +kernel)) (pty_cons (pe_tyb T.fr_tuple (by decide +kernel)) (pty_cons (pe_tyb T.fr_dict (by decide +kernel)) pty_nil))) (by decide) (.cons (.b "list") (.cons (.b "tuple") (.cons (.b "dict") .nil))) T.fr_isinstance rfl)) (se_one (se_cmp (g := eqD) (op_eqA hr.units) fl_eq (sv_nm 0 (pv 0)) (sv_nm 1 (pv 1)) (by rfl))))))
    sss_nil))))))
theorem sc__law_stream : FnScope (["script"] : List Str) (["script"] : List Str) (defScope s__law_stream) := ⟨rfl, rfl, rfl, by decide, rfl, by decide +kernel, by decide +kernel⟩
theorem bi__law_stream (T : Fc P w K mg pl) : Binds K pl.d__law_stream (["script"] : List Str) [] := T.F__law_stream.binds fun _ _ _ _ _ _ us hl => match us, hl with | [_], _ => rfl
theorem ok__law_stream (T : Fc P w K mg pl) : FnOk P w K mg base CX0 1 pl.a__law_stream pl.d__law_stream (["script"] : List Str) (spStream K) := ok_streamG T.F__law_stream sc__law_stream fun cdv A outer s H E =>
  (pss_one (ps_stream (pv 0) T.fr_list (by decide +kernel)) : PSs _ (defBody s__law_stream) _)
theorem sc__law_names : FnScope (["stream", "many", "found", "signs", "k", "name", "at", "one"] : List Str) (["stream", "many"] : List Str) (defScope s__law_names) := ⟨rfl, rfl, rfl, by decide, rfl, by decide +kernel, by decide +kernel⟩
theorem bi__law_names (T : Fc P w K mg pl) : Binds K pl.d__law_names (["stream", "many"] : List Str) [] := T.F__law_names.binds fun _ _ _ _ _ _ us hl => match us, hl with | [_, _], _ => rfl
theorem ok__law_names (T : Fc P w K mg pl) : Cal P w K mg base 3 pl.a__law_names pl.d__law_names (["stream", "many"] : List Str) 2 m__law_names := by
  refine ⟨okF (k := 2) T.F__law_names sc__law_names fun cdv A outer s H E hr => ?_, bi__law_names T, T.F__law_names.kp⟩
  have nd := sc__law_names.nd
  exact (sss_cons (ss_parL (is := [2, 3]) rfl (gn_cons (i := 2) (pg_name nd rfl (by first | exact Or.inl rfl | exact Or.inr rfl)) (gn_cons (i := 3) (pg_name nd rfl (by first | exact Or.inl rfl | exact Or.inr rfl)) gn_nil)) (sfs_cons (sf_lst sa_nil) (sfs_cons (SE.f se_str) sfs_nil)) (by decide))
    (sss_cons (ss_for rfl PassesOwn.never (si_range1 (se_nm 1 (pv 1)) T.fr_range) (sg_nm (i := 4) (pg_name nd rfl (by first | exact Or.inl rfl | exact Or.inr rfl))) (sss_cons (ss_set (i := 5) (SE.f (se_join se_str (SF.e (sf_lc (own := [("one", 7)]) rfl nd (si_range1 (SF.e (sf_bin (g := addD) op_addA fl_add (SE.v se_int) (SE.v (SF.e (sf_call (ok__law_draw T) (hr.mono (by omega)) T.g__law_draw (aa_cons (a1_rf 0 (pv 0)) (aa_cons (a1_val (SF.e (sf_call (ok__law_pick T) (hr.mono (by omega)) T.g__law_pick (aa_cons (a1_rf 0 (pv 0)) (aa_cons (a1_val (SF.e (sf_lst (sa_cons se_int (sa_cons se_int (sa_cons se_int sa_nil)))))) aa_nil))))) aa_nil))))))) T.fr_range) (by kernel_rfl) (by decide) (fun _ _ _ _ _ => (sg_nm (i := 7) (pg_name nd rfl (by first | exact Or.inl rfl | exact Or.inr rfl)))) (fun _ _ _ _ _ => sts_nil) (fun _ _ _ _ _ => (SF.e (sf_call (ok__law_pick T) (hr.mono (by omega)) T.g__law_pick (aa_cons (a1_rf 0 (pv 0)) (aa_cons (a1_val (se_nm 3 (pv 3))) aa_nil))))))))) nd rfl (by first | exact Or.inl rfl | exact Or.inr rfl))
    (sss_cons (ss_for rfl PassesOwn.never (si_range1 (SF.e (sf_bin (g := addD) op_addA fl_add (SE.v (se_callB (g := lenD) cr_lenA fl_len (sv_nm 2 (pv 2)) T.fr_len (by decide +kernel))) (SE.v se_int))) T.fr_range) (sg_nm (i := 6) (pg_name nd rfl (by first | exact Or.inl rfl | exact Or.inr rfl))) (sss_cons (ss_if (st_cmp (g := inD) (op_inA hr.u65) fl_in (sv_nm 5 (pv 5)) (sv_nm 2 (pv 2)) (by rfl)) (sss_cons (ss_set (i := 5) (SE.f (SF.e (sf_bin (g := addD) op_addA fl_add (SE.v (SF.e (sf_bin (g := addD) op_addA fl_add (SE.v (SF.e (sf_slice (sv_nm 5 (pv 5)) so_none (so_some se_int)))) (SE.v (se_ix (ix_A hr.u1) fl_item (sv_nm 3 (pv 3)) (SE.v (se_bin op_fdivN fl_fdiv (sv_nm 6 (pv 6)) (SE.v se_int))) (by intro _ _; rfl)))))) (SE.v (se_ix (ix_A hr.u1) fl_item (sv_nm 3 (pv 3)) (SE.v (se_bin op_modN fl_mod (sv_nm 6 (pv 6)) (SE.v se_int))) (by intro _ _; rfl)))))) nd rfl (by first | exact Or.inl rfl | exact Or.inr rfl))
    sss_nil) sss_nil)
    sss_nil))
    (sss_cons (ss_expr (se_lm PySem.F.slot_list_append PySem.F.type_list_append mt_append lm_append (pv 2) (sa_cons (se_nm 5 (pv 5)) sa_nil)))
    sss_nil))))
    (sss_cons (ss_ret (sf_mv 2 (pv 2)))
    sss_nil)))
theorem sc__law_web : FnScope (["stream", "rooms", "wires", "names", "way", "mixed", "found", "at", "k", "pairs", "wire", "other"] : List Str) (["stream", "rooms", "wires"] : List Str) (defScope s__law_web) := ⟨rfl, rfl, rfl, by decide, rfl, by decide +kernel, by decide +kernel⟩
theorem bi__law_web (T : Fc P w K mg pl) : Binds K pl.d__law_web (["stream", "rooms", "wires"] : List Str) [] := T.F__law_web.binds fun _ _ _ _ _ _ us hl => match us, hl with | [_, _, _], _ => rfl
theorem ok__law_web (T : Fc P w K mg pl) : Cal P w K mg base 4 pl.a__law_web pl.d__law_web (["stream", "rooms", "wires"] : List Str) 3 m__law_web := by
  refine ⟨okF (k := 3) T.F__law_web sc__law_web fun cdv A outer s H E hr => ?_, bi__law_web T, T.F__law_web.kp⟩
  have nd := sc__law_web.nd
  exact (sss_cons (ss_par (i := 3) (j := 4) rfl nd rfl rfl (by decide) rfl rfl (sfs_cons (SE.f (SF.e (sf_callBT (g := sortedD) (cr_sortA rfl) fl_sorted (SE.v (SF.e (sf_call (ok__law_names T) (hr.mono (by omega)) T.g__law_names (aa_cons (a1_rf 0 (pv 0)) (aa_cons (a1_val (SF.e (sf_bin (g := addD) op_addA fl_add (SE.v se_int) (SE.v (SF.e (sf_call (ok__law_draw T) (hr.mono (by omega)) T.g__law_draw (aa_cons (a1_rf 0 (pv 0)) (aa_cons (a1_val (se_nm 1 (pv 1))) aa_nil)))))))) aa_nil))))) T.fr_sorted (by decide +kernel)))) (sfs_cons (SE.f (SF.e (sf_call (ok__law_draw T) (hr.mono (by omega)) T.g__law_draw (aa_cons (a1_rf 0 (pv 0)) (aa_cons (a1_val se_int) aa_nil))))) sfs_nil)))
    (sss_cons (ss_parL (is := [5, 6]) rfl (gn_cons (i := 5) (pg_name nd rfl (by first | exact Or.inl rfl | exact Or.inr rfl)) (gn_cons (i := 6) (pg_name nd rfl (by first | exact Or.inl rfl | exact Or.inr rfl)) gn_nil)) (sfs_cons (SE.f (SF.e (sf_call (ok__law_mixed T) (hr.mono (by omega)) T.g__law_mixed (aa_cons (a1_rf 0 (pv 0)) (aa_cons (a1_val (se_nm 3 (pv 3))) aa_nil))))) (sfs_cons (sf_lst sa_nil) sfs_nil)) (by decide))
    (sss_cons (ss_for rfl PassesOwn.never (si_range2 se_int (se_if (st_cmp (g := ltD) op_ltA fl_ord (sv_nm 4 (pv 4)) (SE.v se_int) (by rfl)) (se_callB (g := lenD) cr_lenA fl_len (sv_nm 5 (pv 5)) T.fr_len (by decide +kernel)) se_int) T.fr_range) (sg_nm (i := 7) (pg_name nd rfl (by first | exact Or.inl rfl | exact Or.inr rfl))) (sss_cons (ss_expr (se_lm PySem.F.slot_list_append PySem.F.type_list_append mt_append lm_append (pv 6) (sa_cons (se_tup (sa_cons (se_ix (ix_A hr.u1) fl_item (sv_nm 5 (pv 5)) (sv_nm 7 (pv 7)) (by intro _ _; rfl)) (sa_cons (se_ix (ix_A hr.u1) fl_item (sv_nm 5 (pv 5)) (SE.v (se_if (st_cmp (g := gtD) op_gtA fl_ord (sv_nm 4 (pv 4)) (SE.v se_int) (by rfl)) (se_bin op_sub fl_sub (sv_nm 7 (pv 7)) (SE.v se_int)) (SF.e (sf_call (ok__law_draw T) (hr.mono (by omega)) T.g__law_draw (aa_cons (a1_rf 0 (pv 0)) (aa_cons (a1_val (se_nm 7 (pv 7))) aa_nil)))))) (by intro _ _; rfl)) sa_nil))) sa_nil)))
    sss_nil))
    (sss_cons (ss_if (SW.t (sw_and (st_cmp (g := inD) (op_inA hr.u65) fl_in (sv_nm 4 (pv 4)) (SE.v (se_tup (sa_cons se_int (sa_cons se_int sa_nil)))) (by rfl)) (sw_and1 (st_cmp (g := gtD) op_gtA fl_ord (SE.v (se_callB (g := lenD) cr_lenA fl_len (sv_nm 5 (pv 5)) T.fr_len (by decide +kernel))) (SE.v se_int) (by rfl))))) (sss_cons (ss_expr (se_lm PySem.F.slot_list_append PySem.F.type_list_append mt_append lm_append (pv 6) (sa_cons (se_tup (sa_cons (se_ix (ix_A hr.u1) fl_item (sv_nm 5 (pv 5)) (SE.v se_int) (by intro _ _; rfl)) (sa_cons (se_ix (ix_A hr.u1) fl_item (sv_nm 5 (pv 5)) (SE.v (se_neg se_int)) (by intro _ _; rfl)) sa_nil))) sa_nil)))
    sss_nil) sss_nil)
    (sss_cons (ss_if (st_cmp (g := eqD) (op_eqA hr.units) fl_eq (sv_nm 4 (pv 4)) (SE.v se_int) (by rfl)) (sss_cons (ss_for rfl PassesOwn.never (si_range1 (se_callB (g := lenD) cr_lenA fl_len (sv_nm 5 (pv 5)) T.fr_len (by decide +kernel)) T.fr_range) (sg_nm (i := 7) (pg_name nd rfl (by first | exact Or.inl rfl | exact Or.inr rfl))) (sss_cons (ss_expr (se_lm PySem.F.slot_list_extend PySem.F.type_list_extend mt_extend lm_extend (pv 6) (sa_cons (SF.e (sf_lc (own := [("other", 11)]) rfl nd (si_seq (SF.e (sf_slice (sv_nm 5 (pv 5)) (so_some (SF.e (sf_bin (g := addD) op_addA fl_add (sv_nm 7 (pv 7)) (SE.v se_int)))) so_none))) (by kernel_rfl) (by decide) (fun _ _ _ _ _ => (sg_nm (i := 11) (pg_name nd rfl (by first | exact Or.inl rfl | exact Or.inr rfl)))) (fun _ _ _ _ _ => sts_nil) (fun _ _ _ _ _ => (se_tup (sa_cons (se_ix (ix_A hr.u1) fl_item (sv_nm 5 (pv 5)) (sv_nm 7 (pv 7)) (by intro _ _; rfl)) (sa_cons (se_nm 11 (pv 11)) sa_nil)))))) sa_nil)))
    sss_nil))
    sss_nil) sss_nil)
    (sss_cons (ss_for rfl PassesOwn.never (si_range1 (se_if (SW.t (sw_and (st_cmp (g := ninD) (op_ninA hr.u65) fl_nin (sv_nm 4 (pv 4)) (SE.v (se_tup (sa_cons se_int (sa_cons se_int sa_nil)))) (by rfl)) (sw_and1 (st_cmp (g := gtD) op_gtA fl_ord (SE.v (se_callB (g := lenD) cr_lenA fl_len (sv_nm 3 (pv 3)) T.fr_len (by decide +kernel))) (SE.v se_int) (by rfl))))) (SF.e (sf_call (ok__law_draw T) (hr.mono (by omega)) T.g__law_draw (aa_cons (a1_rf 0 (pv 0)) (aa_cons (a1_val se_int) aa_nil)))) se_int) T.fr_range) (sg_nm (i := 8) (pg_name nd rfl (by first | exact Or.inl rfl | exact Or.inr rfl))) (sss_cons (ss_expr (se_lm PySem.F.slot_list_append PySem.F.type_list_append mt_append lm_append (pv 6) (sa_cons (SF.e (sf_callTy (g := tupleD) call_tuple_of fl_tuple (SE.v (SF.e (sf_slice (SE.v (SF.e (sf_call (ok__law_mixed T) (hr.mono (by omega)) T.g__law_mixed (aa_cons (a1_rf 0 (pv 0)) (aa_cons (a1_val (se_nm 3 (pv 3))) aa_nil))))) so_none (so_some se_int)))) T.fr_tuple (by decide +kernel))) sa_nil)))
    sss_nil))
    (sss_cons (ss_set (i := 9) (SE.f (SF.e (sf_callBT (g := sortedD) (cr_sortA rfl) fl_sorted (SE.v (SF.e (sf_callTy (g := dictTD) (cr_dictT rfl hr.units) fl_dictT (SE.v (SF.e (sf_lc (own := [("wire", 10)]) rfl nd (si_seq (se_nz 6 (pv 6))) (by kernel_rfl) (by decide) (fun _ _ _ _ _ => (sg_nm (i := 10) (pg_name nd rfl (by first | exact Or.inl rfl | exact Or.inr rfl)))) (fun _ _ _ _ _ => sts_nil) (fun _ _ _ _ _ => (se_tup (sa_cons (se_tup (sa_cons (se_callB (g := minA) (cr_minA rfl hr.units) fl_minA (sv_nm 10 (pv 10)) T.fr_min (by decide +kernel)) (sa_cons (se_callB (g := maxA) (cr_maxA rfl hr.units) fl_maxA (sv_nm 10 (pv 10)) T.fr_max (by decide +kernel)) sa_nil))) (sa_cons se_int sa_nil))))))) T.fr_dict (by decide +kernel)))) T.fr_sorted (by decide +kernel)))) nd rfl (by first | exact Or.inl rfl | exact Or.inr rfl))
    (sss_cons (ss_if (SW.t (sw_and (st_cmp (g := eqD) (op_eqA hr.units) fl_eq (sv_nm 4 (pv 4)) (SE.v se_int) (by rfl)) (sw_and1 (st_cmp (g := eqD) (op_eqA hr.units) fl_eq (SE.v (SF.e (sf_call (ok__law_draw T) (hr.mono (by omega)) T.g__law_draw (aa_cons (a1_rf 0 (pv 0)) (aa_cons (a1_val se_int) aa_nil))))) (SE.v se_int) (by rfl))))) (sss_cons (ss_set (i := 9) (SE.f (SF.e (sf_slice (SE.v (SF.e (sf_call (ok__law_mixed T) (hr.mono (by omega)) T.g__law_mixed (aa_cons (a1_rf 0 (pv 0)) (aa_cons (a1_val (se_nm 9 (pv 9))) aa_nil))))) (so_some (SF.e (sf_call (ok__law_draw T) (hr.mono (by omega)) T.g__law_draw (aa_cons (a1_rf 0 (pv 0)) (aa_cons (a1_val se_int) aa_nil))))) so_none))) nd rfl (by first | exact Or.inl rfl | exact Or.inr rfl))
    sss_nil) sss_nil)
    (sss_cons (ss_ret (SE.f (se_tup (sa_cons (se_nm 3 (pv 3)) (sa_cons (SF.e (sf_callBT (g := sortedD) (cr_sortA rfl) fl_sorted (SE.v (SF.e (sf_slice (SE.v (SF.e (sf_call (ok__law_mixed T) (hr.mono (by omega)) T.g__law_mixed (aa_cons (a1_rf 0 (pv 0)) (aa_cons (a1_val (se_nm 9 (pv 9))) aa_nil))))) so_none (so_some (se_nm 2 (pv 2)))))) T.fr_sorted (by decide +kernel))) sa_nil)))))
    sss_nil)))))))))
theorem sc_check_web : FnScope (["web"] : List Str) (["web"] : List Str) (defScope s_check_web) := ⟨rfl, rfl, rfl, by decide, rfl, by decide +kernel, by decide +kernel⟩
theorem bi_check_web (T : Fc P w K mg pl) : Binds K pl.d_check_web (["web"] : List Str) [] := T.F_check_web.binds fun _ _ _ _ _ _ us hl => match us, hl with | [_], _ => rfl
theorem ok_check_web (T : Fc P w K mg pl) : Cal P w K mg base 1 pl.a_check_web pl.d_check_web (["web"] : List Str) 1 m_check_web := by
  refine ⟨okF (k := 0) T.F_check_web sc_check_web fun cdv A outer s H E hr => ?_, bi_check_web T, T.F_check_web.kp⟩
  have nd := sc_check_web.nd
  exact (sss_cons (ss_if (st_not (st_val (se_isi T.ins (sv_nm 0 (pv 0)) (pe_tyo T.gC_Web) (.o T.gC_Web) T.fr_isinstance rfl))) (sss_cons ss_never
    sss_nil) sss_nil)
    sss_nil)
theorem sc_is_whole : FnScope (["thing"] : List Str) (["thing"] : List Str) (defScope s_is_whole) := ⟨rfl, rfl, rfl, by decide, rfl, by decide +kernel, by decide +kernel⟩
theorem bi_is_whole (T : Fc P w K mg pl) : Binds K pl.d_is_whole (["thing"] : List Str) [] := T.F_is_whole.binds fun _ _ _ _ _ _ us hl => match us, hl with | [_], _ => rfl
theorem ok_is_whole (T : Fc P w K mg pl) : Cal P w K mg base 1 pl.a_is_whole pl.d_is_whole (["thing"] : List Str) 1 m_is_whole := by
  refine ⟨okF (k := 0) T.F_is_whole sc_is_whole fun cdv A outer s H E hr => ?_, bi_is_whole T, T.F_is_whole.kp⟩
  have nd := sc_is_whole.nd
  exact (sss_cons (ss_ret (SE.f (se_and (se_isi T.ins (sv_nm 0 (pv 0)) (pe_tyb T.fr_int (by decide +kernel)) (.b "int") T.fr_isinstance rfl) (se_one (se_not (se_isi T.ins (sv_nm 0 (pv 0)) (pe_tyb T.fr_bool (by decide +kernel)) (.b "bool") T.fr_isinstance rfl))))))
    sss_nil)
theorem sc_is_number : FnScope (["thing"] : List Str) (["thing"] : List Str) (defScope s_is_number) := ⟨rfl, rfl, rfl, by decide, rfl, by decide +kernel, by decide +kernel⟩
theorem bi_is_number (T : Fc P w K mg pl) : Binds K pl.d_is_number (["thing"] : List Str) [] := T.F_is_number.binds fun _ _ _ _ _ _ us hl => match us, hl with | [_], _ => rfl
theorem ok_is_number (T : Fc P w K mg pl) : Cal P w K mg base 2 pl.a_is_number pl.d_is_number (["thing"] : List Str) 1 m_is_number := by
  refine ⟨okF (k := 1) T.F_is_number sc_is_number fun cdv A outer s H E hr => ?_, bi_is_number T, T.F_is_number.kp⟩
  have nd := sc_is_number.nd
  exact (sss_cons (ss_ret (SE.f (se_and (SF.e (sf_call (ok_is_whole T) (hr.mono (by omega)) T.g_is_whole (aa_cons (a1_val (se_nm 0 (pv 0))) aa_nil))) (se_one (se_cmp (g := geD) op_geA fl_ord (sv_nm 0 (pv 0)) (SE.v se_int) (by rfl))))))
    sss_nil)
theorem sc_check_number : FnScope (["web", "number"] : List Str) (["web", "number"] : List Str) (defScope s_check_number) := ⟨rfl, rfl, rfl, by decide, rfl, by decide +kernel, by decide +kernel⟩
theorem bi_check_number (T : Fc P w K mg pl) : Binds K pl.d_check_number (["web", "number"] : List Str) [] := T.F_check_number.binds fun _ _ _ _ _ _ us hl => match us, hl with | [_, _], _ => rfl
theorem ok_check_number (T : Fc P w K mg pl) : Cal P w K mg base 3 pl.a_check_number pl.d_check_number (["web", "number"] : List Str) 2 m_check_number := by
  refine ⟨okF (k := 2) T.F_check_number sc_check_number fun cdv A outer s H E hr => ?_, bi_check_number T, T.F_check_number.kp⟩
  have nd := sc_check_number.nd
  exact (sss_cons (ss_expr (SF.e (sf_call (ok_check_web T) (hr.mono (by omega)) T.g_check_web (aa_cons (a1_val (se_nm 0 (pv 0))) aa_nil))))
    (sss_cons (ss_if (st_not (st_val (SF.e (sf_call (ok_is_number T) (hr.mono (by omega)) T.g_is_number (aa_cons (a1_val (se_nm 1 (pv 1))) aa_nil))))) (sss_cons ss_never
    sss_nil) sss_nil)
    sss_nil))
theorem sc_is_rising : FnScope (["things", "one", "other"] : List Str) (["things"] : List Str) (defScope s_is_rising) := ⟨rfl, rfl, rfl, by decide, rfl, by decide +kernel, by decide +kernel⟩
theorem bi_is_rising (T : Fc P w K mg pl) : Binds K pl.d_is_rising (["things"] : List Str) [] := T.F_is_rising.binds fun _ _ _ _ _ _ us hl => match us, hl with | [_], _ => rfl
theorem ok_is_rising (T : Fc P w K mg pl) : Cal P w K mg base 1 pl.a_is_rising pl.d_is_rising (["things"] : List Str) 1 m_is_rising := by
  refine ⟨okF (k := 0) T.F_is_rising sc_is_rising fun cdv A outer s H E hr => ?_, bi_is_rising T, T.F_is_rising.kp⟩
  have nd := sc_is_rising.nd
  exact (sss_cons (ss_ret (SE.f (se_callB (g := allD) (cr_all rfl) fl_all (SE.v (SF.e (sf_lc (own := [("one", 1), ("other", 2)]) rfl nd (si_zip (se_nm 0 (pv 0)) (SF.e (sf_slice (sv_nm 0 (pv 0)) (so_some se_int) so_none)) T.fr_zip (hpl := by rfl)) (by kernel_rfl) (by decide) (fun _ _ _ _ _ => (sg_tup (k := 2) rfl (sgs_cons (sg_nm (i := 1) (pg_name nd rfl (by first | exact Or.inl rfl | exact Or.inr rfl))) (sgs_cons (sg_nm (i := 2) (pg_name nd rfl (by first | exact Or.inl rfl | exact Or.inr rfl))) sgs_nil)))) (fun _ _ _ _ _ => sts_nil) (fun _ _ _ _ _ => (se_cmp (g := ltD) op_ltA fl_ord (sv_nm 1 (pv 1)) (sv_nm 2 (pv 2)) (by rfl)))))) T.fr_all (by decide +kernel))))
    sss_nil)
theorem sc_is_room : FnScope (["web", "thing"] : List Str) (["web", "thing"] : List Str) (defScope s_is_room) := ⟨rfl, rfl, rfl, by decide, rfl, by decide +kernel, by decide +kernel⟩
theorem bi_is_room (T : Fc P w K mg pl) : Binds K pl.d_is_room (["web", "thing"] : List Str) [] := T.F_is_room.binds fun _ _ _ _ _ _ us hl => match us, hl with | [_, _], _ => rfl
theorem ok_is_room (T : Fc P w K mg pl) : Cal P w K mg base 1 pl.a_is_room pl.d_is_room (["web", "thing"] : List Str) 2 m_is_room := by
  refine ⟨okF (k := 0) T.F_is_room sc_is_room fun cdv A outer s H E hr => ?_, bi_is_room T, T.F_is_room.kp⟩
  have nd := sc_is_room.nd
  exact (sss_cons (ss_ret (SE.f (se_and (se_isi T.ins (sv_nm 1 (pv 1)) (pe_tyb T.fr_str (by decide +kernel)) (.b "str") T.fr_isinstance rfl) (se_one (se_cmp (g := inD) (op_inA hr.u65) fl_in (sv_nm 1 (pv 1)) (SE.v (se_fld (c := "Web") (sv_nm 0 (pv 0)) T.gC_Web T.cl_Web (T.na_Web _ (by decide)))) (by rfl))))))
    sss_nil)
theorem sc_is_lot_of : FnScope (["web", "thing", "room"] : List Str) (["web", "thing"] : List Str) (defScope s_is_lot_of) := ⟨rfl, rfl, rfl, by decide, rfl, by decide +kernel, by decide +kernel⟩
theorem bi_is_lot_of (T : Fc P w K mg pl) : Binds K pl.d_is_lot_of (["web", "thing"] : List Str) [] := T.F_is_lot_of.binds fun _ _ _ _ _ _ us hl => match us, hl with | [_, _], _ => rfl
theorem ok_is_lot_of (T : Fc P w K mg pl) : Cal P w K mg base 2 pl.a_is_lot_of pl.d_is_lot_of (["web", "thing"] : List Str) 2 m_is_lot_of := by
  refine ⟨okF (k := 1) T.F_is_lot_of sc_is_lot_of fun cdv A outer s H E hr => ?_, bi_is_lot_of T, T.F_is_lot_of.kp⟩
  have nd := sc_is_lot_of.nd
  exact (sss_cons (ss_ret (SE.f (se_and (SF.e (sf_call (ok_is_list T) (hr.mono (by omega)) T.g_is_list (aa_cons (a1_val (se_nm 1 (pv 1))) aa_nil))) (se_and (se_callB (g := allD) (cr_all rfl) fl_all (SE.v (SF.e (sf_lc (own := [("room", 2)]) rfl nd (si_seq (se_nm 1 (pv 1))) (by kernel_rfl) (by decide) (fun _ _ _ _ _ => (sg_nm (i := 2) (pg_name nd rfl (by first | exact Or.inl rfl | exact Or.inr rfl)))) (fun _ _ _ _ _ => sts_nil) (fun _ _ _ _ _ => (SF.e (sf_call (ok_is_room T) (hr.mono (by omega)) T.g_is_room (aa_cons (a1_val (se_nm 0 (pv 0))) (aa_cons (a1_val (se_nm 2 (pv 2))) aa_nil)))))))) T.fr_all (by decide +kernel)) (se_one (SF.e (sf_call (ok_is_rising T) (hr.mono (by omega)) T.g_is_rising (aa_cons (a1_val (se_nm 1 (pv 1))) aa_nil))))))))
    sss_nil)
theorem sc_is_order_of : FnScope (["web", "thing", "room"] : List Str) (["web", "thing"] : List Str) (defScope s_is_order_of) := ⟨rfl, rfl, rfl, by decide, rfl, by decide +kernel, by decide +kernel⟩
theorem bi_is_order_of (T : Fc P w K mg pl) : Binds K pl.d_is_order_of (["web", "thing"] : List Str) [] := T.F_is_order_of.binds fun _ _ _ _ _ _ us hl => match us, hl with | [_, _], _ => rfl
theorem ok_is_order_of (T : Fc P w K mg pl) : Cal P w K mg base 2 pl.a_is_order_of pl.d_is_order_of (["web", "thing"] : List Str) 2 m_is_order_of := by
  refine ⟨okF (k := 1) T.F_is_order_of sc_is_order_of fun cdv A outer s H E hr => ?_, bi_is_order_of T, T.F_is_order_of.kp⟩
  have nd := sc_is_order_of.nd
  exact (sss_cons (ss_if (SW.t (sw_or (st_not (st_val (SF.e (sf_call (ok_is_list T) (hr.mono (by omega)) T.g_is_list (aa_cons (a1_val (se_nm 1 (pv 1))) aa_nil))))) (sw_or1 (st_not (st_val (se_callB (g := allD) (cr_all rfl) fl_all (SE.v (SF.e (sf_lc (own := [("room", 2)]) rfl nd (si_seq (se_nm 1 (pv 1))) (by kernel_rfl) (by decide) (fun _ _ _ _ _ => (sg_nm (i := 2) (pg_name nd rfl (by first | exact Or.inl rfl | exact Or.inr rfl)))) (fun _ _ _ _ _ => sts_nil) (fun _ _ _ _ _ => (SF.e (sf_call (ok_is_room T) (hr.mono (by omega)) T.g_is_room (aa_cons (a1_val (se_nm 0 (pv 0))) (aa_cons (a1_val (se_nm 2 (pv 2))) aa_nil)))))))) T.fr_all (by decide +kernel))))))) (sss_cons (ss_ret (SE.f se_bl))
    sss_nil) sss_nil)
    (sss_cons (ss_ret (SE.f (se_cmp (g := eqD) (op_eqA hr.units) fl_eq (SE.v (SF.e (sf_callBT (g := sortedD) (cr_sortA rfl) fl_sorted (sv_nm 1 (pv 1)) T.fr_sorted (by decide +kernel)))) (SE.v (se_fld (c := "Web") (sv_nm 0 (pv 0)) T.gC_Web T.cl_Web (T.na_Web _ (by decide)))) (by rfl))))
    sss_nil))
theorem sc_within : FnScope (["web", "lot", "room", "other"] : List Str) (["web", "lot", "room"] : List Str) (defScope s_within) := ⟨rfl, rfl, rfl, by decide, rfl, by decide +kernel, by decide +kernel⟩
theorem bi_within (T : Fc P w K mg pl) : Binds K pl.d_within (["web", "lot", "room"] : List Str) [] := T.F_within.binds fun _ _ _ _ _ _ us hl => match us, hl with | [_, _, _], _ => rfl
theorem ok_within (T : Fc P w K mg pl) : Cal P w K mg base 1 pl.a_within pl.d_within (["web", "lot", "room"] : List Str) 3 m_within := by
  refine ⟨okF (k := 0) T.F_within sc_within fun cdv A outer s H E hr => ?_, bi_within T, T.F_within.kp⟩
  have nd := sc_within.nd
  exact (sss_cons (ss_ret (SE.f (se_callB (g := lenD) cr_lenA fl_len (SE.v (SF.e (sf_lc (own := [("other", 3)]) rfl nd (si_seq (se_ix (ix_A hr.u1) fl_item (SE.v (se_fld (c := "Web") (sv_nm 0 (pv 0)) T.gC_Web T.cl_Web (T.na_Web _ (by decide)))) (sv_nm 2 (pv 2)) (by intro _ _; rfl))) (by kernel_rfl) (by decide) (fun _ _ _ _ _ => (sg_nm (i := 3) (pg_name nd rfl (by first | exact Or.inl rfl | exact Or.inr rfl)))) (fun _ _ _ _ _ => (sts_one (st_cmp (g := inD) (op_inA hr.u65) fl_in (sv_nm 3 (pv 3)) (sv_nm 1 (pv 1)) (by rfl)))) (fun _ _ _ _ _ => (se_nm 3 (pv 3)))))) T.fr_len (by decide +kernel))))
    sss_nil)
theorem sc_core_fault : FnScope (["web", "number", "thing", "few", "at", "room"] : List Str) (["web", "number", "thing"] : List Str) (defScope s_core_fault) := ⟨rfl, rfl, rfl, by decide, rfl, by decide +kernel, by decide +kernel⟩
theorem bi_core_fault (T : Fc P w K mg pl) : Binds K pl.d_core_fault (["web", "number", "thing"] : List Str) [] := T.F_core_fault.binds fun _ _ _ _ _ _ us hl => match us, hl with | [_, _, _], _ => rfl
theorem ok_core_fault (T : Fc P w K mg pl) : Cal P w K mg base 4 pl.a_core_fault pl.d_core_fault (["web", "number", "thing"] : List Str) 3 m_core_fault := by
  refine ⟨okF (k := 3) T.F_core_fault sc_core_fault fun cdv A outer s H E hr => ?_, bi_core_fault T, T.F_core_fault.kp⟩
  have nd := sc_core_fault.nd
  exact (sss_cons (ss_expr (SF.e (sf_call (ok_check_number T) (hr.mono (by omega)) T.g_check_number (aa_cons (a1_val (se_nm 0 (pv 0))) (aa_cons (a1_val (se_nm 1 (pv 1))) aa_nil)))))
    (sss_cons (ss_if (SW.t (sw_or (st_not (st_val (SF.e (sf_call (ok_is_row T) (hr.mono (by omega)) T.g_is_row (aa_cons (a1_val (se_nm 2 (pv 2))) (aa_cons (a1_val se_int) aa_nil)))))) (sw_or (st_not (st_val (se_isi T.ins (SE.v (se_ix (ix_A hr.u1) fl_item (sv_nm 2 (pv 2)) (SE.v se_int) (by intro _ _; rfl))) (pe_tyb T.fr_str (by decide +kernel)) (.b "str") T.fr_isinstance rfl))) (sw_or1 (st_cmp (g := ninD) (op_ninA hr.u65) fl_nin (SE.v (se_ix (ix_A hr.u1) fl_item (sv_nm 2 (pv 2)) (SE.v se_int) (by intro _ _; rfl))) (SE.v (se_tup (sa_cons se_str (sa_cons se_str sa_nil)))) (by rfl)))))) (sss_cons (ss_ret (SE.f (se_tup (sa_cons se_str sa_nil))))
    sss_nil) sss_nil)
    (sss_cons (ss_if (st_cmp (g := eqD) (op_eqA hr.units) fl_eq (SE.v (se_ix (ix_A hr.u1) fl_item (sv_nm 2 (pv 2)) (SE.v se_int) (by intro _ _; rfl))) (SE.v se_str) (by rfl)) (sss_cons (ss_if (st_not (st_val (SF.e (sf_call (ok_is_order_of T) (hr.mono (by omega)) T.g_is_order_of (aa_cons (a1_val (se_nm 0 (pv 0))) (aa_cons (a1_val (se_ix (ix_A hr.u1) fl_item (sv_nm 2 (pv 2)) (SE.v se_int) (by intro _ _; rfl))) aa_nil)))))) (sss_cons (ss_ret (SE.f (se_tup (sa_cons se_str sa_nil))))
    sss_nil) sss_nil)
    (sss_cons (ss_for rfl PassesOwn.never (si_enum (se_ix (ix_A hr.u1) fl_item (sv_nm 2 (pv 2)) (SE.v se_int) (by intro _ _; rfl)) T.fr_enumerate) (sg_tup (k := 2) rfl (sgs_cons (sg_nm (i := 4) (pg_name nd rfl (by first | exact Or.inl rfl | exact Or.inr rfl))) (sgs_cons (sg_nm (i := 5) (pg_name nd rfl (by first | exact Or.inl rfl | exact Or.inr rfl))) sgs_nil))) (sss_cons (ss_if (st_cmp (g := gtD) op_gtA fl_ord (SE.v (SF.e (sf_call (ok_within T) (hr.mono (by omega)) T.g_within (aa_cons (a1_val (se_nm 0 (pv 0))) (aa_cons (a1_val (SF.e (sf_slice (SE.v (se_ix (ix_A hr.u1) fl_item (sv_nm 2 (pv 2)) (SE.v se_int) (by intro _ _; rfl))) so_none (so_some (se_nm 4 (pv 4)))))) (aa_cons (a1_val (se_nm 5 (pv 5))) aa_nil)))))) (sv_nm 1 (pv 1)) (by rfl)) (sss_cons (ss_ret (SE.f (se_tup (sa_cons se_str (sa_cons (se_nm 5 (pv 5)) sa_nil)))))
    sss_nil) sss_nil)
    sss_nil))
    (sss_cons (ss_ret (SE.f se_non))
    sss_nil))) sss_nil)
    (sss_cons (ss_if (SW.t (sw_or (st_not (st_val (SF.e (sf_call (ok_is_lot_of T) (hr.mono (by omega)) T.g_is_lot_of (aa_cons (a1_val (se_nm 0 (pv 0))) (aa_cons (a1_val (se_ix (ix_A hr.u1) fl_item (sv_nm 2 (pv 2)) (SE.v se_int) (by intro _ _; rfl))) aa_nil)))))) (sw_or1 (st_cmp (g := eqD) (op_eqA hr.units) fl_eq (SE.v (se_callB (g := lenD) cr_lenA fl_len (SE.v (se_ix (ix_A hr.u1) fl_item (sv_nm 2 (pv 2)) (SE.v se_int) (by intro _ _; rfl))) T.fr_len (by decide +kernel))) (SE.v se_int) (by rfl))))) (sss_cons (ss_ret (SE.f (se_tup (sa_cons se_str sa_nil))))
    sss_nil) sss_nil)
    (sss_cons (ss_setLc (i := 3) (own := [("room", 5)]) rfl nd rfl rfl rfl (by decide) (by decide) (si_seq (se_ix (ix_A hr.u1) fl_item (sv_nm 2 (pv 2)) (SE.v se_int) (by intro _ _; rfl))) (by kernel_rfl) (by decide) (fun _ _ _ _ _ => (sg_nm (i := 5) (pg_name nd rfl (by first | exact Or.inl rfl | exact Or.inr rfl)))) (fun _ _ _ _ _ => (sts_one (st_cmp (g := leD) op_leA fl_ord (SE.v (SF.e (sf_call (ok_within T) (hr.mono (by omega)) T.g_within (aa_cons (a1_val (se_nm 0 (pv 0))) (aa_cons (a1_val (se_ix (ix_A hr.u1) fl_item (sv_nm 2 (pv 2)) (SE.v se_int) (by intro _ _; rfl))) (aa_cons (a1_val (se_nm 5 (pv 5))) aa_nil)))))) (sv_nm 1 (pv 1)) (by rfl)))) (fun _ _ _ _ _ => (se_nm 5 (pv 5))))
    (sss_cons (ss_ret (SE.f (se_if (st_cmp (g := neD) (op_neA hr.units) fl_ne (sv_nm 3 (pv 3)) (SE.v (SF.e (sf_lst sa_nil))) (by rfl)) (se_tup (sa_cons se_str (sa_cons (se_ix (ix_A hr.u1) fl_item (sv_nm 3 (pv 3)) (SE.v se_int) (by intro _ _; rfl)) sa_nil))) se_non)))
    sss_nil))))))
theorem sc_law : FnScope (["script", "stream", "turn", "web", "made", "number", "orders", "lots", "things", "thing", "due", "handed", "told", "k", "one"] : List Str) (["script"] : List Str) (defScope s_law) := ⟨rfl, rfl, rfl, by decide, rfl, by decide +kernel, by decide +kernel⟩
theorem ok_law (T : Fc P w K mg pl) : FnOk P w K mg base CX0 12 pl.a_law pl.d_law (["script"] : List Str) (spLawG K 1 15 m_law) := by
  refine ok_lawG (k := 11) (N := (["script", "stream", "turn", "web", "made", "number", "orders", "lots", "things", "thing", "due", "handed", "told", "k", "one"] : List Str)) T.F_law sc_law rfl (by decide) (by decide) fun cdv A outer s H E hr => ?_
  have nd := sc_law.nd
  exact ⟨ps_set (i := 1) nd rfl (by first | exact Or.inl rfl | exact Or.inr rfl) (pe_call (ok__law_stream T) (hr.mono (by omega)) rfl T.g__law_stream T.F__law_stream.kp (bi__law_stream T) .nil pass0 (pa_cons (pv 0) pa_nil)),
    (sss_cons (ss_for rfl PassesOwn.never (si_range1 se_int T.fr_range) (sg_nm (i := 2) (pg_name nd rfl (by first | exact Or.inl rfl | exact Or.inr rfl))) (sss_cons (ss_set (i := 3) (SE.f (SF.e (sf_call (ok__law_web T) (hr.mono (by omega)) T.g__law_web (aa_cons (a1_rf 1 (pv 1)) (aa_cons (a1_val (se_if (st_cmp (g := eqD) (op_eqA hr.units) fl_eq (sv_nm 2 (pv 2)) (SE.v se_int) (by rfl)) se_int (SF.e (sf_call (ok__law_pick T) (hr.mono (by omega)) T.g__law_pick (aa_cons (a1_rf 1 (pv 1)) (aa_cons (a1_val (SF.e (sf_lst (sa_cons se_int (sa_cons se_int (sa_cons se_int sa_nil)))))) aa_nil)))))) (aa_cons (a1_val se_int) aa_nil)))))) nd rfl (by first | exact Or.inl rfl | exact Or.inr rfl))
    (sss_cons (ss_par (i := 4) (j := 5) rfl nd rfl rfl (by decide) rfl rfl (sfs_cons (SE.f (SF.e (sf_call (ok__law_made T) (hr.mono (by omega)) T.g__law_made (aa_cons (a1_rf 1 (pv 1)) (aa_cons (a1_val (se_nm 3 (pv 3))) aa_nil))))) (sfs_cons (SE.f (SF.e (sf_call (ok__law_draw T) (hr.mono (by omega)) T.g__law_draw (aa_cons (a1_rf 1 (pv 1)) (aa_cons (a1_val se_int) aa_nil))))) sfs_nil)))
    (sss_cons (ss_setLc (i := 6) (own := [("k", 13)]) rfl nd rfl rfl rfl (by decide) (by decide) (si_range1 se_int T.fr_range) (by kernel_rfl) (by decide) (fun _ _ _ _ _ => (sg_nm (i := 13) (pg_name nd rfl (by first | exact Or.inl rfl | exact Or.inr rfl)))) (fun _ _ _ _ _ => sts_nil) (fun _ _ _ _ _ => (SF.e (sf_call (ok__law_mixed T) (hr.mono (by omega)) T.g__law_mixed (aa_cons (a1_rf 1 (pv 1)) (aa_cons (a1_val (se_ix (ix_A hr.u1) fl_item (sv_nm 3 (pv 3)) (SE.v se_int) (by intro _ _; rfl))) aa_nil))))))
    (sss_cons (ss_setLc (i := 7) (own := [("k", 13)]) rfl nd rfl rfl rfl (by decide) (by decide) (si_range1 se_int T.fr_range) (by kernel_rfl) (by decide) (fun _ _ _ _ _ => (sg_nm (i := 13) (pg_name nd rfl (by first | exact Or.inl rfl | exact Or.inr rfl)))) (fun _ _ _ _ _ => sts_nil) (fun _ _ _ _ _ => (SF.e (sf_callBT (g := sortedD) (cr_sortA rfl) fl_sorted (SE.v (SF.e (sf_slice (SE.v (SF.e (sf_call (ok__law_mixed T) (hr.mono (by omega)) T.g__law_mixed (aa_cons (a1_rf 1 (pv 1)) (aa_cons (a1_val (se_ix (ix_A hr.u1) fl_item (sv_nm 3 (pv 3)) (SE.v se_int) (by intro _ _; rfl))) aa_nil))))) so_none (so_some (SF.e (sf_bin (g := addD) op_addA fl_add (SE.v se_int) (SE.v (SF.e (sf_call (ok__law_draw T) (hr.mono (by omega)) T.g__law_draw (aa_cons (a1_rf 1 (pv 1)) (aa_cons (a1_val (se_callB (g := lenD) cr_lenA fl_len (SE.v (se_ix (ix_A hr.u1) fl_item (sv_nm 3 (pv 3)) (SE.v se_int) (by intro _ _; rfl))) T.fr_len (by decide +kernel))) aa_nil))))))))))) T.fr_sorted (by decide +kernel)))))
    (sss_cons (ss_setLc (i := 8) (own := [("one", 14)]) rfl nd rfl rfl rfl (by decide) (by decide) (si_seq (SF.e (sf_bin (g := addD) op_addA fl_add (sv_nm 6 (pv 6)) (SE.v (SF.e (sf_lst (sa_cons (SF.e (sf_slice (SE.v (se_ix (ix_A hr.u1) fl_item (sv_nm 6 (pv 6)) (SE.v se_int) (by intro _ _; rfl))) (so_some se_int) so_none)) (sa_cons (SF.e (sf_bin (g := addD) op_addA fl_add (SE.v (se_ix (ix_A hr.u1) fl_item (sv_nm 6 (pv 6)) (SE.v se_int) (by intro _ _; rfl))) (SE.v (SF.e (sf_slice (SE.v (se_ix (ix_A hr.u1) fl_item (sv_nm 6 (pv 6)) (SE.v se_int) (by intro _ _; rfl))) so_none (so_some se_int)))))) (sa_cons (SF.e (sf_bin (g := addD) op_addA fl_add (SE.v (SF.e (sf_slice (SE.v (se_ix (ix_A hr.u1) fl_item (sv_nm 6 (pv 6)) (SE.v se_int) (by intro _ _; rfl))) so_none (so_some (se_neg se_int))))) (SE.v (SF.e (sf_lst (sa_cons se_str sa_nil)))))) (sa_cons (SF.e (sf_callTy (g := tupleD) call_tuple_of fl_tuple (SE.v (se_ix (ix_A hr.u1) fl_item (sv_nm 6 (pv 6)) (SE.v se_int) (by intro _ _; rfl))) T.fr_tuple (by decide +kernel))) (sa_cons se_non (sa_cons se_str (sa_cons (SF.e sf_dicK) sa_nil))))))))))))) (by kernel_rfl) (by decide) (fun _ _ _ _ _ => (sg_nm (i := 14) (pg_name nd rfl (by first | exact Or.inl rfl | exact Or.inr rfl)))) (fun _ _ _ _ _ => sts_nil) (fun _ _ _ _ _ => (se_tup (sa_cons se_str (sa_cons (se_nm 14 (pv 14)) sa_nil)))))
    (sss_cons (ss_expr (se_lm PySem.F.slot_list_extend PySem.F.type_list_extend mt_extend lm_extend (pv 8) (sa_cons (SF.e (sf_lc (own := [("one", 14)]) rfl nd (si_seq (SF.e (sf_bin (g := addD) op_addA fl_add (sv_nm 7 (pv 7)) (SE.v (SF.e (sf_lst (sa_cons (se_ix (ix_A hr.u1) fl_item (sv_nm 3 (pv 3)) (SE.v se_int) (by intro _ _; rfl)) (sa_cons (SF.e (sf_rev (SE.v (se_ix (ix_A hr.u1) fl_item (sv_nm 7 (pv 7)) (SE.v se_int) (by intro _ _; rfl))) fun a h1 h2 => pe_revL ((SE.v (se_ix (ix_A hr.u1) fl_item (sv_nm 7 (pv 7)) (SE.v se_int) (by intro _ _; rfl))).run a h1 h2))) (sa_cons (SF.e (sf_lst sa_nil)) (sa_cons se_non (sa_cons se_str (sa_cons (SF.e (sf_lst (sa_cons se_non sa_nil))) (sa_cons (SF.e (sf_callTy (g := tupleD) call_tuple_of fl_tuple (SE.v (se_ix (ix_A hr.u1) fl_item (sv_nm 7 (pv 7)) (SE.v se_int) (by intro _ _; rfl))) T.fr_tuple (by decide +kernel))) (sa_cons (SF.e (sf_bin (g := addD) op_addA fl_add (SE.v (se_ix (ix_A hr.u1) fl_item (sv_nm 7 (pv 7)) (SE.v se_int) (by intro _ _; rfl))) (SE.v (SF.e (sf_slice (SE.v (se_ix (ix_A hr.u1) fl_item (sv_nm 7 (pv 7)) (SE.v se_int) (by intro _ _; rfl))) so_none (so_some se_int)))))) sa_nil)))))))))))))) (by kernel_rfl) (by decide) (fun _ _ _ _ _ => (sg_nm (i := 14) (pg_name nd rfl (by first | exact Or.inl rfl | exact Or.inr rfl)))) (fun _ _ _ _ _ => sts_nil) (fun _ _ _ _ _ => (se_tup (sa_cons se_str (sa_cons (se_nm 14 (pv 14)) sa_nil)))))) sa_nil)))
    (sss_cons (ss_for rfl PassesOwn.never (si_seq (SF.e (sf_bin (g := addD) op_addA fl_add (SE.v (SF.e (sf_call (ok__law_mixed T) (hr.mono (by omega)) T.g__law_mixed (aa_cons (a1_rf 1 (pv 1)) (aa_cons (a1_val (se_nz 8 (pv 8))) aa_nil))))) (SE.v (SF.e (sf_lst (sa_cons se_non (sa_cons (se_tup sa_nil) (sa_cons (se_tup (sa_cons se_str sa_nil)) (sa_cons (se_tup (sa_cons se_str (sa_cons (se_ix (ix_A hr.u1) fl_item (sv_nm 3 (pv 3)) (SE.v se_int) (by intro _ _; rfl)) sa_nil))) (sa_cons (SF.e (sf_lst (sa_cons se_str (sa_cons (se_ix (ix_A hr.u1) fl_item (sv_nm 3 (pv 3)) (SE.v se_int) (by intro _ _; rfl)) sa_nil)))) (sa_cons se_str (sa_cons (se_tup (sa_cons se_non (sa_cons (se_ix (ix_A hr.u1) fl_item (sv_nm 3 (pv 3)) (SE.v se_int) (by intro _ _; rfl)) sa_nil))) (sa_cons (se_tup (sa_cons se_str (sa_cons (se_ix (ix_A hr.u1) fl_item (sv_nm 6 (pv 6)) (SE.v se_int) (by intro _ _; rfl)) (sa_cons se_int sa_nil)))) sa_nil)))))))))))))) (sg_nm (i := 9) (pg_name nd rfl (by first | exact Or.inl rfl | exact Or.inr rfl))) (sss_cons (ss_par (i := 10) (j := 11) rfl nd rfl rfl (by decide) rfl rfl (sfs_cons (SE.f (SF.e (sf_call (ok__law_fault T) (hr.mono (by omega)) T.g__law_fault (aa_cons (a1_val (se_nm 3 (pv 3))) (aa_cons (a1_val (se_nm 5 (pv 5))) (aa_cons (a1_val (se_nm 9 (pv 9))) aa_nil)))))) (sfs_cons (SE.f (SF.e (sf_call (ok__law_copied T 8) (hr.mono (by omega)) T.g__law_copied (aa_cons (a1_val (se_nm 9 (pv 9))) aa_nil)))) sfs_nil)))
    (sss_cons (ss_set (i := 12) (SE.f (SF.e (sf_lst (sa_cons (SF.e (sf_call (ok_core_fault T) (hr.mono (by omega)) T.g_core_fault (aa_cons (a1_val (se_nm 4 (pv 4))) (aa_cons (a1_val (se_nm 5 (pv 5))) (aa_cons (a1_val (se_nm 11 (pv 11))) aa_nil))))) (sa_cons (SF.e (sf_callK (pm := [2, 1, 0]) (ok_core_fault T) (hr.mono (by omega)) T.g_core_fault (kb0_of (ks := ["thing", "number", "web"]) T.F_core_fault fun _ _ _ _ _ _ ws hl => match ws, hl with | [_, _, _], _ => rfl) (ak_cons (a1_val (SF.e (sf_call (ok__law_copied T 8) (hr.mono (by omega)) T.g__law_copied (aa_cons (a1_val (se_nm 9 (pv 9))) aa_nil)))) (ak_cons (a1_val (se_nm 5 (pv 5))) (ak_cons (a1_val (se_nm 4 (pv 4))) ak_nil))) rfl)) sa_nil))))) nd rfl (by first | exact Or.inl rfl | exact Or.inr rfl))
    (sss_cons (ss_if (SW.t (sw_or (st_not (st_val (SF.e (sf_call (ok__law_same T 8) (hr.mono (by omega)) T.g__law_same (aa_cons (a1_val (se_nm 12 (pv 12))) (aa_cons (a1_val (SF.e (sf_lst (sa_cons (se_nm 10 (pv 10)) (sa_cons (se_nm 10 (pv 10)) sa_nil))))) aa_nil)))))) (sw_or1 (st_not (st_val (SF.e (sf_call (ok__law_same T 8) (hr.mono (by omega)) T.g__law_same (aa_cons (a1_val (se_nm 11 (pv 11))) (aa_cons (a1_val (se_nm 9 (pv 9))) aa_nil))))))))) (sss_cons (ss_ret (SE.f se_bl))
    sss_nil) sss_nil)
    sss_nil))))
    sss_nil))))))))
    (sss_cons (ss_ret (SE.f se_bl))
    sss_nil))⟩
end
def d_is_list : He.DefD := ⟨("is_list", none), "is_list", "is_list", defArgs s_is_list, defBody s_is_list, defScope s_is_list, [], []⟩
def d_is_whole : He.DefD := ⟨("is_whole", none), "is_whole", "is_whole", defArgs s_is_whole, defBody s_is_whole, defScope s_is_whole, [], []⟩
def d_is_number : He.DefD := ⟨("is_number", none), "is_number", "is_number", defArgs s_is_number, defBody s_is_number, defScope s_is_number, [], []⟩
def d_is_row : He.DefD := ⟨("is_row", none), "is_row", "is_row", defArgs s_is_row, defBody s_is_row, defScope s_is_row, [], []⟩
def d_is_name : He.DefD := ⟨("is_name", none), "is_name", "is_name", defArgs s_is_name, defBody s_is_name, defScope s_is_name, [], []⟩
def d_is_rising : He.DefD := ⟨("is_rising", none), "is_rising", "is_rising", defArgs s_is_rising, defBody s_is_rising, defScope s_is_rising, [], []⟩
def d_first_bad_room : He.DefD := ⟨("first_bad_room", none), "first_bad_room", "first_bad_room", defArgs s_first_bad_room, defBody s_first_bad_room, defScope s_first_bad_room, [], []⟩
def d_Web___init__ : He.DefD := ⟨("Web", some "__init__"), "__init__", "Web.__init__", defArgs s_Web___init__, defBody s_Web___init__, defScope s_Web___init__, [], []⟩
def d_Web_is_wire : He.DefD := ⟨("Web", some "is_wire"), "is_wire", "Web.is_wire", defArgs s_Web_is_wire, defBody s_Web_is_wire, defScope s_Web_is_wire, [], []⟩
def d_Web_rooms : He.DefD := ⟨("Web", some "rooms"), "rooms", "Web.rooms", defArgs s_Web_rooms, defBody s_Web_rooms, defScope s_Web_rooms, [], []⟩
def d_Web_wires : He.DefD := ⟨("Web", some "wires"), "wires", "Web.wires", defArgs s_Web_wires, defBody s_Web_wires, defScope s_Web_wires, [], []⟩
def d_Web_around : He.DefD := ⟨("Web", some "around"), "around", "Web.around", defArgs s_Web_around, defBody s_Web_around, defScope s_Web_around, [], []⟩
def d_Web___eq__ : He.DefD := ⟨("Web", some "__eq__"), "__eq__", "Web.__eq__", defArgs s_Web___eq__, defBody s_Web___eq__, defScope s_Web___eq__, [], []⟩
def d_check_web : He.DefD := ⟨("check_web", none), "check_web", "check_web", defArgs s_check_web, defBody s_check_web, defScope s_check_web, [], []⟩
def d_is_room : He.DefD := ⟨("is_room", none), "is_room", "is_room", defArgs s_is_room, defBody s_is_room, defScope s_is_room, [], []⟩
def d_check_room : He.DefD := ⟨("check_room", none), "check_room", "check_room", defArgs s_check_room, defBody s_check_room, defScope s_check_room, [], []⟩
def d_is_lot_of : He.DefD := ⟨("is_lot_of", none), "is_lot_of", "is_lot_of", defArgs s_is_lot_of, defBody s_is_lot_of, defScope s_is_lot_of, [], []⟩
def d_is_order_of : He.DefD := ⟨("is_order_of", none), "is_order_of", "is_order_of", defArgs s_is_order_of, defBody s_is_order_of, defScope s_is_order_of, [], []⟩
def d_within : He.DefD := ⟨("within", none), "within", "within", defArgs s_within, defBody s_within, defScope s_within, [], []⟩
def d_check_number : He.DefD := ⟨("check_number", none), "check_number", "check_number", defArgs s_check_number, defBody s_check_number, defScope s_check_number, [], []⟩
def d_core_fault : He.DefD := ⟨("core_fault", none), "core_fault", "core_fault", defArgs s_core_fault, defBody s_core_fault, defScope s_core_fault, [], []⟩
def d__law_stream : He.DefD := ⟨("_law_stream", none), "_law_stream", "_law_stream", defArgs s__law_stream, defBody s__law_stream, defScope s__law_stream, [], []⟩
def d__law_draw : He.DefD := ⟨("_law_draw", none), "_law_draw", "_law_draw", defArgs s__law_draw, defBody s__law_draw, defScope s__law_draw, [], []⟩
def d__law_pick : He.DefD := ⟨("_law_pick", none), "_law_pick", "_law_pick", defArgs s__law_pick, defBody s__law_pick, defScope s__law_pick, [], []⟩
def d__law_mixed : He.DefD := ⟨("_law_mixed", none), "_law_mixed", "_law_mixed", defArgs s__law_mixed, defBody s__law_mixed, defScope s__law_mixed, [], []⟩
def d__law_same : He.DefD := ⟨("_law_same", none), "_law_same", "_law_same", defArgs s__law_same, defBody s__law_same, defScope s__law_same, [], []⟩
def d__law_loose : He.DefD := ⟨("_law_loose", none), "_law_loose", "_law_loose", defArgs s__law_loose, defBody s__law_loose, defScope s__law_loose, [], []⟩
def d__law_copied : He.DefD := ⟨("_law_copied", none), "_law_copied", "_law_copied", defArgs s__law_copied, defBody s__law_copied, defScope s__law_copied, [], []⟩
def d__law_names : He.DefD := ⟨("_law_names", none), "_law_names", "_law_names", defArgs s__law_names, defBody s__law_names, defScope s__law_names, [], []⟩
def d__law_around : He.DefD := ⟨("_law_around", none), "_law_around", "_law_around", defArgs s__law_around, defBody s__law_around, defScope s__law_around, [], []⟩
def d__law_are_rooms : He.DefD := ⟨("_law_are_rooms", none), "_law_are_rooms", "_law_are_rooms", defArgs s__law_are_rooms, defBody s__law_are_rooms, defScope s__law_are_rooms, [], []⟩
def d__law_is_lot : He.DefD := ⟨("_law_is_lot", none), "_law_is_lot", "_law_is_lot", defArgs s__law_is_lot, defBody s__law_is_lot, defScope s__law_is_lot, [], []⟩
def d__law_web : He.DefD := ⟨("_law_web", none), "_law_web", "_law_web", defArgs s__law_web, defBody s__law_web, defScope s__law_web, [], []⟩
def d__law_made : He.DefD := ⟨("_law_made", none), "_law_made", "_law_made", defArgs s__law_made, defBody s__law_made, defScope s__law_made, [], []⟩
def d__law_within : He.DefD := ⟨("_law_within", none), "_law_within", "_law_within", defArgs s__law_within, defBody s__law_within, defScope s__law_within, [], []⟩
def d__law_fault : He.DefD := ⟨("_law_fault", none), "_law_fault", "_law_fault", defArgs s__law_fault, defBody s__law_fault, defScope s__law_fault, [], []⟩
def d_law : He.DefD := ⟨("law", none), "law", "law", defArgs s_law, defBody s_law, defScope s_law, [], []⟩
def fnl : List He.DefD := [d_is_list, d_is_whole, d_is_number, d_is_row, d_is_name, d_is_rising, d_first_bad_room, d_Web___init__, d_Web_is_wire, d_Web_rooms, d_Web_wires, d_Web_around, d_Web___eq__, d_check_web, d_is_room, d_check_room, d_is_lot_of, d_is_order_of, d_within, d_check_number, d_core_fault, d__law_stream, d__law_draw, d__law_pick, d__law_mixed, d__law_same, d__law_loose, d__law_copied, d__law_names, d__law_around, d__law_are_rooms, d__law_is_lot, d__law_web, d__law_made, d__law_within, d__law_fault, d_law]
def fal : List He.Fa := [.str "LETTERS" "abcdefghijklmnopqrstuvwxyz", .glo "is_list", .glo "is_whole", .glo "is_number", .glo "is_row", .glo "is_name", .glo "is_rising", .glo "first_bad_room", .glo "Web", .glo "check_web", .glo "is_room", .glo "check_room", .glo "is_lot_of", .glo "is_order_of", .glo "within", .glo "check_number", .glo "core_fault", .glo "_law_stream", .glo "_law_draw", .glo "_law_pick", .glo "_law_mixed", .glo "_law_same", .glo "_law_loose", .glo "_law_copied", .glo "_law_names", .glo "_law_around", .glo "_law_are_rooms", .glo "_law_is_lot", .glo "_law_web", .glo "_law_made", .glo "_law_within", .glo "_law_fault", .glo "law", .free "abs", .free "all", .free "bool", .free "dict", .free "enumerate", .free "int", .free "isinstance", .free "len", .free "list", .free "max", .free "min", .free "range", .free "sorted", .free "str", .free "tuple", .free "zip", .cls "Web", .mkr "Web", .meth "Web" "is_wire", .meth "Web" "rooms", .meth "Web" "wires", .meth "Web" "around", .noat "Web" "own_around", .noat "Web" "own_rooms", .noat "Web" "own_wires"]
abbrev RR : PySem.W.OpenRow := PySem.W.OpenLaw.row PySem.Challenge.rw_huesapart_k13_whole_orders_and_cores_jud
abbrev hk : PySem.W.Hook := hookI 4 fal fnl ["Web"]
def ob (s : PySem.W.SharedT) : He.AlD × Bool := obsIG 4 fal fnl ["Web"] (HandSHeadRun.getT s)
theorem ob_eq (s : PySem.W.SharedT) : ob s = hk.obs s.abs := obsIG_eq (HandSHeadRun.getT_eq s)
theorem run (w : World) : HandSHeadRun.RunEq RR (PySem.W.view RR.prog [44]) hk ob 4000 ((["LETTERS", "is_list", "is_whole", "is_number", "is_row", "is_name", "is_rising", "HueError", "BadRooms", "BadWires", "BadWeb", "BadRoom", "BadNumber", "first_bad_room", "Web", "check_web", "is_room", "check_room", "is_lot_of", "is_order_of"] : List Str) ++ (["within", "check_number", "core_fault", "_law_stream", "_law_draw", "_law_pick", "_law_mixed", "_law_same", "_law_loose", "_law_copied", "_law_names", "_law_around", "_law_are_rooms", "_law_is_lot", "_law_web", "_law_made", "_law_within", "_law_fault"] : List Str)) w := by
  intro os
  kernel_rfl
theorem facts {P : Program} {w : World} {K : PySem.W.Frag} {h : Heap} {mg : Str → Option Value} {f : Addr} (X : K.In h) (G : h.Ns mainGlobals mg) (hfa : mg ("law" : Str) = some (.ref f)) (c : He.SaysD fal fnl K) (ci : (["Web"] : List Str).all (insB K) = true) : ∃ pl : Pl, pl.a_law = f ∧ Fc P w K mg pl := by
  obtain ⟨fd__law_copied, F__law_copied⟩ := c.def_ 27 (d := d__law_copied) rfl
  obtain ⟨fd__law_draw, F__law_draw⟩ := c.def_ 22 (d := d__law_draw) rfl
  obtain ⟨fd__law_are_rooms, F__law_are_rooms⟩ := c.def_ 30 (d := d__law_are_rooms) rfl
  obtain ⟨fd__law_is_lot, F__law_is_lot⟩ := c.def_ 31 (d := d__law_is_lot) rfl
  obtain ⟨fd__law_around, F__law_around⟩ := c.def_ 29 (d := d__law_around) rfl
  obtain ⟨fd__law_within, F__law_within⟩ := c.def_ 34 (d := d__law_within) rfl
  obtain ⟨fd__law_fault, F__law_fault⟩ := c.def_ 35 (d := d__law_fault) rfl
  obtain ⟨fd_is_list, F_is_list⟩ := c.def_ 0 (d := d_is_list) rfl
  obtain ⟨fd_is_row, F_is_row⟩ := c.def_ 3 (d := d_is_row) rfl
  obtain ⟨fd_Web_is_wire, F_Web_is_wire⟩ := c.def_ 8 (d := d_Web_is_wire) rfl
  obtain ⟨fd_is_name, F_is_name⟩ := c.def_ 4 (d := d_is_name) rfl
  obtain ⟨fd_first_bad_room, F_first_bad_room⟩ := c.def_ 6 (d := d_first_bad_room) rfl
  obtain ⟨fd_Web___init__, F_Web___init__⟩ := c.def_ 7 (d := d_Web___init__) rfl
  obtain ⟨fd__law_loose, F__law_loose⟩ := c.def_ 26 (d := d__law_loose) rfl
  obtain ⟨fd__law_mixed, F__law_mixed⟩ := c.def_ 24 (d := d__law_mixed) rfl
  obtain ⟨fd__law_made, F__law_made⟩ := c.def_ 33 (d := d__law_made) rfl
  obtain ⟨fd__law_pick, F__law_pick⟩ := c.def_ 23 (d := d__law_pick) rfl
  obtain ⟨fd__law_same, F__law_same⟩ := c.def_ 25 (d := d__law_same) rfl
  obtain ⟨fd__law_stream, F__law_stream⟩ := c.def_ 21 (d := d__law_stream) rfl
  obtain ⟨fd__law_names, F__law_names⟩ := c.def_ 28 (d := d__law_names) rfl
  obtain ⟨fd__law_web, F__law_web⟩ := c.def_ 32 (d := d__law_web) rfl
  obtain ⟨fd_check_web, F_check_web⟩ := c.def_ 13 (d := d_check_web) rfl
  obtain ⟨fd_is_whole, F_is_whole⟩ := c.def_ 1 (d := d_is_whole) rfl
  obtain ⟨fd_is_number, F_is_number⟩ := c.def_ 2 (d := d_is_number) rfl
  obtain ⟨fd_check_number, F_check_number⟩ := c.def_ 19 (d := d_check_number) rfl
  obtain ⟨fd_is_rising, F_is_rising⟩ := c.def_ 5 (d := d_is_rising) rfl
  obtain ⟨fd_is_room, F_is_room⟩ := c.def_ 14 (d := d_is_room) rfl
  obtain ⟨fd_is_lot_of, F_is_lot_of⟩ := c.def_ 16 (d := d_is_lot_of) rfl
  obtain ⟨fd_is_order_of, F_is_order_of⟩ := c.def_ 17 (d := d_is_order_of) rfl
  obtain ⟨fd_within, F_within⟩ := c.def_ 18 (d := d_within) rfl
  obtain ⟨fd_core_fault, F_core_fault⟩ := c.def_ 20 (d := d_core_fault) rfl
  obtain ⟨fd_law, F_law⟩ := c.def_ 36 (d := d_law) rfl
  have e := hfa.symm.trans (He.glo_ok X G (c.fact 32 (f := .glo "law") rfl))
  cases e
  have gW : mg "Web" = some (.ref (He.ga K "Web")) := He.glo_ok X G (c.fact 8 (f := .glo "Web") rfl)
  refine ⟨⟨(He.ga K "_law_copied"), fd__law_copied, (He.ga K "_law_draw"), fd__law_draw, (He.ga K "_law_are_rooms"), fd__law_are_rooms, (He.ga K "_law_is_lot"), fd__law_is_lot, (He.ga K "_law_around"), fd__law_around, (He.ga K "_law_within"), fd__law_within, (He.ga K "_law_fault"), fd__law_fault, (He.ga K "is_list"), fd_is_list, (He.ga K "is_row"), fd_is_row, (He.ma K (He.ga K "Web") "is_wire"), fd_Web_is_wire, (He.ga K "is_name"), fd_is_name, (He.ga K "first_bad_room"), fd_first_bad_room, (He.ma K (He.ga K "Web") "__init__"), fd_Web___init__, (He.ga K "_law_loose"), fd__law_loose, (He.ga K "_law_mixed"), fd__law_mixed, (He.ga K "_law_made"), fd__law_made, (He.ga K "_law_pick"), fd__law_pick, (He.ga K "_law_same"), fd__law_same, (He.ga K "_law_stream"), fd__law_stream, (He.ga K "_law_names"), fd__law_names, (He.ga K "_law_web"), fd__law_web, (He.ga K "check_web"), fd_check_web, (He.ga K "is_whole"), fd_is_whole, (He.ga K "is_number"), fd_is_number, (He.ga K "check_number"), fd_check_number, (He.ga K "is_rising"), fd_is_rising, (He.ga K "is_room"), fd_is_room, (He.ga K "is_lot_of"), fd_is_lot_of, (He.ga K "is_order_of"), fd_is_order_of, (He.ga K "within"), fd_within, (He.ga K "core_fault"), fd_core_fault, (He.ga K "law"), fd_law, He.ga K "Web"⟩, rfl, ?_⟩
  exact {
    F__law_copied := fun_of F__law_copied
    g__law_copied := He.glo_ok X G (c.fact 23 (f := .glo "_law_copied") rfl)
    F__law_draw := fun_of F__law_draw
    g__law_draw := He.glo_ok X G (c.fact 18 (f := .glo "_law_draw") rfl)
    F__law_are_rooms := fun_of F__law_are_rooms
    g__law_are_rooms := He.glo_ok X G (c.fact 26 (f := .glo "_law_are_rooms") rfl)
    F__law_is_lot := fun_of F__law_is_lot
    g__law_is_lot := He.glo_ok X G (c.fact 27 (f := .glo "_law_is_lot") rfl)
    F__law_around := fun_of F__law_around
    g__law_around := He.glo_ok X G (c.fact 25 (f := .glo "_law_around") rfl)
    F__law_within := fun_of F__law_within
    g__law_within := He.glo_ok X G (c.fact 30 (f := .glo "_law_within") rfl)
    F__law_fault := fun_of F__law_fault
    g__law_fault := He.glo_ok X G (c.fact 31 (f := .glo "_law_fault") rfl)
    F_is_list := fun_of F_is_list
    g_is_list := He.glo_ok X G (c.fact 1 (f := .glo "is_list") rfl)
    F_is_row := fun_of F_is_row
    g_is_row := He.glo_ok X G (c.fact 4 (f := .glo "is_row") rfl)
    F_Web_is_wire := fun_of F_Web_is_wire
    me_Web_is_wire := He.meth_ok (c.fact 51 (f := .meth "Web" "is_wire") rfl)
    F_is_name := fun_of F_is_name
    g_is_name := He.glo_ok X G (c.fact 5 (f := .glo "is_name") rfl)
    F_first_bad_room := fun_of F_first_bad_room
    g_first_bad_room := He.glo_ok X G (c.fact 7 (f := .glo "first_bad_room") rfl)
    F_Web___init__ := fun_of F_Web___init__
    F__law_loose := fun_of F__law_loose
    g__law_loose := He.glo_ok X G (c.fact 22 (f := .glo "_law_loose") rfl)
    F__law_mixed := fun_of F__law_mixed
    g__law_mixed := He.glo_ok X G (c.fact 20 (f := .glo "_law_mixed") rfl)
    F__law_made := fun_of F__law_made
    g__law_made := He.glo_ok X G (c.fact 29 (f := .glo "_law_made") rfl)
    F__law_pick := fun_of F__law_pick
    g__law_pick := He.glo_ok X G (c.fact 19 (f := .glo "_law_pick") rfl)
    F__law_same := fun_of F__law_same
    g__law_same := He.glo_ok X G (c.fact 21 (f := .glo "_law_same") rfl)
    F__law_stream := fun_of F__law_stream
    g__law_stream := He.glo_ok X G (c.fact 17 (f := .glo "_law_stream") rfl)
    F__law_names := fun_of F__law_names
    g__law_names := He.glo_ok X G (c.fact 24 (f := .glo "_law_names") rfl)
    F__law_web := fun_of F__law_web
    g__law_web := He.glo_ok X G (c.fact 28 (f := .glo "_law_web") rfl)
    F_check_web := fun_of F_check_web
    g_check_web := He.glo_ok X G (c.fact 9 (f := .glo "check_web") rfl)
    F_is_whole := fun_of F_is_whole
    g_is_whole := He.glo_ok X G (c.fact 2 (f := .glo "is_whole") rfl)
    F_is_number := fun_of F_is_number
    g_is_number := He.glo_ok X G (c.fact 3 (f := .glo "is_number") rfl)
    F_check_number := fun_of F_check_number
    g_check_number := He.glo_ok X G (c.fact 15 (f := .glo "check_number") rfl)
    F_is_rising := fun_of F_is_rising
    g_is_rising := He.glo_ok X G (c.fact 6 (f := .glo "is_rising") rfl)
    F_is_room := fun_of F_is_room
    g_is_room := He.glo_ok X G (c.fact 10 (f := .glo "is_room") rfl)
    F_is_lot_of := fun_of F_is_lot_of
    g_is_lot_of := He.glo_ok X G (c.fact 12 (f := .glo "is_lot_of") rfl)
    F_is_order_of := fun_of F_is_order_of
    g_is_order_of := He.glo_ok X G (c.fact 13 (f := .glo "is_order_of") rfl)
    F_within := fun_of F_within
    g_within := He.glo_ok X G (c.fact 14 (f := .glo "within") rfl)
    F_core_fault := fun_of F_core_fault
    g_core_fault := He.glo_ok X G (c.fact 16 (f := .glo "core_fault") rfl)
    F_law := fun_of F_law
    g_law := He.glo_ok X G (c.fact 32 (f := .glo "law") rfl)
    gC_Web := gW
    cl_Web := He.cls_ok (c.fact 49 (f := .cls "Web") rfl)
    mk_Web := He.mkr_ok (c.fact 50 (f := .mkr "Web") rfl)
    na_Web := fun f hf => by
        simp only [List.mem_cons, List.not_mem_nil, or_false] at hf
        rcases hf with rfl | rfl | rfl
        · exact He.noat_ok (c.fact 55 (f := .noat "Web" "own_around") rfl)
        · exact He.noat_ok (c.fact 56 (f := .noat "Web" "own_rooms") rfl)
        · exact He.noat_ok (c.fact 57 (f := .noat "Web" "own_wires") rfl)
    ins := insB_ok (by simpa using ci) gW
    fr_abs := He.free_ok X G (c.fact 33 (f := .free "abs") rfl)
    fr_all := He.free_ok X G (c.fact 34 (f := .free "all") rfl)
    fr_bool := He.free_ok X G (c.fact 35 (f := .free "bool") rfl)
    fr_dict := He.free_ok X G (c.fact 36 (f := .free "dict") rfl)
    fr_enumerate := He.free_ok X G (c.fact 37 (f := .free "enumerate") rfl)
    fr_int := He.free_ok X G (c.fact 38 (f := .free "int") rfl)
    fr_isinstance := He.free_ok X G (c.fact 39 (f := .free "isinstance") rfl)
    fr_len := He.free_ok X G (c.fact 40 (f := .free "len") rfl)
    fr_list := He.free_ok X G (c.fact 41 (f := .free "list") rfl)
    fr_max := He.free_ok X G (c.fact 42 (f := .free "max") rfl)
    fr_min := He.free_ok X G (c.fact 43 (f := .free "min") rfl)
    fr_range := He.free_ok X G (c.fact 44 (f := .free "range") rfl)
    fr_sorted := He.free_ok X G (c.fact 45 (f := .free "sorted") rfl)
    fr_str := He.free_ok X G (c.fact 46 (f := .free "str") rfl)
    fr_tuple := He.free_ok X G (c.fact 47 (f := .free "tuple") rfl)
    fr_zip := He.free_ok X G (c.fact 48 (f := .free "zip") rfl)
    ls_LETTERS := by
        obtain ⟨t, h⟩ := He.str_ok X G (c.fact 0 (f := .str "LETTERS" "abcdefghijklmnopqrstuvwxyz") rfl)
        exact ⟨_, h, ⟨t, rfl⟩⟩ }
theorem law_pure (ns : List Int) (h : ns.length ≤ 63) : ∃ e, m_law ((List.replicate 15 Sl.none).set 1 (.stm (.s ns 0 0 19))) = some (.ret (.val (.bl true)) e) := HU.law_pure ns h
end HX
open PySem PySem.W PySem.Calls PyProof.Rows
theorem PySem.Challenge.cw_huesapart_k13_whole_orders_and_cores_jud_holds : PySem.Challenge.rw_huesapart_k13_whole_orders_and_cores_jud.Holds := by
  w_on; o_law
  refine HandSHeadRun.head_any (r := OpenLaw.row PySem.Challenge.rw_huesapart_k13_whole_orders_and_cores_jud) (q := view (OpenLaw.row PySem.Challenge.rw_huesapart_k13_whole_orders_and_cores_jud).prog [44]) (H := HX.hk) (ob := HX.ob) (M := 4000) (loose := (["LETTERS", "is_list", "is_whole", "is_number", "is_row", "is_name", "is_rising", "HueError", "BadRooms", "BadWires", "BadWeb", "BadRoom", "BadNumber", "first_bad_room", "Web", "check_web", "is_room", "check_room", "is_lot_of", "is_order_of"] : List Str) ++ (["within", "check_number", "core_fault", "_law_stream", "_law_draw", "_law_pick", "_law_mixed", "_law_same", "_law_loose", "_law_copied", "_law_names", "_law_around", "_law_are_rooms", "_law_is_lot", "_law_web", "_law_made", "_law_within", "_law_fault"] : List Str)) (d := HandSHeadRun.topDef (OpenLaw.row PySem.Challenge.rw_huesapart_k13_whole_orders_and_cores_jud).prog 44) (kwd := []) HX.ob_eq
    (by kernel_rfl) (fun s => by kernel_rfl) HX.run (by kernel_rfl) (by kernel_rfl) (by kernel_rfl) (by rfl) (by first | assumption | decide +kernel) (by decide +kernel) ⟨rfl, rfl, rfl, rfl, rfl, by decide +kernel⟩ ?hw ?hc
  case hw => w_witness2
  case hc =>
    refine L2.walk_ofE (l := PySem.Challenge.rw_huesapart_k13_whole_orders_and_cores_jud) (n := 63) (k := 12) (x := "script") (CX := L2.CX0) rfl (by decide) (by kernel_rfl) ⟨rfl, by decide, by decide⟩ ?F (fun _ _ _ _ z => z)
    intro w mg fa h Y G hmg0
    obtain ⟨K, KX, c, ci⟩ := Y
    have hmg : mg ("law" : PySem.Str) = some (.ref fa) := by
      have e : (HandSHeadRun.topDef (OpenLaw.row PySem.Challenge.rw_huesapart_k13_whole_orders_and_cores_jud).prog 44).name = ("law" : PySem.Str) := by kernel_rfl
      rw [← e]
      exact hmg0
    obtain ⟨pl, e0, T⟩ := HX.facts (P := (PySem.Challenge.rw_huesapart_k13_whole_orders_and_cores_jud).prog) (w := w) KX G hmg c ci
    subst e0
    refine ⟨K, pl.d_law, HU.spLawG K 1 15 HU.m_law, KX, fun s v => HU.fun_bindsA (ps := ["script"]) T.F_law (fun _ _ _ _ _ _ us hl => match us, hl with | [_], _ => rfl) s [v] rfl, fun H a ns hl _ hS => ?_, fun base kb bn => HX.ok_law T⟩

    obtain ⟨e', he⟩ := HX.law_pure ns hl
    exact ⟨a, ns, e', rfl, hS, he, fun _ => rfl⟩
